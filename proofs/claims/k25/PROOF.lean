import PyProof.Rows.All
import Wide.All
import OpenK.AllK
import Wide.FinOn
import HandS.ForMost
import HandS.Wide
import HandS.Style
import HandS.SortInts
import HandS.Deep
import HandS.Defaults
import HandS.Flow
import HandS.IsInst
import HandS.Codes
import HandS.NoneIn
import HandS.Property
import HandS.RaiseMore
import PyProof.ReprRoads
import PyProof.LongRange
import HandS.Exc
import HandS.ExcInit
import HandS.NestedK
import KE.KExcSuper
import HandS.ExcIs
import HandS.ExcField
import KE.KExcIs
import HandS.WordsExc
import HandS.MakeKwOnly
import HandS.SetFor
import KE.RegKIsAll
import HandS.Conv
import HandS.Dict
import KE.KDictCopyH
import PySem.Challenge.RW_squeezelists_k25_whole_longer_lists_numb
set_option Elab.async false
set_option linter.all false
set_option maxRecDepth 100000
set_option maxHeartbeats 4000000
namespace Sq
open PySem PySem.Spec PyProof.Rows L2
/-! ## operators -/
/-- a power whose base has at most 100000 bits -/
def CPowW (i j : Int) : Prop := 0 ≤ j ∧ j ≤ 1000 ∧ i.natAbs.log2 < 100000
theorem bitsOf_le (i : Int) : Builtin.Int.intBits i ≤ i.natAbs.log2 + 1 := by
  unfold Builtin.Int.intBits
  split <;> omega
theorem op_powW {X : Cx} : OpR X (binaryOp .Pow) (rI CPowW fun i j => .int (i ^ j.toNat)) := opI fun i j _ _ _ _ _ hc q => by
  obtain ⟨h1, h2, h3⟩ := hc
  refine pow_int h1 ?_ q
  have hb := bitsOf_le i
  have h4 : ((Builtin.Int.intBits i : Nat) : Int) ≤ 100000 := by omega
  have h5 := Int.mul_le_mul h4 h2 h1 (by decide : (0 : Int) ≤ 100000)
  exact Int.le_trans h5 (by decide)
def ipIC (C : Int → Int → Prop) (f : Int → Int → Int) : TIp := fun x y H Q => ∃ i j, x = .int i ∧ y = .int j ∧ C i j ∧ Q (.int (f i j)) H
section
variable {X : Cx}
theorem ip_mulW : PIp X .Mult (ipIC CMulW fun i j => i * j) := by
  intro pins s σ H x y v u Q I r1 r2 h
  obtain ⟨i, j, e1, e2, c, q⟩ := h
  subst e1; subst e2
  obtain ⟨t, rfl⟩ := r1
  obtain ⟨t', rfl⟩ := r2
  exact imul_int ⟨.int _, H, I.tok _, ⟨_, rfl⟩, q⟩ c.ok
theorem ip_fdivW : PIp X .FloorDiv (ipIC CDivW fun i j => i / j) := by
  intro pins s σ H x y v u Q I r1 r2 h
  obtain ⟨i, j, e1, e2, c, q⟩ := h
  subst e1; subst e2
  obtain ⟨t, rfl⟩ := r1
  obtain ⟨t', rfl⟩ := r2
  have h1 : (0 : Int) < j := c.1
  refine ifloordiv_int (by omega) ?_ (.inl (PyProof.noPylong_of_log2 c.2))
  rw [Int.fdiv_eq_ediv_of_nonneg i (by omega)]
  exact ⟨.int _, H, I.tok _, ⟨_, rfl⟩, q⟩
end
/-- numbers below 2 ^ n have a small log2 -/
theorem lg_lt {i : Int} {n : Nat} (h : i.natAbs < 2 ^ n) (h0 : 0 < n) : i.natAbs.log2 < n := PySem.Flt.log2_lt_of h0 h

/-! ## sizes -/
/-- at most b bits -/
def Sm (b : Nat) (i : Int) : Prop := i.natAbs < 2 ^ b
theorem Sm.mono {a b : Nat} {i : Int} (h : Sm a i) (hab : a ≤ b) : Sm b i := Nat.lt_of_lt_of_le h (Nat.pow_le_pow_right (by decide) hab)
theorem Sm.lg {b : Nat} {i : Int} (h : Sm b i) (h0 : 0 < b) : i.natAbs.log2 < b := PySem.Flt.log2_lt_of h0 h
theorem Sm.add {b : Nat} {i j : Int} (h : Sm b i) (h' : Sm b j) : Sm (b + 1) (i + j) := by
  have e : 2 ^ (b + 1) = 2 ^ b + 2 ^ b := by rw [Nat.pow_succ]; omega
  unfold Sm at *
  omega
theorem Sm.neg {b : Nat} {i : Int} (h : Sm b i) : Sm b (-i) := by
  unfold Sm at *
  rw [Int.natAbs_neg]
  exact h
theorem Sm.sub {b : Nat} {i j : Int} (h : Sm b i) (h' : Sm b j) : Sm (b + 1) (i - j) := by
  rw [Int.sub_eq_add_neg]
  exact h.add h'.neg
theorem Sm.mul {a b : Nat} {i j : Int} (h : Sm a i) (h' : Sm b j) : Sm (a + b) (i * j) := by
  unfold Sm at *
  rw [Int.natAbs_mul, Nat.pow_add]
  exact Nat.mul_lt_mul'' h h'
theorem Sm.le {b : Nat} {i j : Int} (h : Sm b j) (h0 : 0 ≤ i) (hij : i ≤ j) : Sm b i := by
  unfold Sm at *
  omega
theorem Sm.wide {a b : Nat} {i j : Int} (h : Sm a i) (h' : Sm b j) (ha : 0 < a) (hb : 0 < b) (hab : a + b ≤ 1000000) : CMulW i j := by
  have h1 := h.lg ha
  have h2 := h'.lg hb
  unfold CMulW
  omega
/-- a small number -/
theorem Sm.of {b : Nat} {i : Int} (h : i.natAbs < 2 ^ 10) (hb : 10 ≤ b) : Sm b i := Sm.mono (a := 10) h hb
theorem div_ok {i k : Int} (h : 0 < k) (h2 : k < 2 ^ 240) : CDivW i k := ⟨h, Nat.lt_trans ((show Sm 240 k by unfold Sm; omega).lg (by decide)) (by decide)⟩
theorem pow_ok {b : Nat} {i j : Int} (h : Sm b i) (h0 : 0 < b) (hb : b ≤ 100000) (j0 : 0 ≤ j) (j1 : j ≤ 1000) : CPowW i j := ⟨j0, j1, Nat.lt_of_lt_of_le (h.lg h0) hb⟩
/-! ## rules whose reading speaks of the written part K itself (a comprehension's block has it too) -/
section
variable {X : Cx} {K : PySem.W.Frag}
theorem ix_listK (h : X.K = K := by rfl) : IxR X (rIxL K) := by subst h; exact ix_list
theorem ix_tupK (h : X.K = K := by rfl) : IxR X (rIxT K) := by subst h; exact ix_tup
theorem sl_listK (h : X.K = K := by rfl) : SlR X (rSlL K) := by subst h; exact sl_list
theorem sl_tupK (h : X.K = K := by rfl) : SlR X (rSlT K) := by subst h; exact sl_tup
def rLenQ (K : PySem.W.Frag) : List V → Hp → VK → Prop := fun xs H Q => ∃ p ys, xs = [.ref p] ∧ SqL K H p ys ∧ Q (.int ys.length) H
theorem len_seqK (h : X.K = K := by rfl) : CallR X (.builtin "len") (rLenQ K) := by
  subst h
  intro pins s σ H xs us Q I r q
  obtain ⟨p, ys, e, hs, q⟩ := q
  exact call_len_seq pins s σ H xs us Q I r ⟨p, ys, e, .inl hs, q⟩
/-- readings that are not to be opened by themselves -/
@[irreducible] def rEqQ (K : PySem.W.Frag) : R2 := rEqD K
@[irreducible] def rNeQ (K : PySem.W.Frag) : R2 := rNeD K
@[irreducible] def rInQ (K : PySem.W.Frag) : R2 := rInD K
@[irreducible] def rNotInQ (K : PySem.W.Frag) : R2 := rNotInD K
theorem rEqQ_of {H : Hp} {x y : V} {Q : VK} (h : rEqD K x y H Q) : rEqQ K x y H Q := by unfold rEqQ; exact h
theorem rNeQ_of {H : Hp} {x y : V} {Q : VK} (h : rNeD K x y H Q) : rNeQ K x y H Q := by unfold rNeQ; exact h
theorem rInQ_of {H : Hp} {x y : V} {Q : VK} (h : rInD K x y H Q) : rInQ K x y H Q := by unfold rInQ; exact h
theorem rNotInQ_of {H : Hp} {x y : V} {Q : VK} (h : rNotInD K x y H Q) : rNotInQ K x y H Q := by unfold rNotInQ; exact h
theorem op_eqDK (hu : X.A.units + 64 < cLine) (h : X.K = K := by rfl) : OpR X (compareOp .Eq) (rEqQ K) := by subst h; unfold rEqQ; exact op_eqD hu
theorem op_neDK (hu : X.A.units + 64 < cLine) (h : X.K = K := by rfl) : OpR X (compareOp .NotEq) (rNeQ K) := by subst h; unfold rNeQ; exact op_neD hu
theorem op_inDK (hu : X.A.units + 65 < cLine) (h : X.K = K := by rfl) : OpR X (compareOp .In) (rInQ K) := by subst h; unfold rInQ; exact op_inD hu
theorem op_notInDK (hu : X.A.units + 65 < cLine) (h : X.K = K := by rfl) : OpR X (compareOp .NotIn) (rNotInQ K) := by subst h; unfold rNotInQ; exact op_notInD hu
theorem isiK (h : X.K = K := by rfl) : CallR X (.builtin "isinstance") (rIsi K) := by subst h; exact call_isi
def rListOf (K : PySem.W.Frag) : List V → Hp → VK → Prop := fun xs H Q => ∃ p ys, xs = [.ref p] ∧ SqL K H p ys ∧ ∀ l, H l = none → Q (.ref l) (upd H l (.lst ys))
theorem list_ofK (h : X.K = K := by rfl) : CallR X (.type "list") (rListOf K) := by
  subst h
  intro pins s σ H xs us Q I r q
  obtain ⟨p, ys, e, hs, q⟩ := q
  exact call_list_of pins s σ H xs us Q I r ⟨p, ys, e, .inl hs, q⟩
theorem cr_sumK (hc : X.calm = true) (h : X.K = K := by rfl) : CallR X (.builtin "sum") (rSum K) := by subst h; exact cr_sum hc
theorem cr_maxK (hc : X.calm = true) (h : X.K = K := by rfl) : CallR X (.builtin "max") (rMax K) := by subst h; exact cr_max hc
theorem cr_minK (hc : X.calm = true) (h : X.K = K := by rfl) : CallR X (.builtin "min") (rMin K) := by subst h; exact cr_min hc
theorem cr_allK (hc : X.calm = true) (h : X.K = K := by rfl) : CallR X (.builtin "all") (rAll K) := by subst h; exact cr_all hc
theorem cr_anyK (hc : X.calm = true) (h : X.K = K := by rfl) : CallR X (.builtin "any") (rAny K) := by subst h; exact cr_any hc
theorem cr_sortedIK (h : X.K = K := by rfl) : CallR X (.builtin "sorted") (rSortedI K) := by subst h; exact cr_sortedI
variable {e a b : Expr} {te ta tb : TE} {es : List Expr} {t : TA} {tgs : TGs} {tg : Expr} {pos p q : Pos} {n : Nat}
theorem pi_listK (he : PE X e te) (h : X.K = K := by rfl) : PI X tg e (iList K te) := by subst h; exact pi_list he
theorem pg_tupK {k : Nat} (hc : X.calm = true) (hg : PGs X es tgs) (hn : (assignEach es X.env).length = n := by rfl) (hst : (assignEach es X.env).findIdx? (·.1) = none := by rfl) (h : X.K = K := by rfl) : PG X (.Tuple es k pos) (gTup K n tgs) := by
  subst h
  exact pg_tup hc hg hn hst
theorem pg_lstK {k : Nat} (hc : X.calm = true) (hg : PGs X es tgs) (hn : (assignEach es X.env).length = n := by rfl) (hst : (assignEach es X.env).findIdx? (·.1) = none := by rfl) (h : X.K = K := by rfl) : PG X (.Tuple es k pos) (gUnl K n tgs) := by
  subst h
  exact pg_unl hc hg hn hst
theorem pi_enumK {elts : List Expr} {kk : Nat} (hg : Gl X "enumerate") (hm : X.mg "enumerate" = none) (ha : PA X [e] t) (hs : starEach [e] X.env = [(false, eval e X.env)] := by rfl) (h : X.K = K := by rfl) :
    PI X (.Tuple elts kk p) (.Call (.Name "enumerate" q) [e] [] pos) (iEnum K t) := by
  subst h
  exact pi_enum hg hm ha hs
theorem pi_zipK {elts : List Expr} {kk : Nat} (hg : Gl X "zip") (hm : X.mg "zip" = none) (ha : PA X [a, b] t) (hs : starEach [a, b] X.env = (false, eval a X.env) :: starEach [b] X.env := by rfl)
    (hpl : (backTo pos (starEach [b] X.env)).any (·.1) = false := by rfl) (h : X.K = K := by rfl) : PI X (.Tuple elts kk p) (.Call (.Name "zip" q) [a, b] [] pos) (iZip K t) := by
  subst h
  exact pi_zip hg hm ha hs hpl
theorem pe_revLK {k : Nat} {p1 p2 p3 : Pos} (he : PE X e te) (h : X.K = K := by rfl) : PE X (.Subscript e (.Slice none none (some (.UnaryOp .USub (.Constant (.int 1) k p1) p2)) p3) pos) (tRevL K te) := by
  subst h
  exact pe_revL he
theorem pe_fldK {f : Str} (he : PE X e te) (hb : attributeBase e f X.env (eval e X.env) = eval e X.env := by rfl) (h : X.K = K := by rfl) : PE X (.Attribute e f pos) (tFld K te f) := by
  subst h
  exact pe_fld he hb
end

/-! ## heaps -/
/-- what holds between the turns of a loop (a wrapper: it is not taken apart by itself) -/
structure Keep (P : Prop) : Prop where
  o : P

theorem Same.get {H H' : Hp} {a : Addr} {o : HO} (s : Same H H') (h : H a = some o) : H' a = some o := s a o h
theorem same_new {H : Hp} {p : Addr} {o : HO} (h : H p = none) : Same H (upd H p o) := fun b u e => by
  rw [upd_ne (ne_of_none e h)]
  exact e
theorem upd_keep {H : Hp} {p a : Addr} {o u : HO} (n : H p = none) (h : H a = some u) : upd H p o a = some u := same_new n a u h
theorem upd_off {H : Hp} {p a : Addr} {o u : HO} (n : a ≠ p) (h : H a = some u) : upd H p o a = some u := by
  rw [upd_ne n]
  exact h
/-- a source of draws: what is true of it, where it stands -/
structure Rg where
  I : Hp → Prop
  S : Addr → Prop
  loc : ∀ H H' : Hp, (∀ a, S a → H' a = H a) → I H → I H'
  has : ∀ (H : Hp) (a : Addr), I H → S a → H a ≠ none
/-- the heap H is the quiet part G and the source -/
structure Sep (R : Rg) (G H : Hp) : Prop where
  inv : R.I H
  same : Same G H
  off : ∀ a, R.S a → G a = none
section
variable {R : Rg} {G G' H H' : Hp} {p a : Addr} {o u : HO}
theorem Sep.get (s : Sep R G H) (h : G a = some o) : H a = some o := s.same a o h
theorem Sep.free (s : Sep R G H) (h : H p = none) : G p = none := s.same.free h
theorem Sep.weak (s : Sep R G H) (h : Same G' G) : Sep R G' H := ⟨s.inv, h.trans s.same, fun a ha => by
  cases q : G' a with
  | none => rfl
  | some o =>
    have z := h a o q
    rw [s.off a ha] at z
    cases z⟩
theorem Sep.new (s : Sep R G H) (h : H p = none) (o : HO) : Sep R (upd G p o) (upd H p o) := by
  have np : ∀ a, R.S a → a ≠ p := fun a ha e => R.has H a s.inv ha (by rw [e]; exact h)
  refine ⟨R.loc H _ (fun a ha => upd_ne (np a ha)) s.inv, fun b x e => ?_, fun a ha => by rw [upd_ne (np a ha)]; exact s.off a ha⟩
  by_cases hb : b = p
  · rw [hb, upd_same] at e
    rw [hb, upd_same]
    exact e
  · rw [upd_ne hb] at e
    rw [upd_ne hb]
    exact s.same b x e
/-- a store into an object of the quiet part -/
theorem Sep.put (s : Sep R G H) (h : G p = some u) (o : HO) : Sep R (upd G p o) (upd H p o) := by
  have np : ∀ a, R.S a → a ≠ p := fun a ha e => by
    have z := s.off a ha
    rw [e, h] at z
    cases z
  refine ⟨R.loc H _ (fun a ha => upd_ne (np a ha)) s.inv, fun b x e => ?_, fun a ha => by rw [upd_ne (np a ha)]; exact s.off a ha⟩
  by_cases hb : b = p
  · rw [hb, upd_same] at e
    rw [hb, upd_same]
    exact e
  · rw [upd_ne hb] at e
    rw [upd_ne hb]
    exact s.same b x e
/-- behind something that only makes new things -/
theorem Sep.on (s : Sep R G H) (h : Same H H') : Sep R G H' := by
  refine ⟨R.loc H _ (fun a ha => ?_) s.inv, s.same.trans h, s.off⟩
  cases q : H a with
  | none => exact absurd q (R.has H a s.inv ha)
  | some o => exact h a o q
theorem Sep.grow (s : Sep R G H) (h : Same H H') (n : H p = none) (e : H' p = some o) : Sep R (upd G p o) H' := by
  have s' := s.on h
  have np : ∀ a, R.S a → a ≠ p := fun a ha z => R.has H a s.inv ha (by rw [z]; exact n)
  refine ⟨s'.inv, fun b x q => ?_, fun a ha => by rw [upd_ne (np a ha)]; exact s.off a ha⟩
  by_cases hb : b = p
  · rw [hb, upd_same] at q
    rw [hb, e]
    exact q
  · rw [upd_ne hb] at q
    exact s'.same b x q
end
/-- a source of draws that is a list of three ints: digits, a mix, a count that is at most N -/
def R3 (r : Addr) (N a b c : Int) (H : Hp) : Prop := H r = some (.lst [.int a, .int b, .int c]) ∧ 0 ≤ a ∧ 0 ≤ b ∧ b < 2 ^ 100 ∧ 0 ≤ c ∧ c ≤ N
def rg3 (r : Addr) (N : Int) : Rg where
  I := fun H => ∃ a b c, R3 r N a b c H
  S := fun x => x = r
  loc := fun H H' e ⟨a, b, c, h1, h2⟩ => ⟨a, b, c, (e r rfl).trans h1, h2⟩
  has := fun H x ⟨a, b, c, h1, _⟩ hx => by
    subst hx
    rw [h1]
    exact fun z => nomatch z
theorem Sep3.redo {r : Addr} {N N' : Int} {G H : Hp} {o : HO} (s : Sep (rg3 r N) G H) (h : ∃ a b c, R3 r N' a b c (upd H r o)) : Sep (rg3 r N') G (upd H r o) := by
  refine ⟨h, fun b u q => ?_, s.off⟩
  have nr : b ≠ r := fun z => by
    have := s.off b z
    rw [q] at this
    cases this
  rw [upd_ne nr]
  exact s.same b u q
theorem Sep3.mono {r : Addr} {N N' : Int} {G H : Hp} (s : Sep (rg3 r N) G H) (h : N ≤ N') : Sep (rg3 r N') G H := by
  obtain ⟨a, b, c, h1, h2, h3, h4, h5, h6⟩ := s.inv
  exact ⟨⟨a, b, c, h1, h2, h3, h4, h5, by omega⟩, s.same, s.off⟩
/-- a draw from it -/
def spDraw3 : Sp := fun vs H Q _ => ∃ (r : Addr) (m N : Int) (G : Hp), vs = [.ref r, .int m] ∧ Sep (rg3 r N) G H ∧ Keep (0 < m ∧ m < 2 ^ 240 ∧ N < 2 ^ 60) ∧ ∀ v H', 0 ≤ v → v < m → Sep (rg3 r (N + 1)) G H' → Q (.int v) H'
theorem seqL_of {K : PySem.W.Frag} {H : Hp} {a : Addr} {xs : List V} (h : H a = some (.lst xs)) : SqL K H a xs := .inl (.inl h)
/-- ints as values -/
abbrev iv (ns : List Int) : List V := ns.map V.int
theorem iv_app (ns : List Int) (x : Int) : iv ns ++ [V.int x] = iv (ns ++ [x]) := by simp
theorem iv_len (ns : List Int) : (iv ns).length = ns.length := List.length_map _
theorem iv_get {ns : List Int} {i : Nat} {x : V} (h : (iv ns)[i]? = some x) : ∃ n, ns[i]? = some n ∧ x = .int n := by
  rw [List.getElem?_map] at h
  cases e : ns[i]? with
  | none =>
    rw [e] at h
    cases h
  | some n =>
    rw [e] at h
    exact ⟨n, rfl, (Option.some.inj h).symm⟩

theorem atI_iv {ns : List Int} {i : Int} (h0 : 0 ≤ i) (h1 : i < ns.length) : ∃ n, atI (iv ns) i = some (.int n) := by
  obtain ⟨j, rfl⟩ := Int.eq_ofNat_of_zero_le h0
  have hj : j < ns.length := by omega
  exact ⟨ns[j], atI_nat (by rw [List.getElem?_map, List.getElem?_eq_getElem hj]; rfl)⟩
theorem seqIx0 {n : Nat} (h : 0 < n) : seqIndex? 0 n = some 0 := by
  unfold seqIndex?
  simp
  omega
theorem lit_len {n : Nat} (h : n ≤ 1000) : n ≤ sizeLine := Nat.le_of_lt (small1000 h)
/-- for i, x in enumerate(xs) -/
theorem for_enum {K : PySem.W.Frag} {a : Addr} {xs : List V} {g : TG} {tb : TS} {D : Ends} {σ : L2.St} {H : Hp} (Pv : Nat → L2.St → Hp → Prop) (h0 : Pv 0 σ H) (hq : ∀ i σ H, Pv i σ H → SqL K H a xs)
    (hs : ∀ (i : Nat) (x : V) (T : Addr) (σ : L2.St) (H : Hp), xs[i]? = some x → Pv i σ H → H T = none → g (.ref T) σ (upd H T (.tup [.int (i : Nat), x])) fun σ2 H2 => tb { D with nx := Pv (i + 1), ct := Pv (i + 1), bk := D.nx } σ2 H2) (hd : ∀ σ H, Pv xs.length σ H → D.nx σ H) :
    ∃ W : Nat → Nat → L2.St → Hp → Prop, (∃ m, W 0 m σ H) ∧ ∀ i m σ H, W i m σ H → ((Ite K a).stop i H ∧ D.nx σ H) ∨
      ((Ite K a).go i H ∧ ∃ N : L2.St → Hp → Prop, (∀ σ' H', N σ' H' → ∃ m', m' < m ∧ W (i + 1) m' σ' H') ∧ ∀ v H', (Ite K a).yld i H v H' → g v σ H' fun σ2 H2 => tb { D with nx := N, ct := N, bk := D.nx } σ2 H2) := by
  refine ⟨fun i m σ H => m + i = xs.length ∧ Pv i σ H, ⟨xs.length, rfl, h0⟩, fun i m σ H hW => ?_⟩
  obtain ⟨em, p⟩ := hW
  have q := hq i σ H p
  by_cases lt : i < xs.length
  · have ex : xs[i]? = some xs[i] := List.getElem?_eq_getElem lt
    refine .inr ⟨⟨xs, _, q, ex⟩, Pv (i + 1), fun σ' H' p' => ⟨m - 1, by omega, by omega, p'⟩, fun v H' hy => ?_⟩
    obtain ⟨T, x, rfl, nT, rfl, f⟩ := hy
    exact hs i x T σ H (f xs q) p nT
  · have ei : i = xs.length := by omega
    subst ei
    exact .inl ⟨⟨xs, q, Nat.le_refl _⟩, hd σ H p⟩

/-! ## repr of data, where no repr is under way -/
@[irreducible] def rReprD (K : PySem.W.Frag) : List V → Hp → VK → Prop := fun xs H Q => ∃ (a : Addr) (d : PyData), xs = [.ref a] ∧ Dp K H (.ref a) d ∧ d.showable = true ∧ d.hasDict = false ∧ d.depth ≤ 30 ∧ d.shown.length ≤ sizeLine ∧ Q (.str d.shown) H
theorem call_reprDK {X : Cx} {K : PySem.W.Frag} (hG : X.A.guards = some []) (hu : X.A.units + 64 < cLine) (h : X.K = K := by rfl) : CallR X (.builtin "repr") (rReprD K) := by
  subst h
  intro pins s σ H xs us Q I r h
  unfold rReprD at h
  obtain ⟨a, d, rfl, hd, hs, hn, hdp, hz, q⟩ := h
  obtain ⟨v, rfl, rv⟩ := vals1 r
  cases rv
  obtain ⟨as, rd⟩ := Dp.reads I d _ _ hd rfl
  refine repr_of_reads' rd hs (PyData.noDict_hsm hn) hG (by omega) (fun b o e => e) (fun h' t tk hk => ?_) hz
  exact ⟨.str d.shown, H, I.kept hk, ⟨_, rfl⟩, q⟩
/-! ## lists of ints as data -/
def dI (ns : List Int) : PyData := .list (ns.map .int)
theorem dpall_iv {K : PySem.W.Frag} {H : Hp} : ∀ ns : List Int, DpAll K H (iv ns) (ns.map .int)
  | [] => .nil
  | n :: r => .cons (.int n) (dpall_iv r)
theorem dp_iv {K : PySem.W.Frag} {H : Hp} {a : Addr} {ns : List Int} (h : SqL K H a (iv ns)) : Dp K H (.ref a) (dI ns) := .lst h (dpall_iv ns)
theorem can_ints : ∀ ns : List Int, PyData.canLayAll0 (ns.map .int) = true
  | [] => by simp [PyData.canLayAll0]
  | n :: r => by simp [PyData.canLayAll0, PyData.canLay0, can_ints r]
theorem dep_ints : ∀ ns : List Int, PyData.depthAll (ns.map .int) = 0
  | [] => by simp [PyData.depthAll]
  | n :: r => by simp [PyData.depthAll, PyData.depth, dep_ints r]
theorem eqv_ints : ∀ xs ys : List Int, PyData.eqvAll (xs.map .int) (ys.map .int) = decide (xs = ys)
  | [], [] => by simp [PyData.eqvAll]
  | [], _ :: _ => by simp [PyData.eqvAll]
  | _ :: _, [] => by simp [PyData.eqvAll]
  | x :: r, y :: t => by
    have ih := eqv_ints r t
    simp only [List.map_cons, PyData.eqvAll, PyData.eqv, ih, List.cons.injEq]
    by_cases e : x = y <;> by_cases e2 : r = t <;> simp [e, e2]
theorem shaped_dI (ns : List Int) : SeqAt.shaped (dI ns) = true := by
  unfold SeqAt.shaped dI
  simp only [PyData.canLay0, can_ints, PyData.depth, dep_ints]
  decide
theorem eqv_dI (xs ys : List Int) : PyData.eqv (dI xs) (dI ys) = decide (xs = ys) := by
  unfold dI
  simp only [PyData.eqv, eqv_ints]
theorem shown_ints_len : ∀ ns : List Int, (∀ n ∈ ns, n.natAbs.log2 < 1920) → ((PyData.shownAll (ns.map .int)).map (·.length)).sum ≤ 2000 * ns.length ∧ (PyData.shownAll (ns.map .int)).length = ns.length
  | [], _ => by simp [PyData.shownAll]
  | n :: r, h => by
    obtain ⟨h1, h2⟩ := shown_ints_len r fun m hm => h m (List.mem_cons_of_mem _ hm)
    have e := int_text_length_le (k := 1920) (by decide) (h n (List.mem_cons_self ..))
    have e2 : (PyData.shown (.int n)).length ≤ 2000 := by
      show (Str.ofString (toString n)).length ≤ 2000
      rw [PySem.ofString_length]
      omega
    simp only [List.map_cons, PyData.shownAll, List.sum_cons, List.length_cons]
    omega
theorem show_ints : ∀ ns : List Int, (∀ n ∈ ns, n.natAbs.log2 < 1920) → PyData.showableAll (ns.map .int) = true
  | [], _ => by simp [PyData.showableAll]
  | n :: r, h => by simp [PyData.showableAll, PyData.showable, h n (List.mem_cons_self ..), show_ints r fun m hm => h m (List.mem_cons_of_mem _ hm)]
theorem nod_ints : ∀ ns : List Int, PyData.hasDictAll (ns.map .int) = false
  | [] => by simp [PyData.hasDictAll]
  | n :: r => by simp [PyData.hasDictAll, PyData.hasDict, nod_ints r]
theorem r_eqI {K : PySem.W.Frag} {H : Hp} {a b : Addr} {xs ys : List Int} {Q : VK} (h1 : SqL K H a (iv xs)) (h2 : SqL K H b (iv ys)) (q : Q (.bl (decide (xs = ys))) H) : rEqQ K (.ref a) (.ref b) H Q :=
  rEqQ_of ⟨dI xs, dI ys, dp_iv h1, dp_iv h2, shaped_dI xs, shaped_dI ys, by rw [eqv_dI]; exact q⟩
theorem r_neI {K : PySem.W.Frag} {H : Hp} {a b : Addr} {xs ys : List Int} {Q : VK} (h1 : SqL K H a (iv xs)) (h2 : SqL K H b (iv ys)) (q : Q (.bl (!decide (xs = ys))) H) : rNeQ K (.ref a) (.ref b) H Q :=
  rNeQ_of ⟨dI xs, dI ys, dp_iv h1, dp_iv h2, shaped_dI xs, shaped_dI ys, by rw [eqv_dI]; exact q⟩
theorem r_repr {K : PySem.W.Frag} {H : Hp} {a : Addr} {ns : List Int} {Q : VK} (h1 : SqL K H a (iv ns)) (hl : ns.length ≤ 5000) (hz : ∀ n ∈ ns, n.natAbs.log2 < 1920) (q : Q (.str (dI ns).shown) H) : rReprD K [.ref a] H Q := by
  unfold rReprD
  refine ⟨a, dI ns, rfl, dp_iv h1, ?_, ?_, ?_, ?_, q⟩
  · simp only [dI, PyData.showable]
    exact show_ints ns hz
  · simp only [dI, PyData.hasDict]
    exact nod_ints ns
  · simp only [dI, PyData.depth, dep_ints]
    decide
  · obtain ⟨e1, e2⟩ := shown_ints_len ns hz
    have e3 := listText_len_le (PyData.shownAll (ns.map .int))
    simp only [dI, PyData.shown]
    rw [sizeLine_eq]
    omega
mutual
theorem dp_same {K : PySem.W.Frag} {H H' : Hp} (s : Same H H') : ∀ (d : PyData) (x : V), Dp K H x d → Dp K H' x d
  | .none, _, h => by cases h; exact .non
  | .bool _, _, h => by cases h; exact .bl _
  | .int _, _, h => by cases h; exact .int _
  | .str _, _, h => by cases h; exact .str _
  | .list ds, _, h => by
    cases h with
    | lst a b => exact .lst (s.seq a) (dpall_same s ds _ b)
  | .tuple ds, _, h => by
    cases h with
    | tup a b =>
      refine .tup ?_ (dpall_same s ds _ b)
      rcases a with (a | ⟨o, a⟩) | a
      · exact .inl (.inl (s _ _ a))
      · exact .inl (.inr ⟨o, s _ _ a⟩)
      · exact .inr a
  | .dict _, _, h => nomatch h
theorem dpall_same {K : PySem.W.Frag} {H H' : Hp} (s : Same H H') : ∀ (ds : List PyData) (xs : List V), DpAll K H xs ds → DpAll K H' xs ds
  | [], _, h => by cases h; exact .nil
  | d :: ds, _, h => by
    cases h with
    | cons a b => exact .cons (dp_same s d _ a) (dpall_same s ds _ b)
end
theorem dpall_len {K : PySem.W.Frag} {H : Hp} : ∀ (ds : List PyData) (xs : List V), DpAll K H xs ds → xs.length = ds.length
  | [], _, h => by cases h; rfl
  | d :: ds, _, h => by
    cases h with
    | cons a b => rw [List.length_cons, List.length_cons, dpall_len ds _ b]
theorem dpall_get {K : PySem.W.Frag} {H : Hp} : ∀ (ds : List PyData) (xs : List V), DpAll K H xs ds → ∀ (i : Nat) (d : PyData), ds[i]? = some d → ∃ x, xs[i]? = some x ∧ Dp K H x d
  | [], _, _, _, _, e => by simp at e
  | d :: ds, _, h, i, d', e => by
    cases h with
    | cons a b =>
      cases i with
      | zero =>
        have z : d = d' := by simpa using e
        subst z
        exact ⟨_, rfl, a⟩
      | succ i => exact dpall_get ds _ b i d' (by simpa using e)
theorem tyx_lst {K : PySem.W.Frag} {H : Hp} {a : Addr} {xs : List V} (h : SqL K H a xs) : TyX K H (.ref a) (.type "list") := by
  rcases h with (h | ⟨o, h⟩) | ⟨o, its, n, h1, h2, _⟩
  · exact .base (.lst h)
  · exact .base (.frz h)
  · exact .kList h1 h2
theorem tyx_tup {K : PySem.W.Frag} {H : Hp} {a : Addr} {xs : List V} (h : SqT K H a xs) : TyX K H (.ref a) (.type "tuple") := by
  rcases h with (h | ⟨o, h⟩) | ⟨o, its, n, h1, h2, _⟩
  · exact .base (.tup h)
  · exact .fTuple h
  · exact .kTuple h1 h2
theorem kit_no {K : PySem.W.Frag} : PySem.W.kitOne K (.type "int") (.type "bool") = some false ∧ PySem.W.kitOne K (.type "str") (.type "bool") = some false ∧ PySem.W.kitOne K (.type "list") (.type "bool") = some false ∧
    PySem.W.kitOne K (.type "bool") (.type "int") = some true ∧ PySem.W.kitOne K (.type "int") (.type "int") = some true := ⟨rfl, rfl, rfl, rfl, rfl⟩
/-! ## tests -/
theorem ifD {p A B : Prop} [Decidable p] (h1 : p → A) (h2 : ¬ p → B) : if decide p = true then A else B := by
  by_cases h : p
  · rw [decide_eq_true h]; exact iteT (h1 h)
  · rw [decide_eq_false h]; exact iteF (h2 h)
theorem ifN {p A B : Prop} [Decidable p] (h1 : ¬ p → A) (h2 : p → B) : if (!decide p) = true then A else B := by
  by_cases h : p
  · rw [decide_eq_true h]; exact iteF (h2 h)
  · rw [decide_eq_false h]; exact iteT (h1 h)
theorem ifI {i j : Int} {A B : Prop} (h1 : i = j → A) (h2 : i ≠ j → B) : if decide (V.int i = V.int j) = true then A else B :=
  ifD (fun e => h1 (V.int.inj e)) fun e => h2 fun z => e (congrArg V.int z)
theorem ifIN {i j : Int} {A B : Prop} (h1 : i ≠ j → A) (h2 : i = j → B) : if (!decide (V.int i = V.int j)) = true then A else B :=
  ifN (fun e => h1 fun z => e (congrArg V.int z)) fun e => h2 (V.int.inj e)
/-! ## defs that may ask for repr: called where no repr is under way -/
structure FnG (P : Program) (w : World) (K : PySem.W.Frag) (mg : Str → Option Value) (base : Heap) (CX : CXT) (k : Nat) (f : Addr) (fd : FuncData) (ps : List Str) (sp : Sp) : Prop where
  len : ∀ vs H Q E, sp vs H Q E → vs.length = ps.length
  run : ∀ (A : Around) (outer : List Env) (s : Shared) (H : Hp) (args : Args) (us : List Value) (vs : List V) (Q : VK) (E : XK), Room k A → A.guards = some [] →
    Env0 P w K mg base A outer s H → BindsTo s fd args (ps.zip us) → Vals vs us → sp vs H Q E → codeAny (model P w) A (.call (.ref f) args) (CR CX outer P w H s Q E) s
section
variable {P : Program} {w : World} {K : PySem.W.Frag} {mg : Str → Option Value} {base : Heap} {CX : CXT}
theorem FnG.of {k : Nat} {f : Addr} {fd : FuncData} {ps : List Str} {sp : Sp} (F : FnOk P w K mg base CX k f fd ps sp) : FnG P w K mg base CX k f fd ps sp :=
  ⟨F.len, fun A outer s H args us vs Q E hr _ => F.run A outer s H args us vs Q E hr⟩
theorem fnG_of {k : Nat} {f : Addr} {nm qual : Str} {pms : Arguments} {body : List Stmt} {sc : Scope} {dV kV dc pm cdv ct oc : Value} {an od : Option Addr} {sl : Array (Option Value)} {N ps : List Str} {sp : Sp}
    (lk : K.lookup f = some ⟨oc, od, .func (PySem.W.fnOf nm qual pms body sc dV kV dc pm an cdv ct), sl⟩) (hcd : PySem.W.codeIn K cdv qual = true) (S : FnScope N ps sc) (len : ∀ vs H Q E, sp vs H Q E → vs.length = ps.length)
    (hb : ∀ (A : Around) (outer : List Env) (s : Shared) (H : Hp) (vs : List V) (Q : VK) (E : XK), A.guards = some [] → Room k (A.deeper (envOfC qual sc s.heap.objs.size f cdv)) → sp vs H Q E →
      ∃ t, PSs (cxOf CX P w K mg base N qual sc f cdv A outer s H E) body t ∧ t { nx := fun _ H' => Q .non H', rt := Q } (start N vs) H) :
    FnG P w K mg base CX (k + 1) f (PySem.W.fnOf nm qual pms body sc dV kV dc pm an cdv ct) ps sp := by
  refine ⟨len, ?_⟩
  intro A out s H args us vs Q E room hG env bnd rel pre
  have ln := len _ _ _ _ pre
  have kin : K.In s.heap := env.mod.kin.keeps fun b o e => (env.bs b o e).1
  have nl : s.heap.NoLimit := env.mod.nolimit.keeps fun b o e => (env.bs b o e).1
  have kinds : ∀ y ∈ ps.zip us, sc.names.lookup y.1 = some .local ∨ (sc.names.lookup y.1 = some .cell ∧ ((cellsFrom (s.heap.objs.size + 1) sc.names []).lookup y.1).isSome = true) := by
    rintro ⟨x, v⟩ hy
    rcases S.par x (List.of_mem_zip hy).1 with z | z
    · exact .inl z
    · exact .inr ⟨z, PySem.W.cellsFrom_some _ _ _ (.inl z)⟩
  refine codeAny_call_function room.depth (kin _ _ lk) rfl S.co S.gen rfl (PySem.W.codeRec_of kin hcd) (bnd _ _ _ _ ?_)
  refine wpAny_newFunctionEnv_cells S.kind kinds fun en hen s1 x1 => ?_
  cases hen
  refine ⟨nl.keeps x1.toInCall.keep, codeAny_func ?_⟩
  obtain ⟨t, ht, hq⟩ := hb A out s H vs Q E hG (room.deeper _) pre
  have J0 : Inv (cxOf CX P w K mg base N qual sc f cdv A out s H E) [] (start N vs) H s1 := inv_start S room.hd env ln rel x1
  refine wpAny_mono (ht.run [] s1 (start N vs) H _ J0 hq) (fun fl s2 hs => ?_) fun e s2 hs => hs
  cases fl with
  | ret u =>
    obtain ⟨v, τ, H2, J, rv, q⟩ := hs
    exact ⟨v, H2, J.os, J.bare, J.base, J.hok, rv, q⟩
  | next =>
    obtain ⟨τ, H2, J, q⟩ := hs
    exact ⟨V.non, H2, J.os, J.bare, J.base, J.hok, rfl, q⟩
  | brk =>
    obtain ⟨_, _, _, q⟩ := hs
    cases q
  | cont =>
    obtain ⟨_, _, _, q⟩ := hs
    cases q
end
/-! ## a def of the text: where it stands; its promise -/
structure DefAt (K : PySem.W.Frag) (mg : Str → Option Value) (x : Str) (st : Stmt) (ps : List Str) : Prop where
  ex : ∃ (f : Addr) (fd : FuncData), Fun K x x st f fd ∧ mg x = some (.ref f) ∧ Binds K fd ps []
/-- a def that may be called by its name; dvs: the defaults that fill up -/
structure Cal (P : Program) (w : World) (K : PySem.W.Frag) (mg : Str → Option Value) (base : Heap) (k : Nat) (x : Str) (sp : Sp) (dvs : List V) : Prop where
  ex : ∃ (f : Addr) (fd : FuncData) (ps : List Str) (ds : List Value), FnOk P w K mg base CX0 k f fd ps sp ∧ mg x = some (.ref f) ∧ PySem.W.keepIn K (.ref f) = true ∧ L2.Binds K fd ps ds ∧ Vals dvs ds
/-- a def that may be called by its name; it may ask for repr -/
structure CalG (P : Program) (w : World) (K : PySem.W.Frag) (mg : Str → Option Value) (base : Heap) (k : Nat) (x : Str) (sp : Sp) : Prop where
  ex : ∃ (f : Addr) (fd : FuncData) (ps : List Str), FnG P w K mg base CX0 k f fd ps sp ∧ mg x = some (.ref f) ∧ PySem.W.keepIn K (.ref f) = true ∧ Binds K fd ps []
section
variable {P : Program} {w : World} {K : PySem.W.Frag} {mg : Str → Option Value} {base : Heap}
theorem DefAt.cal {x : Str} {st : Stmt} {ps N : List Str} {k : Nat} {sp : Sp} (D : DefAt K mg x st ps) (S : FnScope N ps (defScope st)) (len : ∀ vs H Q E, sp vs H Q E → vs.length = ps.length)
    (hb : ∀ (f : Addr) (cdv : Value) (A : Around) (outer : List Env) (s : Shared) (H : Hp) (vs : List V) (Q : VK) (E : XK), Room k (A.deeper (envOfC x (defScope st) s.heap.objs.size f cdv)) → sp vs H Q E →
      ∃ t, PSs (cxOf CX0 P w K mg base N x (defScope st) f cdv A outer s H E).nox (defBody st) t ∧ t { nx := fun _ H' => Q .non H', rt := Q } (start N vs) H) : Cal P w K mg base (k + 1) x sp [] := by
  obtain ⟨f, fd, F, hm, b⟩ := D.ex
  exact ⟨f, fd, ps, [], F.ok S len fun cdv A outer s H vs Q E => hb f cdv A outer s H vs Q E, hm, F.kp, b, .nil⟩
theorem DefAt.calG {x : Str} {st : Stmt} {ps N : List Str} {k : Nat} {sp : Sp} (D : DefAt K mg x st ps) (S : FnScope N ps (defScope st)) (len : ∀ vs H Q E, sp vs H Q E → vs.length = ps.length)
    (hb : ∀ (f : Addr) (cdv : Value) (A : Around) (outer : List Env) (s : Shared) (H : Hp) (vs : List V) (Q : VK) (E : XK), A.guards = some [] → Room k (A.deeper (envOfC x (defScope st) s.heap.objs.size f cdv)) → sp vs H Q E →
      ∃ t, PSs (cxOf CX0 P w K mg base N x (defScope st) f cdv A outer s H E).nox (defBody st) t ∧ t { nx := fun _ H' => Q .non H', rt := Q } (start N vs) H) : CalG P w K mg base (k + 1) x sp := by
  obtain ⟨f, fd, ⟨⟨oc, od, kV, doc, pm, an, cdv, ct, osl, rfl, lk, hcd⟩, kp⟩, hm, b⟩ := D.ex
  refine ⟨f, _, ps, fnG_of lk hcd S len fun A outer s H vs Q E hG hr hsp => ?_, hm, kp, b⟩
  obtain ⟨t, h, q⟩ := hb f cdv A outer s H vs Q E hG hr hsp
  exact ⟨t, h.nox, q⟩
theorem okG {x qual : Str} {st : Stmt} {f : Addr} {fd : FuncData} {N ps : List Str} {k : Nat} {sp : Sp} (F : Fun K x qual st f fd) (S : FnScope N ps (defScope st)) (len : ∀ vs H Q E, sp vs H Q E → vs.length = ps.length)
    (hb : ∀ (cdv : Value) (A : Around) (outer : List Env) (s : Shared) (H : Hp) (vs : List V) (Q : VK) (E : XK), A.guards = some [] → Room k (A.deeper (envOfC qual (defScope st) s.heap.objs.size f cdv)) → sp vs H Q E →
      ∃ t, PSs (cxOf CX0 P w K mg base N qual (defScope st) f cdv A outer s H E).nox (defBody st) t ∧ t { nx := fun _ H' => Q .non H', rt := Q } (start N vs) H) : FnG P w K mg base CX0 (k + 1) f fd ps sp := by
  obtain ⟨⟨oc, od, kV, doc, pm, an, cdv, ct, osl, rfl, lk, hcd⟩, kp⟩ := F
  refine fnG_of lk hcd S len fun A outer s H vs Q E hG hr hsp => ?_
  obtain ⟨t, h, q⟩ := hb cdv A outer s H vs Q E hG hr hsp
  exact ⟨t, h.nox, q⟩
theorem calG_of {x : Str} {k : Nat} {sp : Sp} (c : Cal P w K mg base k x sp []) : CalG P w K mg base k x sp := by
  obtain ⟨f, fd, ps, ds, F, hm, kp, b, d⟩ := c.ex
  cases d
  exact ⟨f, fd, ps, FnG.of F, hm, kp, b⟩
theorem Cal.imp {x : Str} {k j : Nat} {sp sp' : Sp} {dvs : List V} (c : Cal P w K mg base k x sp dvs) (hk : k ≤ j) (h : ∀ vs H Q E, sp' vs H Q E → sp vs H Q E) : Cal P w K mg base j x sp' dvs := by
  obtain ⟨f, fd, ps, ds, F, hm, kp, b, d⟩ := c.ex
  exact ⟨f, fd, ps, ds, (F.mono hk).imp h, hm, kp, b, d⟩
end
section
variable {X : Cx} {k j : Nat} {x : Str} {sp : Sp} {p pos : Pos} {e : Expr} {es : List Expr} {t : TA}
theorem pe_c {dvs : List V} (c : Cal X.prog X.w X.K X.mg X.base k x sp dvs) (hr : Room j X.A) (hk : k ≤ j) (hg : Gl X x) (ha : PA X (e :: es) t)
    (hdb : (x == ("__debug__" : Str)) = false := by decide) (he : starEach (e :: es) X.env = (false, eval e X.env) :: starEach es X.env := by rfl) (hpl : (backTo pos (starEach es X.env)).any (·.1) = false := by rfl) :
    PE X (.Call (.Name x p) (e :: es) [] pos) (tCall sp dvs E0 t) := by
  obtain ⟨f, fd, ps, ds, F, hm, kp, bd, vd⟩ := c.ex
  exact L2.pe_call F (hr.mono hk) hg hm kp bd vd pass0 ha hdb he hpl
/-- a call of a def that may ask for repr -/
theorem pe_cG (c : CalG X.prog X.w X.K X.mg X.base k x sp) (hG : X.A.guards = some []) (hr : Room j X.A) (hk : k ≤ j) (hg : Gl X x) (ha : PA X (e :: es) t)
    (hdb : (x == ("__debug__" : Str)) = false := by decide) (he : starEach (e :: es) X.env = (false, eval e X.env) :: starEach es X.env := by rfl) (hpl : (backTo pos (starEach es X.env)).any (·.1) = false := by rfl) :
    PE X (.Call (.Name x p) (e :: es) [] pos) (tCall sp [] E0 t) := by
  obtain ⟨f, fd, ps, F, hm, kp, b⟩ := c.ex
  refine ⟨fun pins s σ H Q I h => wpAny_Call_Name_kw (ld_glob I hg hm ?_ hdb)⟩
  refine PySem.W.callWith_K (h₀ := X.base) I.ok.mod.kin kp (thn (ha.run pos pins s σ H _ I h) fun us s1 hx => ?_) he hpl
  obtain ⟨vs, H1, I1, r, q⟩ := hx
  rw [List.append_nil] at q
  have ln : us.length = ps.length := by rw [← r.length]; exact F.len _ _ _ _ q
  have bb : BindsTo s1 fd ⟨us, []⟩ (ps.zip us) := by
    have z := b s1 us I1.kIn (by rw [List.append_nil]; exact ln)
    rw [List.append_nil] at z
    exact z
  refine ⟨I1.kIn, wpAny_call (codeAny_mono (F.run X.A X.stack s1 H1 ⟨us, []⟩ us vs Q E0 (hr.mono hk) hG I1.env0 bb r q) fun r s' hq => ?_)⟩
  cases r with
  | error e => exact False.elim hq
  | ok fl =>
    cases fl with
    | ret u => exact I1.after hq
    | next => exact False.elim hq
    | brk => exact False.elim hq
    | cont => exact False.elim hq
end
/-! ## methods, properties, new objects -/
structure Met (P : Program) (w : World) (K : PySem.W.Frag) (mg : Str → Option Value) (base : Heap) (k : Nat) (C : Addr) (m : Str) (sp : Sp) : Prop where
  ex : ∃ (f : Addr) (fd : FuncData) (ps : List Str), Cls K C ∧ Meth K C m f ∧ FnOk P w K mg base CX0 k f fd ps sp ∧ L2.Binds K fd ps []
structure Prp (P : Program) (w : World) (K : PySem.W.Frag) (mg : Str → Option Value) (base : Heap) (k : Nat) (C : Addr) (m : Str) (sp : Sp) : Prop where
  ex : ∃ (f p : Addr) (fd : FuncData) (ps : List Str), Cls K C ∧ PropOf K C m p f ∧ FnOk P w K mg base CX0 k f fd ps sp ∧ L2.Binds K fd ps []
structure Mak (P : Program) (w : World) (K : PySem.W.Frag) (mg : Str → Option Value) (base : Heap) (k : Nat) (x : Str) (C : Addr) (sp : Sp) : Prop where
  ex : ∃ (f : Addr) (fd : FuncData) (ps : List Str), Mk K C f ∧ FnOk P w K mg base CX0 k f fd ps sp ∧ mg x = some (.ref C) ∧ L2.Binds K fd ps []
section
variable {X : Cx} {k j : Nat} {C : Addr} {x m : Str} {sp : Sp} {p pos apos : Pos} {e o : Expr} {es : List Expr} {ta : TE} {t : TA}
theorem pe_m {pl : Sem Bool} (c : Met X.prog X.w X.K X.mg X.base k C m sp) (hr : Room j X.A) (hk : k ≤ j) (he : PE X o ta) (ha : PA X (e :: es) t)
    (ht : eval (.Call (.Attribute o m apos) (e :: es) [] pos) X.env = (do
      let ov ← eval o X.env
      standAt apos.atName
      let (f, first) ← holding [ov] (getMethod ov m pl)
      callWith pos f first (backTo pos (starEach (e :: es) X.env)) (backToKw pos (keywordEach [] X.env))) := by rfl)
    (hst : starEach (e :: es) X.env = (false, eval e X.env) :: starEach es X.env := by rfl) (hpl : (backTo pos (starEach es X.env)).any (·.1) = false := by rfl) : PE X (.Call (.Attribute o m apos) (e :: es) [] pos) (tMeth C m sp [] E0 ta t) := by
  obtain ⟨f, fd, ps, c1, c2, F, b⟩ := c.ex
  exact L2.pe_meth (pl := pl) he c1 c2 F (hr.mono hk) b .nil pass0 ha hst hpl ht
theorem pe_mk (c : Mak X.prog X.w X.K X.mg X.base k x C sp) (hr : Room j X.A) (hk : k + 1 ≤ j) (hg : Gl X x) (ha : PA X (e :: es) t)
    (hdb : (x == ("__debug__" : Str)) = false := by decide) (he : starEach (e :: es) X.env = (false, eval e X.env) :: starEach es X.env := by rfl) (hpl : (backTo pos (starEach es X.env)).any (·.1) = false := by rfl) :
    PE X (.Call (.Name x p) (e :: es) [] pos) (tMake C sp [] E0 t) := by
  obtain ⟨f, fd, ps, M, F, hm, b⟩ := c.ex
  exact L2.pe_make M F (hr.mono hk) hg hm b .nil pass0 ha hdb he hpl
theorem pe_p (c : Prp X.prog X.w X.K X.mg X.base k C m sp) (hr : Room j X.A) (hk : k + 1 ≤ j) (he : PE X e ta) (hab : attributeBase e m X.env (eval e X.env) = eval e X.env := by rfl) : PE X (.Attribute e m pos) (tProp C sp [] E0 ta) := by
  obtain ⟨f, q, fd, ps, c1, c2, F, b⟩ := c.ex
  exact L2.pe_prop he c1 c2 F (hr.mono hk) b .nil pass0 hab
end
section
variable {X : Cx} {K : PySem.W.Frag} {C : Addr} {k j : Nat} {m f : Str} {sp : Sp} {ta tv : TE} {o value : Expr} {pos pos' apos tpos : Pos}
theorem pe_m0 {pl : Sem Bool} (c : Met X.prog X.w X.K X.mg X.base k C m sp) (hr : Room j X.A) (hk : k ≤ j) (he : PE X o ta)
    (ht : eval (.Call (.Attribute o m apos) [] [] pos) X.env = (do
      let ov ← eval o X.env
      standAt apos.atName
      let (f, first) ← holding [ov] (getMethod ov m pl)
      callWith pos f first (backTo pos (starEach [] X.env)) (backToKw pos (keywordEach [] X.env))) := by rfl) : PE X (.Call (.Attribute o m apos) [] [] pos) (tMeth C m sp [] E0 ta tNil) := by
  obtain ⟨f, fd, ps, c1, c2, F, b⟩ := c.ex
  exact L2.pe_meth0 (pl := pl) he c1 c2 F (hr.mono hk) b .nil pass0 ht
theorem ps_fldK (ha : PE X o ta) (hv : PE X value tv) (hs : swapsWith value (some (.Attribute o f pos')) pos.line X.env = pure false) (h : X.K = K := by rfl) : PS X (.Assign [.Attribute o f pos'] value pos) (sFld K ta tv f) := by
  subst h
  exact ps_fld ha hv hs
theorem ps_fldaugK {op : Operator} {rd : V → V → Hp → VK → Prop} (ha : PE X o ta) (hv : PE X value tv) (hop : InOp X op rd) (h : X.K = K := by rfl) : PS X (.AugAssign (.Attribute o f tpos) op value pos) (sFldAug K ta tv rd f) := by
  subst h
  exact ps_fldaug ha hv hop
end
/-- a method of the text -/
structure MetAt (K : PySem.W.Frag) (C : Addr) (m qual : Str) (st : Stmt) (ps : List Str) : Prop where
  ex : ∃ (f : Addr) (fd : FuncData), Fun K m qual st f fd ∧ Meth K C m f ∧ L2.Binds K fd ps []
section
variable {P : Program} {w : World} {K : PySem.W.Frag} {mg : Str → Option Value} {base : Heap} {C : Addr} {m x qual : Str} {st : Stmt} {ps N : List Str} {k : Nat} {sp : Sp}
theorem MetAt.met (D : MetAt K C m qual st ps) (cl : Cls K C) (S : FnScope N ps (defScope st)) (len : ∀ vs H Q E, sp vs H Q E → vs.length = ps.length)
    (hb : ∀ (f : Addr) (cdv : Value) (A : Around) (outer : List Env) (s : Shared) (H : Hp) (vs : List V) (Q : VK) (E : XK), Room k (A.deeper (envOfC qual (defScope st) s.heap.objs.size f cdv)) → sp vs H Q E →
      ∃ t, PSs (cxOf CX0 P w K mg base N qual (defScope st) f cdv A outer s H E).nox (defBody st) t ∧ t { nx := fun _ H' => Q .non H', rt := Q } (start N vs) H) : Met P w K mg base (k + 1) C m sp := by
  obtain ⟨f, fd, F, hm, b⟩ := D.ex
  exact ⟨f, fd, ps, cl, hm, F.ok S len fun cdv A outer s H vs Q E => hb f cdv A outer s H vs Q E, b⟩
end
/-- a class's __init__ of the text -/
structure IniAt (K : PySem.W.Frag) (mg : Str → Option Value) (C : Addr) (x qual : Str) (st : Stmt) (ps : List Str) : Prop where
  ex : ∃ (f : Addr) (fd : FuncData), Fun K "__init__" qual st f fd ∧ Mk K C f ∧ mg x = some (.ref C) ∧ L2.Binds K fd ps []
/-- a property of the text -/
structure PrpAt (K : PySem.W.Frag) (C : Addr) (m qual : Str) (st : Stmt) (ps : List Str) : Prop where
  ex : ∃ (f p : Addr) (fd : FuncData), Fun K m qual st f fd ∧ PropOf K C m p f ∧ L2.Binds K fd ps []
section
variable {P : Program} {w : World} {K : PySem.W.Frag} {mg : Str → Option Value} {base : Heap} {C : Addr} {m x qual : Str} {st : Stmt} {ps N : List Str} {k : Nat} {sp : Sp}
theorem IniAt.mak (D : IniAt K mg C x qual st ps) (S : FnScope N ps (defScope st)) (len : ∀ vs H Q E, sp vs H Q E → vs.length = ps.length)
    (hb : ∀ (f : Addr) (cdv : Value) (A : Around) (outer : List Env) (s : Shared) (H : Hp) (vs : List V) (Q : VK) (E : XK), Room k (A.deeper (envOfC qual (defScope st) s.heap.objs.size f cdv)) → sp vs H Q E →
      ∃ t, PSs (cxOf CX0 P w K mg base N qual (defScope st) f cdv A outer s H E).nox (defBody st) t ∧ t { nx := fun _ H' => Q .non H', rt := Q } (start N vs) H) : Mak P w K mg base (k + 1) x C sp := by
  obtain ⟨f, fd, F, hm, hg, b⟩ := D.ex
  exact ⟨f, fd, ps, hm, F.ok S len fun cdv A outer s H vs Q E => hb f cdv A outer s H vs Q E, hg, b⟩
theorem PrpAt.prp (D : PrpAt K C m qual st ps) (cl : Cls K C) (S : FnScope N ps (defScope st)) (len : ∀ vs H Q E, sp vs H Q E → vs.length = ps.length)
    (hb : ∀ (f : Addr) (cdv : Value) (A : Around) (outer : List Env) (s : Shared) (H : Hp) (vs : List V) (Q : VK) (E : XK), Room k (A.deeper (envOfC qual (defScope st) s.heap.objs.size f cdv)) → sp vs H Q E →
      ∃ t, PSs (cxOf CX0 P w K mg base N qual (defScope st) f cdv A outer s H E).nox (defBody st) t ∧ t { nx := fun _ H' => Q .non H', rt := Q } (start N vs) H) : Prp P w K mg base (k + 1) C m sp := by
  obtain ⟨f, p, fd, F, hm, b⟩ := D.ex
  exact ⟨f, p, fd, ps, cl, hm, F.ok S len fun cdv A outer s H vs Q E => hb f cdv A outer s H vs Q E, b⟩
end
/-- all but o stands -/
def But (o : Addr) (H H' : Hp) : Prop := ∀ b u, b ≠ o → H b = some u → H' b = some u
theorem But.refl (o : Addr) (H : Hp) : But o H H := fun _ _ _ h => h
theorem But.trans {o : Addr} {H H1 H2 : Hp} (a : But o H H1) (b : But o H1 H2) : But o H H2 := fun c u n h => b c u n (a c u n h)
theorem But.of {o : Addr} {H H1 : Hp} (s : Same H H1) : But o H H1 := fun b u _ h => s b u h
theorem But.put {o : Addr} {H : Hp} {u : HO} : But o H (upd H o u) := fun b x n h => by
  rw [upd_ne n]
  exact h
theorem But.seq {K : PySem.W.Frag} {o a : Addr} {H H' : Hp} {xs : List V} (b : But o H H') (n : a ≠ o) (h : H a = some (.lst xs)) : SqL K H' a xs := seqL_of (b a _ n h)
theorem Sep.but {R : Rg} {G H H' : Hp} {o : Addr} {u u' : HO} (s : Sep R G H) (h : G o = some u) (b : But o H H') (e : H' o = some u') : Sep R (upd G o u') H' := by
  have no : ∀ a, R.S a → a ≠ o := fun a ha z => by
    have q := s.off a ha
    rw [z, h] at q
    cases q
  refine ⟨R.loc H _ (fun a ha => ?_) s.inv, fun c x q => ?_, fun a ha => by rw [upd_ne (no a ha)]; exact s.off a ha⟩
  · cases q : H a with
    | none => exact absurd q (R.has H a s.inv ha)
    | some z => exact b a z (no a ha) q
  · by_cases hc : c = o
    · rw [hc, upd_same] at q
      rw [hc, e]
      exact q
    · rw [upd_ne hc] at q
      exact b c x hc (s.same c x q)

theorem Sep.add {R : Rg} {G0 H0 G H : Hp} {l : Addr} {u : HO} (s0 : Sep R G0 H0) (n : H0 l = none) (s : Sep R G H) (e : H l = some u) : Sep R (upd G l u) H := by
  have nl : ∀ a, R.S a → a ≠ l := fun a ha z => R.has H0 a s0.inv ha (by rw [z]; exact n)
  refine ⟨s.inv, fun b x q => ?_, fun a ha => by rw [upd_ne (nl a ha)]; exact s.off a ha⟩
  by_cases hb : b = l
  · rw [hb, upd_same] at q
    rw [hb, e]
    exact q
  · rw [upd_ne hb] at q
    exact s.same b x q

/-! ## calls by keywords alone -/
/-- a def called with the keywords ks alone: sp speaks of their values -/
structure CalK (P : Program) (w : World) (K : PySem.W.Frag) (mg : Str → Option Value) (base : Heap) (k : Nat) (x : Str) (ks : List Str) (sp : Sp) : Prop where
  ex : ∃ (f : Addr) (fd : FuncData) (ps : List Str) (spf : Sp) (g : List Value → List Value → List Value) (gV : List V → List V → List V),
    FnOk P w K mg base CX0 k f fd ps spf ∧ mg x = some (.ref f) ∧ PySem.W.keepIn K (.ref f) = true ∧ KBn K fd ps 0 ks g gV ∧ ∀ zs H Q E, sp zs H Q E → zs.length = ks.length ∧ spf (gV [] zs) H Q E
def tCk (sp : Sp) (tk : TA) : TE := fun σ H Q => tk σ H fun zs H1 => sp zs H1 Q E0
section
variable {X : Cx} {k j : Nat} {x : Str} {ks : List Str} {sp : Sp} {p pos : Pos} {kws : List Keyword} {tk : TA}
theorem pe_ck (c : CalK X.prog X.w X.K X.mg X.base k x ks sp) (hr : Room j X.A) (hk : k ≤ j) (hg : Gl X x) (hkw : PK X kws tk)
    (hall : (backToKw pos (keywordEach kws X.env)).all (·.1.isSome) = true := by rfl) (hks : (backToKw pos (keywordEach kws X.env)).filterMap (·.1) = ks := by rfl) (hdb : (x == ("__debug__" : Str)) = false := by decide)
    (hpl : ((backTo pos (starEach [] X.env)).any (·.1) || (backToKw pos (keywordEach kws X.env)).any (·.1.isNone)) = false := by rfl) : PE X (.Call (.Name x p) [] kws pos) (tCk sp tk) := by
  obtain ⟨f, fd, ps, spf, g, gV, F, hm, kp, hb, hs⟩ := c.ex
  refine ⟨fun pins s σ H Q I h => wpAny_Call_Name_kw (ld_glob I hg hm ?_ hdb)⟩
  refine PySem.W.callWith_KW0 (h₀ := X.base) I.ok.mod.kin kp hall (thn (hkw.run pos pins s σ H _ I h) fun ws s1 hx => ?_) hpl
  obtain ⟨zs, H1, I1, rz, q⟩ := hx
  obtain ⟨lz, q⟩ := hs _ _ _ _ q
  refine ⟨I1.kIn, ?_⟩
  rw [hks]
  exact run_fnN F (hr.mono hk) hb pass0 I1 .nil rz rfl lz q
end

/-! ## a def with defaults, called by place or by keywords -/
section
variable {P : Program} {w : World} {K : PySem.W.Frag} {mg : Str → Option Value} {base : Heap} {x qual : Str} {pms : Arguments} {body : List Stmt} {sc : Scope} {dvs : List V} {f : Addr} {fd : FuncData} {ps ks : List Str}
/-- all parameters by keywords; g brings the values in the parameters' order -/
theorem kbn_dflt (F : FunD K x qual pms body sc dvs [] f fd) (hd : dvs ≠ []) (g : {α : Type} → List α → List α) (hg : ∀ {vs : List V} {us : List Value}, Vals vs us → Vals (g vs) (g us))
    (h : ∀ (T : Addr) (kV doc pm : Value) (an : Option Addr) (cdv ct : Value) (ws its : List Value), ws.length = ks.length → its.length = dvs.length →
      ∃ k, bindArgs (PySem.W.fnOf x qual pms body sc (.ref T) kV doc pm an cdv ct) ⟨[], ks.zip ws⟩ = seqItems? (.ref T) >>= k ∧ k (some its.toArray) = pure (ps.zip (g ws))) : KBn K fd ps 0 ks (fun _ ws => g ws) (fun _ zs => g zs) := by
  obtain ⟨oc, od, dV, kV, doc, pm, an, cdv, ct, osl, rfl, lk, hcd, hD, hK⟩ := F.ex
  rcases hD with ⟨e, _⟩ | ⟨_, T, o, its, m, rfl, lT, oT, rT⟩
  · exact absurd e hd
  · refine ⟨fun s us ws X l1 l2 => ?_, fun r1 r2 => hg r2⟩
    cases us with
    | cons u us => cases l1
    | nil =>
      obtain ⟨k, e1, e2⟩ := h T kV doc pm an cdv ct ws its l2 rT.length.symm
      refine BindsTo.of_looks fun M => ?_
      rw [e1]
      exact looks_items X lT oT (.of_pure e2)
/-- .. of a def without defaults -/
theorem kbn_plain {st : Stmt} (F : Fun K x qual st f fd) (g : {α : Type} → List α → List α) (hg : ∀ {vs : List V} {us : List Value}, Vals vs us → Vals (g vs) (g us))
    (h : ∀ (kV doc pm : Value) (an : Option Addr) (cdv ct : Value) (ws : List Value), ws.length = ks.length →
      bindArgs (PySem.W.fnOf x qual (defArgs st) (defBody st) (defScope st) .none kV doc pm an cdv ct) ⟨[], ks.zip ws⟩ = pure (ps.zip (g ws))) : KBn K fd ps 0 ks (fun _ ws => g ws) (fun _ zs => g zs) := by
  obtain ⟨oc, od, kV, doc, pm, an, cdv, ct, osl, rfl, lk, hcd⟩ := F.ex
  refine ⟨fun s us ws X l1 l2 => ?_, fun r1 r2 => hg r2⟩
  cases us with
  | cons u us => cases l1
  | nil => exact .of_eq (h kV doc pm an cdv ct ws l2)
theorem calK_mk {k : Nat} {spf sp : Sp} {g : List Value → List Value → List Value} {gV : List V → List V → List V} (F : FnOk P w K mg base CX0 k f fd ps spf) (hm : mg x = some (.ref f)) (kp : PySem.W.keepIn K (.ref f) = true) (b : KBn K fd ps 0 ks g gV)
    (h : ∀ zs H Q E, sp zs H Q E → zs.length = ks.length ∧ spf (gV [] zs) H Q E) : CalK P w K mg base k x ks sp := ⟨f, fd, ps, spf, g, gV, F, hm, kp, b, h⟩
end
/-- a def without defaults that is called by place and by keywords -/
structure Def2 (P : Program) (w : World) (K : PySem.W.Frag) (mg : Str → Option Value) (base : Heap) (k : Nat) (x : Str) (st : Stmt) (ps : List Str) (sp : Sp) : Prop where
  ex : ∃ (f : Addr) (fd : FuncData), Fun K x x st f fd ∧ mg x = some (.ref f) ∧ Binds K fd ps [] ∧ FnOk P w K mg base CX0 k f fd ps sp
section
variable {P : Program} {w : World} {K : PySem.W.Frag} {mg : Str → Option Value} {base : Heap} {x : Str} {st : Stmt} {ps ks N : List Str} {k : Nat} {sp sp' : Sp}
theorem DefAt.two (D : DefAt K mg x st ps) (S : FnScope N ps (defScope st)) (len : ∀ vs H Q E, sp vs H Q E → vs.length = ps.length)
    (hb : ∀ (f : Addr) (cdv : Value) (A : Around) (outer : List Env) (s : Shared) (H : Hp) (vs : List V) (Q : VK) (E : XK), Room k (A.deeper (envOfC x (defScope st) s.heap.objs.size f cdv)) → sp vs H Q E →
      ∃ t, PSs (cxOf CX0 P w K mg base N x (defScope st) f cdv A outer s H E).nox (defBody st) t ∧ t { nx := fun _ H' => Q .non H', rt := Q } (start N vs) H) : Def2 P w K mg base (k + 1) x st ps sp := by
  obtain ⟨f, fd, F, hm, b⟩ := D.ex
  exact ⟨f, fd, F, hm, b, F.ok S len fun cdv A outer s H vs Q E => hb f cdv A outer s H vs Q E⟩
theorem Def2.cal (D : Def2 P w K mg base k x st ps sp) : Cal P w K mg base k x sp [] := by
  obtain ⟨f, fd, F, hm, b, ok⟩ := D.ex
  exact ⟨f, fd, ps, [], ok, hm, F.kp, b, .nil⟩
theorem Def2.calK (D : Def2 P w K mg base k x st ps sp) (g : {α : Type} → List α → List α) (hg : ∀ {vs : List V} {us : List Value}, Vals vs us → Vals (g vs) (g us))
    (h : ∀ (kV doc pm : Value) (an : Option Addr) (cdv ct : Value) (ws : List Value), ws.length = ks.length →
      bindArgs (PySem.W.fnOf x x (defArgs st) (defBody st) (defScope st) .none kV doc pm an cdv ct) ⟨[], ks.zip ws⟩ = pure (ps.zip (g ws))) (hs : ∀ zs H Q E, sp' zs H Q E → zs.length = ks.length ∧ sp (g zs) H Q E) : CalK P w K mg base k x ks sp' := by
  obtain ⟨f, fd, F, hm, b, ok⟩ := D.ex
  exact calK_mk ok hm F.kp (kbn_plain F g hg h) hs
end
theorem perm_sorted_eq : ∀ {xs ys : List Int}, xs.Perm ys → xs.Pairwise (· ≤ ·) → ys.Pairwise (· ≤ ·) → xs = ys
  | [], ys, p, _, _ => (List.nil_perm.mp p).symm
  | x :: r, [], p, _, _ => absurd (List.perm_nil.mp p) (by simp)
  | x :: r, y :: t, p, h1, h2 => by
    have a1 := (List.pairwise_cons.mp h1).1
    have a2 := (List.pairwise_cons.mp h2).1
    have m1 : x ∈ y :: t := p.mem_iff.mp (List.mem_cons_self ..)
    have m2 : y ∈ x :: r := p.mem_iff.mpr (List.mem_cons_self ..)
    have e : x = y := by
      rcases List.mem_cons.mp m1 with z | z
      · exact z
      · rcases List.mem_cons.mp m2 with z2 | z2
        · exact z2.symm
        · have := a1 y z2
          have := a2 x z
          omega
    subst e
    rw [perm_sorted_eq (List.Perm.cons_inv p) (List.pairwise_cons.mp h1).2 (List.pairwise_cons.mp h2).2]

/-! ## a law's end, of a law that may ask for repr -/
theorem law_endG {P : Program} {w : World} {K : PySem.W.Frag} {mg mb : Str → Option Value} {k : Nat} {fa a : Addr} {fd : FuncData} {x : Str} {sp : Sp} {s₁ : Shared} {vs : List Value} {ns : List Int}
    (KX : K.In s₁.heap) (hns : s₁.heap.Ns mainGlobals mg) (hb : s₁.heap.Ns builtinsNs mb) (hbb : ∀ x : Str, x ≠ "__name__" → mb x = bootBuiltins x) (hlim : s₁.heap.NoLimit) (hg : s₁.gens = #[])
    (ha : s₁.heap.get? a = some { cls := .type "list", data := .seq vs.toArray }) (hi : IntsAre vs ns) (hl : ns.length ≤ sizeLine) (hr : Room k callerA)
    (F : ∀ base : Heap, K.In base → base.Ns mainGlobals mg → FnG P w K mg base CX0 k fa fd [x] sp) (hbind : ∀ (s : Shared) (u : Value), BindsTo s fd ⟨[u], []⟩ [(x, u)])
    (hsp : ∀ H : Hp, Only H → SqL K H a (iv ns) → sp [.ref a] H (fun v _ => v = .bl true) fun _ _ _ => False) :
    codeAny (model P w) callerA (.call (.ref fa) ⟨[.ref a], []⟩) (fun r s' => r = .ok (.ret (.bool true)) ∧ OldK s₁.heap s'.heap ∧ s'.os = s₁.os ∧ AllBare s'.gens) s₁ := by
  have rel := vals_ints hi
  have same : ∀ H : Hp, Only H → SqL K H a (iv ns) → HOk P w H s₁.heap → (∀ b, H b ≠ none → b = a) → (H a ≠ none → K.lookup a = none) →
      codeAny (model P w) callerA (.call (.ref fa) ⟨[.ref a], []⟩) (fun r s' => r = .ok (.ret (.bool true)) ∧ OldK s₁.heap s'.heap ∧ s'.os = s₁.os ∧ AllBare s'.gens) s₁ := by
    intro H only sq hok at_a k_a
    have nonK : ∀ {b : Addr} {o : Obj}, K.lookup b = some o → H b = none := by
      intro b o e
      cases q : H b with
      | none => rfl
      | some u =>
        have z := at_a b (by rw [q]; simp)
        subst z
        rw [k_a (by rw [q]; simp)] at e
        cases e
    have nonD : ∀ {b : Addr} {o : Obj} {es : Array DictEntry} {ep : Nat}, s₁.heap.get? b = some o → o.data = .dict es ep → H b = none := by
      intro b o es ep e d
      cases q : H b with
      | none => rfl
      | some u =>
        have z := at_a b (by rw [q]; simp)
        subst z
        rw [ha] at e
        cases e
        cases d
    have nsB : ∀ {b : Addr} {m : Str → Option Value}, s₁.heap.Ns b m → (hidT s₁.heap H).Ns b m := by
      rintro b m ⟨o, es, ep, e, d, r⟩
      exact ⟨o, es, ep, hidT_get e (nonD e d), d, r⟩
    have kinB : K.In (hidT s₁.heap H) := fun b o e => hidT_get (KX b o e) (nonK e)
    have md : Mod K mg (hidT s₁.heap H) := by
      obtain ⟨mc, h1, h2⟩ := hlim
      exact ⟨kinB, nsB hns, ⟨mb, nsB hb, hbb⟩, ⟨mc, nsB h1, h2⟩⟩
    have noIn : ∀ b : Addr, b ∉ frs [] := fun b z => by cases z
    have env : Env0 P w K mg (hidT s₁.heap H) callerA [] s₁ H := ⟨rfl, md, fun b o e => of_hidT e, Nat.le_of_eq (hidT_size _ _), trivial, fun b z => absurd z (noIn b), hok, .of_eq hg⟩
    refine codeAny_mono ((F _ kinB (nsB hns)).run callerA [] s₁ H ⟨[.ref a], []⟩ [.ref a] [.ref a] _ _ hr rfl env (hbind s₁ (.ref a)) (.cons rfl .nil) (hsp H only sq)) fun r s' h => ?_
    cases r with
    | error e => exact False.elim h
    | ok fl =>
      cases fl with
      | next => exact False.elim h
      | brk => exact False.elim h
      | cont => exact False.elim h
      | ret u =>
        obtain ⟨v, H', os, bare, un, hok', rv, q⟩ := h
        have ev : v = .bl true := q
        subst ev
        have eu : u = Value.bool true := rv
        subst eu
        refine ⟨rfl, OldK.of_keep fun b o e => ?_, os, bare⟩
        cases q : H b with
        | none => exact un.keep b o e q (noIn b) (by simp)
        | some u =>
          rcases only b with z | ⟨ob, xs, z⟩
          · rw [q] at z
            cases z
          · obtain ⟨e1, _⟩ := hok b _ z
            obtain ⟨e2, _⟩ := hok' b _ (un.frzs b ob _ z)
            rw [e] at e1
            cases e1
            exact e2
  cases hk : K.lookup a with
  | some o =>
    have e := KX a o hk
    rw [ha] at e
    cases e
    refine same (fun _ => none) (fun _ => .inl rfl) (.inr ⟨_, vs.toArray, _, hk, rfl, rfl, rfl, ?_, by simpa using rel⟩) (fun b u z => ?_) (fun b z => absurd rfl z) fun z => absurd rfl z
    · rw [List.size_toArray, hi.length]
      exact hl
    · exact nomatch (show (none : Option HO) = some u from z)
  | none =>
    let H0 : Hp := fun b => if b = a then some (.frz { cls := .type "list", data := .seq vs.toArray } (.lst (iv ns))) else none
    have at1 : H0 a = some (.frz { cls := .type "list", data := .seq vs.toArray } (.lst (iv ns))) := if_pos rfl
    have at0 : ∀ b, b ≠ a → H0 b = none := fun b hb => if_neg hb
    refine same H0 (fun b => ?_) (.inl (.inr ⟨_, at1⟩)) (fun b u z => ?_) (fun b z => ?_) fun _ => hk
    · by_cases hb : b = a
      · exact .inr ⟨_, _, by rw [hb]; exact at1⟩
      · exact .inl (at0 b hb)
    · by_cases hb : b = a
      · subst hb
        rw [at1] at z
        cases z
        exact ⟨ha, by rw [iv_len]; exact hl, vs, _, rel, ha⟩
      · rw [at0 b hb] at z
        cases z
    · by_cases hb : b = a
      · exact hb
      · exact absurd (at0 b hb) z
theorem walk_ofG {l : PySem.W.OpenLaw} {n k : Nat} {q : Program} {loose : List Str} {XP : (Str → Option Value) → Heap → Prop} {YP : World → Heap → Prop} {d : DefRec} {K : Params → PySem.W.Frag} {sp : PySem.W.Frag → Sp} {x : Str}
    (hn : l.most = some n) (hn2 : n ≤ sizeLine) (hdf : d.params.defaults = []) (hr : Room k callerA) (hY : ∀ (w : World) (h : Heap), YP w h → (K w.params).In h)
    (F : ∀ (w : World) (mg : Str → Option Value) (fa : Addr) (h : Heap), (K w.params).In h → h.Ns mainGlobals mg → mg d.name = some (.ref fa) →
      ∃ fd : FuncData, (∀ (s : Shared) (u : Value), BindsTo s fd ⟨[u], []⟩ [(x, u)]) ∧
        ∀ base : Heap, (K w.params).In base → base.Ns mainGlobals mg → FnG l.prog w (K w.params) mg base CX0 k fa fd [x] (sp (K w.params)))
    (hsp : ∀ (K : PySem.W.Frag) (H : Hp) (a : Addr) (ns : List Int), ns.length ≤ n → SqL K H a (iv ns) → sp K [.ref a] H (fun v _ => v = .bl true) fun _ _ _ => False) :
    PySem.W.WalkO q loose XP YP l.row.toRowW d [] (fun f vs => PySem.call f vs) := by
  refine Att.attach_call hn hdf fun w s₀ s₁ mg mb fa o pm cd doc a vs ns G Y ho hd hcd hmg hobj hints hlen hg => ?_
  have KX := hY w _ Y
  obtain ⟨fd, hb, hF⟩ := F w mg fa _ KX G.T.g hmg
  exact law_endG KX G.T.g G.T.b G.T.builtins G.T.nolimit hg hobj hints (Nat.le_trans hlen hn2) hr hF hb fun H _ hS => hsp (K w.params) H a ns hlen hS

/-! ## a def of the text, out of what the top has written -/
theorem DefAt.mk1 {K : PySem.W.Frag} {h : Heap} {mg : Str → Option Value} {x : Str} {st : Stmt} {ps : List Str} {f : Addr} {od an : Option Addr} {sl : Array (Option Value)} {oc kV dc pm cd ct : Value} (X : K.In h) (G : h.Ns mainGlobals mg)
    (a : PySem.W.nsIn K mainGlobals x = some (some (.ref f))) (l : K.lookup f = some ⟨oc, od, .func (PySem.W.fnOf x x (defArgs st) (defBody st) (defScope st) .none kV dc pm an cd ct), sl⟩) (c : PySem.W.codeIn K cd x = true) (k : PySem.W.keepIn K (.ref f) = true)
    (hb : ∀ (kV doc pm : Value) (an : Option Addr) (cdv ct : Value) (us : List Value), us.length = ps.length → bindArgs (PySem.W.fnOf x x (defArgs st) (defBody st) (defScope st) .none kV doc pm an cdv ct) ⟨us, []⟩ = pure (ps.zip us)) : DefAt K mg x st ps :=
  ⟨f, _, fun_mk (st := st) l c k, PySem.W.mg_of X G a, (fun_mk (st := st) l c k).binds hb⟩
theorem cutD {p q : Prop} (h : p) (k : p → q) : q := k h
/-- a class: what its facts say -/
theorem cls_mk {K : PySem.W.Frag} {h : Heap} {mg : Str → Option Value} {x : Str} {C : Addr} (X : K.In h) (hC : mg x = some (.ref C)) (pg : PySem.W.plainGet K C Str.empty = true) (hd : PySem.W.hasDictIn K C = true) (po : PySem.W.plainOver K C = true) (sa : PySem.W.findIn K (.ref C) "__setattr__" = some (some (.builtin "object.__setattr__"))) : Cls K C := ⟨pg, hd, po, sa⟩
theorem noat_mk {K : PySem.W.Frag} {h : Heap} {mg : Str → Option Value} {x : Str} {C : Addr} {m : Str} (X : K.In h) (hC : mg x = some (.ref C)) (n : PySem.W.findIn K (.ref C) m = some none) : NoAttr K C m := n
theorem IniAt.mk1 {K : PySem.W.Frag} {h : Heap} {mg : Str → Option Value} {C : Addr} {x qual : Str} {st : Stmt} {ps : List Str} {f : Addr} {od an : Option Addr} {sl : Array (Option Value)} {oc kV dc pm cd ct : Value} (X : K.In h) (hm : mg x = some (.ref C))
    (a : PySem.W.findIn K (.ref C) "__init__" = some (some (.ref f))) (l : K.lookup f = some ⟨oc, od, .func (PySem.W.fnOf "__init__" qual (defArgs st) (defBody st) (defScope st) .none kV dc pm an cd ct), sl⟩) (c : PySem.W.codeIn K cd qual = true) (k : PySem.W.keepIn K (.ref f) = true)
    (mk : PySem.W.makesIn K C = true) (i : PySem.W.isFn K (.ref f) = true) (kc : PySem.W.keepIn K (.ref C) = true)
    (hb : ∀ (kV doc pm : Value) (an : Option Addr) (cdv ct : Value) (us : List Value), us.length = ps.length → bindArgs (PySem.W.fnOf "__init__" qual (defArgs st) (defBody st) (defScope st) .none kV doc pm an cdv ct) ⟨us, []⟩ = pure (ps.zip us)) : IniAt K mg C x qual st ps :=
  ⟨f, _, fun_mk (st := st) l c k, ⟨mk, a, i, kc⟩, hm, (fun_mk (st := st) l c k).binds hb⟩
theorem MetAt.mk1 {K : PySem.W.Frag} {h : Heap} {mg : Str → Option Value} {x : Str} {C : Addr} {m qual : Str} {st : Stmt} {ps : List Str} {f : Addr} {od an : Option Addr} {sl : Array (Option Value)} {oc kV dc pm cd ct : Value} (X : K.In h) (hC : mg x = some (.ref C))
    (a : PySem.W.findIn K (.ref C) m = some (some (.ref f))) (l : K.lookup f = some ⟨oc, od, .func (PySem.W.fnOf m qual (defArgs st) (defBody st) (defScope st) .none kV dc pm an cd ct), sl⟩) (c : PySem.W.codeIn K cd qual = true) (k : PySem.W.keepIn K (.ref f) = true) (i : PySem.W.isFn K (.ref f) = true)
    (hb : ∀ (kV doc pm : Value) (an : Option Addr) (cdv ct : Value) (us : List Value), us.length = ps.length → bindArgs (PySem.W.fnOf m qual (defArgs st) (defBody st) (defScope st) .none kV doc pm an cdv ct) ⟨us, []⟩ = pure (ps.zip us)) : MetAt K C m qual st ps :=
  ⟨f, _, fun_mk (st := st) l c k, ⟨a, i, k⟩, (fun_mk (st := st) l c k).binds hb⟩
theorem PrpAt.mk1 {K : PySem.W.Frag} {h : Heap} {mg : Str → Option Value} {x : Str} {C : Addr} {m qual : Str} {st : Stmt} {ps : List Str} {f p : Addr} {rest : List Value} {od an : Option Addr} {sl : Array (Option Value)} {oc kV dc pm cd ct : Value} (X : K.In h) (hC : mg x = some (.ref C))
    (a : PySem.W.findIn K (.ref C) m = some (some (.ref p))) (g : PySem.W.specialIn K (.ref p) "__get__" = some (some (.builtin "property.__get__"))) (t : PySem.W.takesIn K (.ref p) = some true) (r : PySem.W.recIn K p "property" = some (.ref f :: rest))
    (l : K.lookup f = some ⟨oc, od, .func (PySem.W.fnOf m qual (defArgs st) (defBody st) (defScope st) .none kV dc pm an cd ct), sl⟩) (c : PySem.W.codeIn K cd qual = true) (k : PySem.W.keepIn K (.ref f) = true)
    (hb : ∀ (kV doc pm : Value) (an : Option Addr) (cdv ct : Value) (us : List Value), us.length = ps.length → bindArgs (PySem.W.fnOf m qual (defArgs st) (defBody st) (defScope st) .none kV doc pm an cdv ct) ⟨us, []⟩ = pure (ps.zip us)) : PrpAt K C m qual st ps :=
  ⟨f, p, _, fun_mk (st := st) l c k, ⟨a, g, t, rest, r⟩, (fun_mk (st := st) l c k).binds hb⟩
theorem glob_mk {K : PySem.W.Frag} {h : Heap} {mg : Str → Option Value} {x : Str} {C : Addr} (X : K.In h) (G : h.Ns mainGlobals mg) (a : PySem.W.nsIn K mainGlobals x = some (some (.ref C))) : mg x = some (.ref C) := PySem.W.mg_of X G a
/-- a def with defaults -/
theorem funD_mk {K : PySem.W.Frag} {h : Heap} {mg : Str → Option Value} {x : Str} {st : Stmt} {dvs : List V} {f T : Addr} {o : Obj} {its : List Value} {n : Nat} {od an : Option Addr} {sl : Array (Option Value)} {oc kV dc pm cd ct : Value} (X : K.In h) (G : h.Ns mainGlobals mg)
    (a : PySem.W.nsIn K mainGlobals x = some (some (.ref f))) (l : K.lookup f = some ⟨oc, od, .func (PySem.W.fnOf x x (defArgs st) (defBody st) (defScope st) (.ref T) kV dc pm an cd ct), sl⟩) (c : PySem.W.codeIn K cd x = true) (k : PySem.W.keepIn K (.ref f) = true)
    (t : K.lookup T = some o) (e : o.data = .seq its.toArray n) (hv : Vals dvs its) (hd : dvs ≠ []) : FunD K x x (defArgs st) (defBody st) (defScope st) dvs [] f (PySem.W.fnOf x x (defArgs st) (defBody st) (defScope st) (.ref T) kV dc pm an cd ct) ∧ mg x = some (.ref f) :=
  ⟨⟨⟨oc, od, _, kV, dc, pm, an, cd, ct, sl, rfl, l, c, .inr ⟨hd, T, o, its, n, rfl, t, e, hv⟩, .inl rfl⟩, k⟩, PySem.W.mg_of X G a⟩
/-- the law's own def -/
theorem DefAt.law {K : PySem.W.Frag} {mg : Str → Option Value} {x : Str} {st : Stmt} {fa : Addr} {p : Str} (D : DefAt K mg x st [p]) (hfa : mg x = some (.ref fa))
    (hb : ∀ (kV doc pm : Value) (an : Option Addr) (cdv ct : Value) (us : List Value), us.length = 1 → bindArgs (PySem.W.fnOf x x (defArgs st) (defBody st) (defScope st) .none kV doc pm an cdv ct) ⟨us, []⟩ = pure ([p].zip us)) :
    ∃ fd : FuncData, Fun K x x st fa fd ∧ ∀ (s : Shared) (u : Value), BindsTo s fd ⟨[u], []⟩ [(p, u)] := by
  obtain ⟨f, fd, F, hm, b⟩ := D.ex
  rw [hfa] at hm
  cases hm
  obtain ⟨oc, od, kV, doc, pm, an, cdv, ct, osl, rfl, lk, hcd⟩ := F.ex
  exact ⟨_, F, fun s u => .of_eq (hb kV doc pm an cdv ct [u] rfl)⟩
end Sq

/-! the mathematics of replacements on lengths of runs -/
namespace Sq
def once (n k : Int) : Int := n / k + n % k
def sqz (n : Int) (row : List Int) : Int := row.foldl once n
def rb (R k : Int) : Int := if k > R + 1 then R else (R + 3 - k) * k - 2
def reachOf (row : List Int) (most : Int) : Int := row.foldr (fun k R => rb R k) most
abbrev Two (row : List Int) : Prop := ∀ k ∈ row, (2 : Int) ≤ k
def Mid (ns : List Int) : Prop := ∀ k ∈ ns, (2 : Int) ≤ k ∧ k < 2 ^ 240
theorem Mid.two {ns : List Int} (h : Mid ns) : Two ns := fun k hk => (h k hk).1
theorem sqz_cons (n k : Int) (r : List Int) : sqz n (k :: r) = sqz (once n k) r := rfl
theorem sqz_app (n : Int) (a b : List Int) : sqz n (a ++ b) = sqz (sqz n a) b := by simp [sqz, List.foldl_append]
theorem sqz_snoc (n k : Int) (a : List Int) : sqz n (a ++ [k]) = once (sqz n a) k := by rw [sqz_app]; rfl
theorem sqz_take {row : List Int} {n k : Int} {i : Nat} (h : row[i]? = some k) : sqz n (row.take (i + 1)) = once (sqz n (row.take i)) k := by
  rw [List.take_add_one, h]
  exact sqz_snoc _ _ _
theorem once_nn {n k : Int} (hn : 0 ≤ n) (hk : 2 ≤ k) : 0 ≤ once n k := by
  unfold once
  have h1 := Int.ediv_nonneg hn (by omega : (0 : Int) ≤ k)
  have h2 := Int.emod_nonneg n (by omega : k ≠ 0)
  omega
/-- quotient and rest -/
theorem qr (n : Int) {k : Int} (hk : 2 ≤ k) : ∃ q r, n = q * k + r ∧ 0 ≤ r ∧ r < k ∧ n / k = q ∧ n % k = r :=
  ⟨n / k, n % k, by have := Int.mul_ediv_add_emod n k; rw [Int.mul_comm] at this; omega, Int.emod_nonneg n (by omega), Int.emod_lt_of_pos n (by omega), rfl, rfl⟩
theorem qr_of {q r k : Int} (h0 : 0 ≤ r) (h1 : r < k) : (q * k + r) / k = q ∧ (q * k + r) % k = r := by
  have hk : k ≠ 0 := by omega
  constructor
  · rw [Int.add_comm, Int.add_mul_ediv_right _ _ hk, Int.ediv_eq_zero_of_lt h0 h1]; omega
  · rw [Int.add_comm, Int.add_mul_emod_self_right, Int.emod_eq_of_lt h0 h1]
theorem once_qr {q r k : Int} (h0 : 0 ≤ r) (h1 : r < k) : once (q * k + r) k = q + r := by
  obtain ⟨a, b⟩ := qr_of (q := q) h0 h1
  unfold once
  rw [a, b]
theorem once_le {n k : Int} (hn : 0 ≤ n) (hk : 2 ≤ k) : once n k ≤ n := by
  obtain ⟨q, r, e, h0, h1, e1, e2⟩ := qr n hk
  unfold once
  rw [e1, e2]
  have hq : 0 ≤ q := by rw [← e1]; exact Int.ediv_nonneg hn (by omega)
  have := Int.mul_le_mul_of_nonneg_left (by omega : (1 : Int) ≤ k) hq
  omega
theorem once_small {n k : Int} (hn : 0 ≤ n) (h : n < k) : once n k = n := by
  unfold once
  rw [Int.ediv_eq_zero_of_lt hn h, Int.emod_eq_of_lt hn h]
  omega
theorem once_pos {n k : Int} (hn : 1 ≤ n) (hk : 2 ≤ k) : 1 ≤ once n k := by
  obtain ⟨q, r, e, h0, h1, e1, e2⟩ := qr n hk
  unfold once
  rw [e1, e2]
  have hq : 0 ≤ q := by rw [← e1]; exact Int.ediv_nonneg (by omega) (by omega)
  rcases Int.lt_or_eq_of_le hq with h | h
  · omega
  · subst h; omega
theorem sqz_nn : ∀ {row : List Int} {n : Int}, 0 ≤ n → Two row → 0 ≤ sqz n row
  | [], n, h, _ => h
  | k :: r, n, h, t => sqz_nn (row := r) (once_nn h (t k (List.mem_cons_self ..))) fun j hj => t j (List.mem_cons_of_mem _ hj)
theorem sqz_le : ∀ {row : List Int} {n : Int}, 0 ≤ n → Two row → sqz n row ≤ n
  | [], n, h, _ => Int.le_refl n
  | k :: r, n, h, t => Int.le_trans (sqz_le (row := r) (once_nn h (t k (List.mem_cons_self ..))) fun j hj => t j (List.mem_cons_of_mem _ hj)) (once_le h (t k (List.mem_cons_self ..)))
theorem sqz_pos : ∀ {row : List Int} {n : Int}, 1 ≤ n → Two row → 1 ≤ sqz n row
  | [], n, h, _ => h
  | k :: r, n, h, t => sqz_pos (row := r) (once_pos h (t k (List.mem_cons_self ..))) fun j hj => t j (List.mem_cons_of_mem _ hj)
/-- one step of the reach -/
theorem rb_pos {R k : Int} (hR : 1 ≤ R) (hk : 2 ≤ k) : R ≤ rb R k := by
  unfold rb
  split
  · omega
  · rename_i h
    have e : (R + 3 - k) * k - 2 - R = (R + 1 - k) * (k - 1) + (k - 1) := by
      have e1 : R + 3 - k = (R + 1 - k) + 2 := by omega
      have e2 : k = (k - 1) + 1 := by omega
      rw [e1]
      have e3 : (R + 1 - k) * k = (R + 1 - k) * (k - 1) + (R + 1 - k) := by
        have := Int.mul_sub (R + 1 - k) k 1
        omega
      have e4 : (R + 1 - k + 2) * k = (R + 1 - k) * k + 2 * k := Int.add_mul _ _ _
      omega
    have := Int.mul_nonneg (by omega : (0 : Int) ≤ R + 1 - k) (by omega : (0 : Int) ≤ k - 1)
    omega
theorem rb_all {R k n : Int} (hR : 1 ≤ R) (hk : 2 ≤ k) (h0 : 0 ≤ n) (h : n ≤ rb R k) : once n k ≤ R := by
  unfold rb at h
  split at h
  · rw [once_small h0 (by omega)]; exact h
  · rename_i hh
    obtain ⟨q, r, e, h1, h2, e1, e2⟩ := qr n hk
    unfold once
    rw [e1, e2]
    have e3 : (R + 3 - k) * k = (R + 2 - k) * k + k := by
      have : R + 3 - k = (R + 2 - k) + 1 := by omega
      rw [this, Int.add_mul, Int.one_mul]
    rcases Int.lt_or_le q (R + 2 - k) with hq | hq
    · omega
    · rcases Int.lt_or_eq_of_le hq with hq | hq
      · have := Int.mul_le_mul_of_nonneg_right (by omega : R + 3 - k ≤ q) (by omega : (0 : Int) ≤ k)
        omega
      · subst hq
        omega
theorem rb_next {R k : Int} (hR : 1 ≤ R) (hk : 2 ≤ k) : once (rb R k + 1) k = R + 1 := by
  unfold rb
  split
  · rw [once_small (by omega) (by omega)]
  · have e3 : (R + 3 - k) * k - 2 + 1 = (R + 2 - k) * k + (k - 1) := by
      have : R + 3 - k = (R + 2 - k) + 1 := by omega
      rw [this, Int.add_mul, Int.one_mul]; omega
    rw [e3, once_qr (by omega) (by omega)]
    omega
theorem reach_pos : ∀ {row : List Int} {m : Int}, 1 ≤ m → Two row → m ≤ reachOf row m
  | [], m, _, _ => Int.le_refl m
  | k :: r, m, h, t => by
    have ih := reach_pos (row := r) h fun j hj => t j (List.mem_cons_of_mem _ hj)
    exact Int.le_trans ih (rb_pos (by omega) (t k (List.mem_cons_self ..)))
theorem reach_all : ∀ {row : List Int} {m n : Int}, 1 ≤ m → Two row → 0 ≤ n → n ≤ reachOf row m → sqz n row ≤ m
  | [], m, n, _, _, _, h => h
  | k :: r, m, n, h, t, h0, hn => by
    have t' : Two r := fun j hj => t j (List.mem_cons_of_mem _ hj)
    have hk := t k (List.mem_cons_self ..)
    have p := reach_pos h t'
    exact reach_all (row := r) h t' (once_nn h0 hk) (rb_all (by omega) hk h0 hn)
theorem reach_next : ∀ {row : List Int} {m : Int}, 1 ≤ m → Two row → sqz (reachOf row m + 1) row = m + 1
  | [], m, _, _ => rfl
  | k :: r, m, h, t => by
    have t' : Two r := fun j hj => t j (List.mem_cons_of_mem _ hj)
    have hk := t k (List.mem_cons_self ..)
    have p := reach_pos h t'
    show sqz (once (rb (reachOf r m) k + 1) k) r = m + 1
    rw [rb_next (by omega) hk]
    exact reach_next h t'
/-- the reach is where the first greater one stands -/
theorem reach_is {row : List Int} {m n : Int} (h : 1 ≤ m) (t : Two row) (h0 : 0 ≤ n) (hn : m < sqz n row) (ha : ∀ j, 0 ≤ j → j < n → sqz j row ≤ m) : reachOf row m = n - 1 := by
  have p := reach_pos h t
  rcases Int.lt_or_le (reachOf row m) n with a | a
  · rcases Int.lt_or_le (reachOf row m + 1) n with b | b
    · have := ha _ (by omega) b
      rw [reach_next h t] at this
      omega
    · omega
  · have := reach_all h t h0 a
    omega
theorem reach_mono {row : List Int} {m m' : Int} (h : 1 ≤ m) (hm : m ≤ m') (t : Two row) : reachOf row m ≤ reachOf row m' := by
  rcases Int.lt_or_le (reachOf row m') (reachOf row m) with a | a
  · have p := reach_pos (m := m') (by omega) t
    have := reach_all h t (n := reachOf row m' + 1) (by omega) (by omega)
    rw [reach_next (by omega) t] at this
    omega
  · exact a
end Sq


namespace Sq
open PySem PySem.Spec PyProof.Rows L2
/-! ## ranges of wide ints -/
theorem turn_wide {P : Program} {w : World} {K : PySem.W.Frag} {tg : Expr} (z : Addr) (lo : Int) (n : Nat) : Turn P w K tg (Itr lo n) [z] z (fun i h => IsLongIter h z (lo + (i : Nat) * 1) ((n : Int) - (i : Nat)) 1) := by
  refine ⟨List.mem_singleton.mpr rfl, fun i h st b hb => ?_, fun i h h2 st k => k z (List.mem_singleton.mpr rfl) _ st, ?_, ?_, fun A i s Q E st h => wpAny_pyIter_longiter st h⟩
  · rw [List.mem_singleton.mp hb]
    exact ⟨_, st, fun v c => by cases (show Data.fields _ = Data.cell v from c)⟩
  · rintro X rfl rfl rfl hc i pins s σ H E I hf st hg
    have f := hf z (List.mem_singleton.mpr rfl)
    refine (Walks.longrange (prog := X.prog) (w := X.w) (I.ok.hd hc) z lo 1 n).item i s _ _ hg st fun v h2 tk hv st2 kk => ?_
    obtain ⟨t, rfl⟩ := hv
    have J : Inv X pins σ H { s with heap := h2, toks := tk } := I.turned (fun b o hb e => kk b o (fun m => hb (List.mem_singleton.mp m)) e) f.1 f.2.1 f.2.2.2.1 f.2.2.2.2.1 f.2.2.2.2.2
    refine ⟨_, rfl, go_of (s := { s with heap := h2, toks := tk }) (n := "longrange_iterator") st2 rfl rfl (by decide) ⟨.int (lo + i), H, J, ⟨t, by rw [Int.mul_one]⟩, ⟨rfl, rfl⟩, st2, fun b hb => (hf b hb).1⟩⟩
  · rintro X rfl rfl rfl hc i pins s σ H E I hf st hg
    have f := hf z (List.mem_singleton.mpr rfl)
    have m : n ≤ i := hg
    exact wpAny_pyNext_long_end (I.ok.hd hc) st (by omega) fun h2 k => ⟨rfl, I.turned (t' := s.toks) (fun b o hb e => k b o hb e) f.1 f.2.1 f.2.2.2.1 f.2.2.2.2.1 f.2.2.2.2.2⟩
section
variable {X : Cx} {tg a b : Expr} {t : TA} {p pos : Pos}
theorem rsz (lo hi : Int) : Builtin.Range.rangeSize lo hi 1 = ((hi - lo).toNat : Int) := by
  rw [rangeSize_one]
  split <;> omega
theorem wide_it {pins : List (Addr × Obj)} {σ : L2.St} {H : Hp} {s : Shared} {R : It → Hp → Prop} {E : Value → Shared → Prop} {lo hi : Int} {t u v : Tok} {tk : Nat} (I : Inv X pins σ H s) (q : R (Itr lo (hi - lo).toNat) H) :
    wpAny (model X.prog X.w) X.A (pyIter (.ref s.heap.objs.size)) (PIE X pins σ tg R) E { s with heap := s.heap.push { cls := .type "range", data := .fields #[.int lo t, .int hi u, .int 1 v] }, toks := tk } := by
  have J : Inv X pins σ H { s with heap := s.heap.push { cls := .type "range", data := .fields #[.int lo t, .int hi u, .int 1 v] }, toks := tk } := I.kept fun b o e => Heap.get?_push_of_some _ e
  have z0 : lo + ((0 : Nat) : Int) * 1 = lo := by omega
  have z1 : (((hi - lo).toNat : Nat) : Int) - ((0 : Nat) : Int) = Builtin.Range.rangeSize lo hi 1 := by
    rw [rsz]
    omega
  by_cases sm : Builtin.Range.small lo hi 1 = true
  · refine wpAny_pyIter_range (IsRange.new ..) sm ⟨(s.heap.push { cls := .type "range", data := .fields #[.int lo t, .int hi u, .int 1 v] }).objs.size, [(s.heap.push { cls := .type "range", data := .fields #[.int lo t, .int hi u, .int 1 v] }).objs.size], _, _, H, rfl,
      J.kept (t' := tk) fun b o e => Heap.get?_push_of_some _ e, turn_range _ lo (hi - lo).toNat, ?_, fun b hb => ?_, q⟩
    · show IsRangeIter _ _ (lo + ((0 : Nat) : Int) * 1) ((((hi - lo).toNat : Nat) : Int) - ((0 : Nat) : Int)) 1
      rw [z0, z1]
      exact Heap.get?_push_size _ rfl
    · rw [List.mem_singleton.mp hb]
      exact J.fpOk (Nat.le_refl _) (J.hok.fresh (Nat.le_refl _))
  · refine wpAny_pyIter_longrange (IsRange.new ..) (Bool.not_eq_true _ ▸ sm) ⟨(s.heap.push { cls := .type "range", data := .fields #[.int lo t, .int hi u, .int 1 v] }).objs.size, [(s.heap.push { cls := .type "range", data := .fields #[.int lo t, .int hi u, .int 1 v] }).objs.size], _, _, H, rfl,
      J.kept (t' := tk) fun b o e => Heap.get?_push_of_some _ e, turn_wide _ lo (hi - lo).toNat, ?_, fun b hb => ?_, q⟩
    · show IsLongIter _ _ (lo + ((0 : Nat) : Int) * 1) ((((hi - lo).toNat : Nat) : Int) - ((0 : Nat) : Int)) 1
      rw [z0, z1]
      exact Heap.get?_push_size _ rfl
    · rw [List.mem_singleton.mp hb]
      exact J.fpOk (Nat.le_refl _) (J.hok.fresh (Nat.le_refl _))
def iRngW (t : TA) : TI := fun σ H R => t σ H fun vs H1 => ∃ i j : Int, vs = [.int i, .int j] ∧ R (Itr i (j - i).toNat) H1
theorem pi_range2W (hg : Gl X "range") (hm : X.mg "range" = none) (ha : PA X [a, b] t) (h1 : starEach [a, b] X.env = [(false, eval a X.env), (false, eval b X.env)] := by rfl) (h2 : starEach [b] X.env = [(false, eval b X.env)] := by rfl) :
    PI X tg (.Call (.Name "range" p) [a, b] [] pos) (iRngW t) := by
  refine ⟨fun pins s σ H R I h => Call_ (ld_blt I hg hm boot_range (PyProof.Rows.callWith_type1 (thn (ha.run pos pins s σ H _ I h) fun us s1 hx => ?_) (by rw [h1, h2]) (by rw [h2]; rfl)))⟩
  obtain ⟨vs, H1, J, r, i, j, rfl, q⟩ := hx
  obtain ⟨u, v, rfl, ⟨c, rfl⟩, ⟨d, rfl⟩⟩ : ∃ u v, us = [u, v] ∧ RelV (.int i) u ∧ RelV (.int j) v := by
    cases r with
    | cons r1 r => cases r with
      | cons r2 r => cases r; exact ⟨_, _, rfl, r1, r2⟩
  exact call_range_2 (wide_it J q)
end
/-! ## parts of a list -/
theorem cut_from (xs : List V) (k : Nat) : cutV xs (some (k : Int)) none = xs.drop k := by
  unfold cutV
  rw [HT.sIx_nat, HT.sIx_none]
  rcases Nat.le_total k xs.length with h | h
  · rw [Nat.min_eq_left h]
    exact List.take_of_length_le (by rw [List.length_drop]; omega)
  · rw [Nat.min_eq_right h, List.drop_eq_nil_of_le (Nat.le_refl _), List.drop_eq_nil_of_le h]
    simp
theorem cut_to (xs : List V) (k : Nat) : cutV xs none (some (k : Int)) = xs.take k := by
  unfold cutV
  rw [HT.sIx_nat, HT.sIx_none, List.drop_zero, Nat.sub_zero]
  rcases Nat.le_total k xs.length with h | h
  · rw [Nat.min_eq_left h]
  · rw [Nat.min_eq_right h, List.take_of_length_le (Nat.le_refl _), List.take_of_length_le h]
theorem cut_mid (xs : List V) (j k : Nat) : cutV xs (some (j : Int)) (some (k : Int)) = (xs.drop j).take (k - j) := by
  unfold cutV
  rw [HT.sIx_nat, HT.sIx_nat]
  rcases Nat.le_total j xs.length with h | h
  · rw [Nat.min_eq_left h]
    rcases Nat.le_total k xs.length with h2 | h2
    · rw [Nat.min_eq_left h2]
    · rw [Nat.min_eq_right h2, List.take_of_length_le (by rw [List.length_drop]; omega), List.take_of_length_le (by rw [List.length_drop]; omega)]
  · rw [Nat.min_eq_right h, List.drop_eq_nil_of_le (Nat.le_refl _), List.drop_eq_nil_of_le h]
    simp
theorem iv_drop (ns : List Int) (k : Nat) : (iv ns).drop k = iv (ns.drop k) := by simp
theorem iv_take (ns : List Int) (k : Nat) : (iv ns).take k = iv (ns.take k) := by simp
/-! ## a op b op c op d -/
def tChain3 (r r' r'' : R2) (ta tb tc td : TE) : TE := fun σ H Q => ta σ H fun x H1 => tb σ H1 fun y H2 => r x y H2 fun z H3 => ∃ k, z = .bl k ∧
  (if k = true then tc σ H3 fun v H4 => r' y v H4 fun z' H5 => ∃ k', z' = .bl k' ∧ (if k' = true then td σ H5 fun u H6 => r'' v u H6 Q else Q (.bl false) H5) else Q (.bl false) H3)
section
variable {X : Cx} {a b c d : Expr} {ta tb tc td : TE} {pos : Pos} {op op' op'' : CmpOp} {r r' r'' : R2}
theorem pt_chain3 (h1 : OpR X (compareOp op) r) (h2 : OpR X (compareOp op') r') (h3 : OpR X (compareOp op'') r'') (ha : PE X a ta) (hb : PE X b tb) (hc : PE X c tc) (hd : PE X d td)
    (hm : lastMarks [op, op', op''] [b, c, d] = false := by with_unfolding_all rfl) : PT X (.Compare a [op, op', op''] [b, c, d] pos) (tTest (tChain3 r r' r'' ta tb tc td)) := by
  refine ⟨fun pins s σ H Q I h => isTrue_chain (thn (ha.run pins s σ H _ I h) fun v s1 ⟨x, H1, I1, r1, q1⟩ => test_link (thn (hb.run pins s1 σ H1 _ I1 q1) fun u s2 ⟨y, H2, I2, r2, q2⟩ =>
    thn (h1 pins s2 σ H2 x y v u _ I2 r1 r2 q2) fun e s3 ⟨z, H3, I3, r3, k, ez, q3⟩ => ?_)) hm⟩
  subst ez
  cases r3
  refine wpAny_truthy_bool ?_
  cases k with
  | false =>
    obtain ⟨k2, e2, q2⟩ := q3
    cases e2
    exact ite_ff ⟨H3, I3, q2⟩
  | true =>
    refine ite_tt (test_link (thn (hc.run pins s3 σ H3 _ I3 q3) fun w4 s4 ⟨y4, H4, I4, r4, q4⟩ => thn (h2 pins s4 σ H4 y y4 u w4 _ I4 r2 r4 q4) fun e5 s5 ⟨z5, H5, I5, r5, k5, e5', q5⟩ => ?_))
    subst e5'
    cases r5
    refine wpAny_truthy_bool ?_
    cases k5 with
    | false =>
      obtain ⟨k2, e2, q2⟩ := q5
      cases e2
      exact ite_ff ⟨H5, I5, q2⟩
    | true =>
      refine ite_tt (test_last (thn (hd.run pins s5 σ H5 _ I5 q5) fun w6 s6 ⟨y6, H6, I6, r6, q6⟩ => thn (h3 pins s6 σ H6 y4 y6 w4 w6 _ I6 r4 r6 q6) fun e7 s7 ⟨z7, H7, I7, r7, k7, e7', q7⟩ => ?_))
      subst e7'
      cases r7
      exact wpAny_truthy_bool ⟨H7, I7, q7⟩
end
end Sq


set_option Elab.async false
set_option maxRecDepth 100000
set_option maxHeartbeats 4000000
namespace Sq
open PySem PySem.Spec PyProof.Rows L2
/-! ## an own exception's __init__(self, value): super().__init__(text); self.value = value -/
section
open PySem.W PySem.Calls
variable {prog : Program} {w : World} {A : Around} {E : Value → Shared → Prop} {h : Heap} {g : Array GenState} {d : Drawn} {t : Nat} {os : OsState}
variable {nm q : Str} {C N : Addr} {bs bm : List Value} {hdct : Bool} {sn : List Str} {sub : List Value} {ab : Bool} {col : Option Bool} {dd : Option Addr} {k0 k1 k2 k3 k5 : Option Value}
/-- ValueError.__init__, bound to e, called -/
theorem call_vw {u e t0 : Addr} {rest : List Value} {Q : Value → Shared → Prop}
    (hC : h.get? C = some (excClassObj nm q C N bs bm hdct sn sub ab col dd k0 k1 k2 k3 k5 "ValueError.__new__")) (he : h.get? e = some (HandSPX.excO C t0)) (hu : h.get? u = some (kxs_mw "ValueError.__init__" e)) (hrest : rest.length ≤ sizeLine)
    (hq : ∀ h' t1, (∀ b o, b ≠ e → h.get? b = some o → h'.get? b = some o) → h'.get? e = some (HandSPX.excO C t1) → Q .none ⟨h', g, d, t, os⟩) :
    wpAny (model prog w) A (call (.ref u) rest) Q E ⟨h, g, d, t, os⟩ := by
  refine wpAny_call (codeAny_of_tree ?_)
  show wpAny _ A.in1 (callAny (.ref u) ⟨rest, []⟩) _ _ _
  simp only [callAny]
  refine wpAny_bind (wpAny_load hu ?_)
  simp only [kxs_mw, show (Value.type "method-wrapper" == Value.type "method" || Value.type "method-wrapper" == Value.type "builtin_function_or_method" || Value.type "method-wrapper" == Value.type "method-wrapper") = true by decide, if_true]
  refine W.KFB.if_so (by decide) ?_
  refine wpAny_bind (check_bound_init F.excBase_ValueError.toExcCallFacts hC he rfl ?_)
  refine wpAny_bind (wpAny_pure (wpAny_pure ⟨Code.quiet_builtin _ (by decide +kernel), codeAny_builtin F.excBase_ValueError.initEntry ?_⟩))
  exact exc_init_tree (cls := .ref C) (t0 := t0) (dv := none) (c2 := .none) (c3 := .none) (b4 := .bool false) he hrest fun h' k e' _ => hq h' h.objs.size k e'
end

def spXI (C : Addr) : Sp := fun vs H Q _ => ∃ (a : Addr) (v : V), vs = [.ref a, v] ∧ H a = some (exo a C none) ∧ ∀ dx, H dx = none → dx ≠ a → Q .non (upd (upd H dx (exd dx [("value", v)])) a (exo a C (some dx)))
/-- what the written part says of such an __init__ -/
structure XIn (P : Program) (K : PySem.W.Frag) (C f cc cda : Addr) (qual file : Str) : Prop where
  code : PySem.W.codeIn K (.ref cda) qual = true
  cell : ∃ cl cld csl, K.lookup cc = some ⟨cl, cld, .cell (some (.ref C)), csl⟩
  rec_ : ∃ ccl cdd vs ccs tf, K.lookup cda = some ⟨ccl, cdd, .fields vs, ccs⟩ ∧ vs[2]? = some (.str file tf)
  file : ((P.main.file : Str) == file) = true
  top : (P.main.scope.names.lookup ("super" : Str)).isSome = false
  opq : PySem.W.nsIn K PySem.cStatics "thirdparty.any" = some none
  sup : PySem.W.ks_superIn K C C "__init__" = some (some (.builtin "ValueError.__init__"))
  veb : PySem.W.subIn K (.ref C) (.type "ValueError") = some true
  self : PySem.W.mroIn K C (.ref C) = some true
  val : PySem.W.findIn K (.ref C) "value" = some none
abbrev xiScope : Scope := ⟨.function, [("self", .local), ("value", .local), ("__class__", .free), ("super", .globalImplicit)], false, false, []⟩
abbrev xiArgs (q0 q1 : Pos) : Arguments := { posonlyargs := [], args := [{ arg := "self", annotation := none, pos := q0 }, { arg := "value", annotation := none, pos := q1 }], vararg := none, kwonlyargs := [], kw_defaults := [], kwarg := none, defaults := [] }
abbrev xiBody (m : Str) (p0 p1 p2 p3 p4 p5 p6 p7 p8 p9 : Pos) : List Stmt := [.Expr (.Call (.Attribute (.Call (.Name "super" p0) [] [] p1) "__init__" p2) [.Constant (.str m) 0 p3] [] p4) p5, .Assign [.Attribute (.Name "self" p6) "value" p7] (.Name "value" p8) p9]
theorem xi_S : NdefX.NScope ["self", "value", "__class__"] ["self", "value"] ["__class__"] xiScope := NdefX.nscope_by (by decide +kernel)
/-- how the call of super().__init__ begins (by rfl, once the places are known) -/
def XiCall (qual : Str) (f cc cda : Addr) (m : Str) (p0 p1 p2 p3 p4 : Pos) : Prop := ∀ L : Addr, eval (.Call (.Attribute (.Call (.Name "super" p0) [] [] p1) "__init__" p2) [.Constant (.str m) 0 p3] [] p4) (PySem.W.ksEnv qual xiScope L f (.ref cda) cc) = (do
  let ov ← attributeBase (.Call (.Name "super" p0) [] [] p1) "__init__" (PySem.W.ksEnv qual xiScope L f (.ref cda) cc) (eval (.Call (.Name "super" p0) [] [] p1) (PySem.W.ksEnv qual xiScope L f (.ref cda) cc))
  standAt p2.atName
  let (g, first) ← holding [ov] (getMethod ov "__init__" (do return (← importBound (.Call (.Name "super" p0) [] [] p1) (PySem.W.ksEnv qual xiScope L f (.ref cda) cc)).getD true))
  callWith p4 g first (backTo p4 (starEach [.Constant (.str m) 0 p3] (PySem.W.ksEnv qual xiScope L f (.ref cda) cc))) [])
theorem ok_xi {P : Program} {w : World} {K : PySem.W.Frag} {mg : Str → Option Value} {base : Heap} {CX : CXT} {k : Nat} {C f cc cda : Addr} {qual file : Str} {kV doc pm ct oc : Value} {an od : Option Addr} {osl : Array (Option Value)}
    {p0 p1 p2 p3 p4 p5 p6 p7 p8 p9 q0 q1 : Pos} {m : Str} (T : OexC K C) (XI : XIn P K C f cc cda qual file)
    (lk : K.lookup f = some ⟨oc, od, .func (PySem.W.ksFn "__init__" qual (xiArgs q0 q1) (xiBody m p0 p1 p2 p3 p4 p5 p6 p7 p8 p9) xiScope .none kV doc pm an (.ref cda) ct cc), osl⟩) (hms : mg "super" = none) (he : XiCall qual f cc cda m p0 p1 p2 p3 p4) :
    FnOk P w K mg base CX (k + 1) f (PySem.W.ksFn "__init__" qual (xiArgs q0 q1) (xiBody m p0 p1 p2 p3 p4 p5 p6 p7 p8 p9) xiScope .none kV doc pm an (.ref cda) ct cc) ["self", "value"] (spXI C) := by
  refine ⟨fun vs H Q E h => by obtain ⟨a, v, rfl, _⟩ := h; rfl, fun A outer s H args us vs Q E hr e0 hbind r hsp => ?_⟩
  obtain ⟨a, v, rfl, ha, hq⟩ := hsp
  have KX : K.In s.heap := e0.mod.kin.keeps fun b o e => (e0.bs b o e).1
  have lim : s.heap.NoLimit := e0.mod.nolimit.keeps fun b o e => (e0.bs b o e).1
  obtain ⟨cl, cld, csl, hcell⟩ := XI.cell
  obtain ⟨ccl, cdd, cvs, ccs, tf, hcode, hvs⟩ := XI.rec_
  refine PySem.ks_codeAny_call_defAt (binds := (["self", "value"] : List Str).zip us) hr.depth (KX _ _ lk) rfl lim (PySem.W.codeRec_of KX XI.code) rfl hbind xi_S.nocell (fun ⟨n, _⟩ hy => xi_S.par n (List.of_mem_zip hy).1) (fun h1 hns kp => ?_) xi_S.co xi_S.gen xi_S.kind
  have S := xi_S
  let F : NdefX.NF := ⟨"__init__", qual, xiArgs q0 q1, xiBody m p0 p1 p2 p3 p4 p5 p6 p7 p8 p9, xiScope, [("__class__", cc)], cda⟩
  have cells : NdefX.CellsAt F.cl ["__class__"] [none] s.heap H := by
    have one : ∀ y c, F.cl.lookup y = some c → y = ("__class__" : Str) ∧ c = cc := fun y c e => by
      have e' : ([("__class__", cc)] : List (Str × Addr)).lookup y = some c := e
      by_cases z : y = ("__class__" : Str)
      · subst z
        simp [List.lookup] at e'
        exact ⟨rfl, e'.symm⟩
      · have z2 : (y == ("__class__" : Str)) = false := by simpa using z
        simp [List.lookup, z2] at e'
    refine ⟨rfl, fun y c e => ?_, fun x y c e1 e2 => ?_, fun i y e => ?_⟩
    · rw [(one y c e).2]
      exact ⟨(e0.bs _ _ (e0.mod.kin _ _ hcell)).2, _, ⟨_, KX _ _ hcell, rfl⟩⟩
    · rw [(one x c e1).1, (one y c e2).1]
    · cases i with
      | zero =>
        obtain rfl : ("__class__" : Str) = y := by simpa using e
        exact ⟨cc, by simp [F, List.lookup], fun v h => by simp at h⟩
      | succ i => simp at e
  have I : Inv (NdefX.ncx CX P w K mg base ["self", "value", "__class__"] F f A outer s H E) [] (NdefX.startF ["self", "value", "__class__"] [.ref a, v] [none]) H { s with heap := h1, toks := s.toks + ((["self", "value"] : List Str).zip us).length } :=
    NdefX.inv_startN (F := F) S hr.hd e0 rfl r cells hns kp
  have K1 : K.In h1 := KX.keeps kp
  show PySem.wpAt (model P w) (A.deeper (PySem.W.ksEnv qual xiScope s.heap.objs.size f (.ref cda) cc)) (.func (xiBody m p0 p1 p2 p3 p4 p5 p6 p7 p8 p9) (PySem.W.ksEnv qual xiScope s.heap.objs.size f (.ref cda) cc)) (execs (xiBody m p0 p1 p2 p3 p4 p5 p6 p7 p8 p9) (PySem.W.ksEnv qual xiScope s.heap.objs.size f (.ref cda) cc)) _ _ _
  refine ks_wpAt_execs_cons (ks_wpAt_Expr_any (ks_wpAt_MethodCall ?_ (he _)))
  refine ks_wpAt_super_base (env := NdefX.envF F f s.heap.objs.size) rfl rfl (by decide) rfl (K1 _ _ lk) rfl rfl rfl (K1 _ _ hcode) rfl hvs XI.file XI.top ?_
  obtain ⟨nm, q, N, bs, bm, sn, sub, ab, col, dd, k0, k1, k2, k3, k5, hC, hbm⟩ := T.cls
  have hcl : PySem.W.clsIn K C = some { name := nm, bases := bs, mro := .ref C :: bm, ns := N, qualname := q, hasDict := true, slotNames := sn, subclasses := sub, abstract := ab, collection := col, hasDel := false } := by unfold PySem.W.clsIn; rw [hC] <;> rfl
  obtain ⟨mb, hb1, hb2⟩ := I.mod.blt
  obtain ⟨t1, hoe⟩ := exo_at I.hok ha
  have hself : (((["self", "value"] : List Str).zip us).reverse.lookup ("self" : Str)) = some (Value.ref a) := by
    cases r with
    | cons r1 r => cases r with
      | cons r2 r =>
        cases r
        obtain rfl := r1
        rfl
  refine PySem.W.ks_loadName_global rfl rfl (Calls.loadGlobal_builtin (I.mod.glob.keeps I.bk) hms (hb1.keeps I.bk) ((hb2 _ (by decide)).trans PyProof.Rows.Boot.«super») ⟨rfl, ?_⟩)
  refine wpAny_loadName_free rfl rfl rfl ⟨_, K1 _ _ hcell, rfl⟩ ?_
  refine wpAny_loadName_local rfl rfl hns hself ?_
  refine ks_wpAny_isType_cls (K1 _ _ hC) rfl ⟨rfl, ?_⟩
  refine ks_wpAny_call_super (K1 _ _ hC) rfl hoe rfl (fun c e => by cases e) (PySem.W.looks_mroIn K1 XI.self) (fun h2 e2 kp2 => ?_)
  have I2 := I.kept (t' := s.toks + ((["self", "value"] : List Str).zip us).length) kp2
  have K2 : K.In h2 := K1.keeps kp2
  obtain ⟨t2, hoe2⟩ := exo_at I2.hok ha
  have at2 : PySem.W.InstAt h2 a { cls := .ref C, dict := none, data := .fields #[.ref t2, .none, .none, .none, .bool false, .none] } C none := ⟨hoe2, rfl, rfl, trivial⟩
  have hsup : PySem.W.alongIn K "__init__" (((.ref C :: bm).dropWhile (· != Value.ref C)).drop 1) = some (some (.builtin "ValueError.__init__")) := by
    have z := XI.sup
    unfold PySem.W.ks_superIn at z
    rw [hcl] at z
    exact z
  refine PySem.W.kxs_getMethod PySem.W.kxs_ValueError e2 (PySem.W.looks_opaque K2 XI.opq) (l₀ := .ref C :: bm) ((PySem.W.looks_clsIn K2 hcl).andThen .now) rfl K2 hsup (at2.type.andThen (PySem.W.looks_subIn K2 XI.veb)) (PySem.W.ks_ne K2 at2 hcl) (by decide) ?_
  have I3 := I2.kept (h' := h2.push (PySem.W.kxs_mw "ValueError.__init__" a)) (t' := s.toks + ((["self", "value"] : List Str).zip us).length + 1) fun b o e => Heap.get?_push_of_some _ e
  refine PySem.W.kxs_callWith (i := "ValueError.__init__") (x := a) rfl (Calls.evalArgs_plain (Calls.spliced_cons (Calls.Constant_str (pos := p3) (k := 0) (Calls.spliced_nil ⟨Heap.get?_push_at rfl rfl, ?_⟩))))
  have I4 := I3.tok (s.toks + ((["self", "value"] : List Str).zip us).length + 1 + 1)
  obtain ⟨t4, hoe4⟩ := exo_at I4.hok ha
  refine call_vw (t0 := t4) (Heap.get?_push_of_some _ (K2 _ _ hC)) hoe4 (Heap.get?_push_at rfl rfl) (by simp [sizeLine_eq]) fun h5 t5 k5 e5 => ?_
  have J0 := I4.write (h' := h5) (t' := s.toks + ((["self", "value"] : List Str).zip us).length + 1 + 1) (x := a) (e := a) (o := exo a C none) (by rw [ha]; exact True.intro) (.inl rfl) k5 ⟨_, e5⟩ (exo_ok e5)
  have eu : upd H a (exo a C none) = H := by
    funext b
    by_cases hb : b = a
    · rw [hb, upd_same, ha]
    · rw [upd_ne hb]
  rw [eu] at J0
  show PySem.wpAt _ _ _ (execs [.Assign [.Attribute (.Name "self" p6) "value" p7] (.Name "value" p8) p9] _) _ _ _
  refine wpAt_of_wpAny ?_
  have pst : PSs (NdefX.ncx CX P w K mg base ["self", "value", "__class__"] F f A outer s H E) [.Assign [.Attribute (.Name "self" p6) "value" p7] (.Name "value" p8) p9] (tOst K "value" (tVar 0) (tVar 1)) := pss_one (ps_ost (pv 0) (pv 1) rfl)
  refine wpAny_mono (pst.run [] _ _ H { nx := fun _ H' => Q .non H', rt := Q } J0 ⟨v, rfl, .ref a, rfl, a, C, rfl, T, XI.val, .inl ⟨ha, fun dx n ne => hq dx n ne⟩⟩) (fun fl s' hs => ?_) fun e s' hs => hs
  cases fl with
  | ret u =>
    obtain ⟨v, σ', H', J, rv, q⟩ := hs
    exact ⟨v, H', J.os, J.bare, J.base, J.hok, rv, q⟩
  | next =>
    obtain ⟨σ', H', J, q⟩ := hs
    exact ⟨.non, H', J.os, J.bare, J.base, J.hok, rfl, q⟩
  | brk =>
    obtain ⟨_, _, _, q⟩ := hs
    exact False.elim q
  | cont =>
    obtain ⟨_, _, _, q⟩ := hs
    exact False.elim q
end Sq


set_option Elab.async false
set_option maxRecDepth 100000
set_option maxHeartbeats 4000000
namespace Sq
open PySem PySem.Spec PyProof.Rows L2
/-! ## an exception that has been caught and is kept -/
/-- at a: an exception of the class cls with the dict d, at rest -/
def Xo (a : Addr) (cls : Value) (d : Option Addr) : HO := .ext fun h => ∃ (oe : Obj) (vs : Array Value), h.get? a = some oe ∧ Zc cls d oe ∧ oe.data = .fields vs
theorem xo_ok {P : Program} {w : World} {H : Hp} {h : Heap} {a : Addr} {cls : Value} {d : Option Addr} {oe : Obj} {vs : Array Value} (e : h.get? a = some oe) (z : Zc cls d oe) (f : oe.data = .fields vs) : ObjOk P w H h a (Xo a cls d) :=
  ⟨⟨oe, vs, e, z, f⟩, ⟨_, e⟩, fun _ _ ⟨o2, v2, e2, z2, f2⟩ k => ⟨o2, v2, k _ e2, z2, f2⟩⟩
theorem xo_at {P : Program} {w : World} {H : Hp} {h : Heap} {a : Addr} {cls : Value} {d : Option Addr} (hok : HOk P w H h) (e : H a = some (Xo a cls d)) : ∃ (oe : Obj) (vs : Array Value), h.get? a = some oe ∧ Zc cls d oe ∧ oe.data = .fields vs := by
  have x : ObjOk P w H h a (.ext fun h => ∃ (oe : Obj) (vs : Array Value), h.get? a = some oe ∧ Zc cls d oe ∧ oe.data = .fields vs) := hok a _ e
  exact x.1
section
variable {X : Cx} {pins : List (Addr × Obj)} {σ : L2.St} {H : Hp} {s : Shared} {a : Addr} {cls : Value} {d : Option Addr} {oe : Obj} {vs : Array Value}
/-- an object that is younger than the entry and that nothing holds is kept from now on -/
theorem track (J : Inv X pins σ H s) (e : s.heap.get? a = some oe) (na : H a = none) (nL : a ≠ X.env.locals) (np : ∀ p ∈ X.pn ++ pins, p.1 ≠ a) (young : X.s_0.heap.get? a = none) (z : Zc cls d oe) (f : oe.data = .fields vs) : Inv X pins σ (upd H a (Xo a cls d)) s := by
  have old : ∀ {b : Addr} {o : Obj}, X.s_0.heap.get? b = some o → b ≠ a := fun {b o} q c => by
    rw [c, young] at q
    cases q
  have set : ∀ {b : Addr} {o : HO}, H b = some o → b ≠ a := fun {b o} q c => by
    rw [c, na] at q
    cases q
  refine ⟨J.ok, J.os, J.bare, ⟨J.base.keep, J.base.slot, fun b o q n x => ?_, J.base.there, fun b xs q => ?_, fun b o v q => ?_, fun b ps q => ?_⟩, J.loc, J.cell, ?_, fun y c q => ?_, fun p hp => ?_, fun b o q => ?_, J.len⟩
  · rw [upd_ne (old q)]
    exact J.base.free b o q n x
  · have z := J.base.tups b xs q
    rw [upd_ne (set z)]
    exact z
  · have z := J.base.frzs b o v q
    rw [upd_ne (set z)]
    exact z
  · obtain ⟨more, z⟩ := J.base.tbls b ps q
    exact ⟨more, by rw [upd_ne (set z)]; exact z⟩
  · rw [upd_ne (Ne.symm nL)]
    exact J.free
  · have nc : c ≠ a := fun h => by
      obtain ⟨w, o, e2, d2⟩ := J.cell y c q
      rw [h, e] at e2
      cases e2
      rw [f] at d2
      cases d2
    rw [upd_ne nc]
    exact J.freeC y c q
  · obtain ⟨e1, n1, r1⟩ := J.pin p hp
    exact ⟨e1, by rw [upd_ne (np p hp)]; exact n1, r1⟩
  · by_cases hb : b = a
    · subst hb
      rw [upd_same] at q
      cases q
      exact xo_ok e z f
    · rw [upd_ne hb] at q
      have own : ∀ c, H c = some (.own b) → c ≠ a := fun c hc h => by
        rw [h, na] at hc
        cases hc
      exact (J.hok b o q).stay (fun c v _ k => k) (fun c hc => by rw [upd_ne (own c hc)]; exact hc) fun c xs hc => by rw [upd_ne fun h => by rw [h, na] at hc; cases hc]; exact hc
end

/-- what is wished behind the suite of 'except x as n' -/
def keepD (D : Ends) (i : Nat) : Ends where
  nx := fun τ G => D.nx (τ.set i none) G
  rt := D.rt
  bk := fun τ G => D.bk (τ.set i none) G
  ct := fun τ G => D.ct (τ.set i none) G
def wKeep (K : PySem.W.Frag) (c : Value) (i : Nat) (ts : Addr → Value → Option Addr → TS) (Wout : WX) (D : Ends) : WX := fun cls d σ H => ∃ b, PySem.W.exmOne K cls c = some b ∧
  (b = true → ∀ a, H a = none → ts a cls d (keepD D i) (σ.set i (some (.ref a))) (upd H a (Xo a cls d))) ∧ (b = false → Wout cls d σ H)
/-- into the suite and out of it -/
theorem suite_in {X : Cx} {pins : List (Addr × Obj)} {σ : L2.St} {H : Hp} {s : Shared} {a : Addr} (I : Inv X pins σ H s) : Inv (X.suite a (X.pn ++ pins)) [] σ H s :=
  ⟨I.ok.suite _ _, I.os, I.bare, I.base, I.loc, I.cell, I.free, I.freeC, fun p hp => I.pin p (by rw [List.append_nil] at hp; exact hp), I.hok, I.len⟩
theorem suite_out {X : Cx} {pins : List (Addr × Obj)} {σ : L2.St} {H : Hp} {s : Shared} {a : Addr} (I : Inv (X.suite a (X.pn ++ pins)) [] σ H s) (ok : X.Ok) : Inv X pins σ H s :=
  ⟨ok, I.os, I.bare, I.base, I.loc, I.cell, I.free, I.freeC, fun p hp => I.pin p (by rw [List.append_nil]; exact hp), I.hok, I.len⟩
section
variable {X : Cx} {x n : Str} {c : Value} {i : Nat} {body rest : List Stmt} {st : Stmt} {np pos pos2 : Pos} {tb : WX → TS} {ts : Addr → Value → Option Addr → TS} {Wout : WX}
/-- as ps_try_as; the exception stays behind the suite -/
theorem ps_try_keep (hs : X.stack = X.env :: X.outer) (hf : X.env.frame = some X.env.locals) (hN : X.N.Nodup) (hi : X.N[i]? = some n) (hln : X.env.kindOf n = some .local) (hex : X.ex = []) (hc : Names X x c) (tk : Takes X Wout)
    (hb : ∀ (W : WX) (pn : List (Addr × Obj)) (xe : Value → Shared → Prop), Takes (X.tr pn xe) W → PassesOwn (model X.prog X.w) X.A X.env xe → PSs (X.tr pn xe) body (tb W))
    (hsu : ∀ (a : Addr) (cls : Value) (d : Option Addr) (pn : List (Addr × Obj)), PSs (X.suite a pn) (st :: rest) (ts a cls d)) :
    PS X (.Try body [.ExceptHandler (some (.Name x np)) (some n) (st :: rest) pos2] [] [] pos) (fun D σ H => tb (wKeep X.K c i ts Wout D) D σ H) := by
  refine ⟨fun pins s σ H D I h => wpAny_Try_except ?_⟩
  have ok := I.ok
  have hfr : X.A.frames = some (X.env :: X.outer) := by rw [ok.frames, hs]
  have hlc : Loc X.env.scope n := .inl hln
  have seen : ∀ {C : Heap} {h : Heap} {q : Addr} {o : Obj} {vs : Array Value}, h.FunFrames C (X.env :: X.outer) → h.get? q = some o → o.data = .fields vs → q ∉ frs (X.env :: X.outer) := fun {C h q o vs} ff e dd hm => by
    obtain ⟨_, o2, e2, nn⟩ := ff.mem hm
    rw [e] at e2
    cases e2
    exact nn _ dd
  refine wpAny_mono ((hb (wKeep X.K c i ts Wout D) (X.pn ++ pins) _ (fun u s2 air => ?_) PassesOwn.looking).run [] s σ H D (I.toTry _) h) (fun fl s2 q => ?_) fun _ _ z => z
  · obtain ⟨a, G, sI, pins2, τ, H2, cls, d, rfl, J2, nb, up, sky, na, os, ag, b, hb1, yes, no⟩ := air
    have J : Inv X pins τ H2 sI := J2.ofTry ok
    rw [hs] at sky
    refine Sky.land Zc.steady hfr hf sky fun h3 l3 up3 => ?_
    have J3 : Inv X pins τ H2 { s2 with heap := h3 } := J.landed nb l3.1 (up.trans up3) os ag
    obtain ⟨o3, v3, e3, z3, d3⟩ := l3.there
    have out := seen l3.2.2.1 e3 d3
    have nL : a ≠ X.env.locals := fun z => out (List.mem_filterMap.mpr ⟨X.env, List.mem_cons_self, by rw [hf, z]⟩)
    have nF : a ∉ X.fs := fun hm => by
      obtain ⟨e, he, q⟩ := List.mem_filterMap.mp hm
      exact out (List.mem_filterMap.mpr ⟨e, List.mem_cons_of_mem _ he, q⟩)
    have young : sI.heap.get? a = none := by
      cases q : sI.heap.get? a with
      | none => rfl
      | some o =>
        have z := nb a o q (by rw [hs]; exact out)
        rw [l3.2.1] at z
        cases z
    have young0 : X.s_0.heap.get? a = none := by
      cases q : X.s_0.heap.get? a with
      | none => rfl
      | some o =>
        obtain ⟨o2, z⟩ := J.base.there a o q (by rw [hex]; simp)
        rw [young] at z
        cases z
    have off : ∀ p ∈ X.pn ++ pins, p.1 ≠ a := fun p hp z => by
      have y := (J.pin p hp).1
      rw [z, young] at y
      cases y
    have S3 := J3.suite e3 d3 na nL nF
    have LT : PySem.W.Looks (model X.prog X.w) h3 (typeOf (.ref a)) cls := fun _ _ _ s k q => wpAny_typeOf_ref (k _ _ e3) (by rw [z3.1]; exact q)
    have LM := PySem.W.exm_one (M := model X.prog X.w) J3.kIn LT hb1
    have ask : ∀ {Q2 : Value → Shared → Prop} {E2 : Value → Shared → Prop}, Q2 c { s2 with heap := h3 } → wpAny (model X.prog X.w) (X.A.mark (some (.ref a))) (eval (.Name x np) X.env) Q2 E2 { s2 with heap := h3 } := fun {Q2 E2} q => by
      obtain ⟨hg, hdb, hm | ⟨hm, hv, hnn⟩⟩ := hc
      · exact ld_glob (X := X.suite a ((a, o3) :: (X.pn ++ pins))) S3 hg hm q hdb
      · exact ld_blt (X := X.suite a ((a, o3) :: (X.pn ++ pins))) S3 hg hm hv q hnn hdb
    refine wpAny_handleBy_cons (codeAny_handlers_test (ask (LM.here ?_))) (by intro q; cases q)
    cases b with
    | true =>
      refine codeAny_handlers_suite_as (HandSPX.lands_againZ l3 fun h4 l4 up4 => ?_)
      have J4 : Inv X pins τ H2 { s2 with heap := h4 } := J.landed nb l4.1 ((up.trans up3).trans up4) os ag
      obtain ⟨o4, v4, e4, z4, d4⟩ := l4.there
      have S4 : Inv (X.suite a (X.pn ++ pins)) [] τ (upd H2 a (Xo a cls d)) { s2 with heap := h4 } := suite_in (track J4 e4 na nL off young0 z4 d4)
      refine store_ok (X := X.suite a (X.pn ++ pins)) (v := .ref a) S4 hN hi hlc rfl (fun s5 S5 => ?_) (.inr hln)
      refine wpAny_mono ((hsu a cls d (X.pn ++ pins)).run [] s5 _ _ _ S5 (yes rfl a na)) (fun fl s6 hsp => ?_) fun _ _ z => z.elim
      have fin : ∀ {σ6 : L2.St} {H6 : Hp} {Q2 : Shared → Prop}, Inv (X.suite a (X.pn ++ pins)) [] σ6 H6 s6 → (∀ s7, Inv X pins (σ6.set i none) H6 s7 → Q2 s7) →
          wpAny (model X.prog X.w) X.A (do bindName X.env n .none; unbindBehindTheSuite X.env n pos2) (fun _ s7 => Q2 s7) X.xe s6 := fun {σ6 H6 Q2} S6 hq =>
        gone_ok (X := X.suite a (X.pn ++ pins)) S6 hN hi hln fun s7 S7 => hq s7 (suite_out S7 ok)
      cases fl with
      | next =>
        obtain ⟨σ6, H6, S6, q6⟩ := hsp
        exact fin S6 fun s7 J7 => ⟨_, _, J7, q6⟩
      | brk =>
        obtain ⟨σ6, H6, S6, q6⟩ := hsp
        exact fin S6 fun s7 J7 => ⟨_, _, J7, q6⟩
      | cont =>
        obtain ⟨σ6, H6, S6, q6⟩ := hsp
        exact fin S6 fun s7 J7 => ⟨_, _, J7, q6⟩
      | ret u =>
        obtain ⟨v6, σ6, H6, S6, r6, q6⟩ := hsp
        exact fin S6 fun s7 J7 => ⟨_, _, _, J7, r6, q6⟩
    | false =>
      refine wpAny_handleBy_nil ?_
      obtain ⟨_, _, _, oe, vs, T, _, _, he, _, hd, h1, _⟩ := id l3
      unfold PySem.passOn
      refine wpAny_bind (wpAny_field he hd h1 ?_)
      rw [if_neg (show ¬ ((Value.ref T == Value.none) = true) from by simp)]
      have go : wpAny (model X.prog X.w) X.A (setFlight (.ref a) X.env.frame) (fun _ s4 => wpAny (model X.prog X.w) X.A (throw (.ref a) : Sem Flow) (SP X pins D) X.xe s4) X.xe { s2 with heap := h3 } := by
        rw [hf]
        exact HandSPX.setFlight_upZ l3 fun h4 g4 up4 => wpAny_throw (tk _ _ ⟨a, G, sI, pins, τ, H2, cls, d, rfl, J, nb, (up.trans up3).trans up4, .inr (.inr (by rw [hs]; exact g4)), na, os, ag, no rfl⟩)
      first
        | exact wpAny_bind (wpAny_pure (wpAny_bind go))
        | exact wpAny_bind go
  · cases fl with
    | next =>
      obtain ⟨τ, H2, J, q⟩ := q
      exact wpAny_execs_nil ⟨τ, H2, J.ofTry ok, q⟩
    | brk =>
      obtain ⟨τ, H2, J, q⟩ := q
      exact ⟨τ, H2, J.ofTry ok, q⟩
    | cont =>
      obtain ⟨τ, H2, J, q⟩ := q
      exact ⟨τ, H2, J.ofTry ok, q⟩
    | ret u =>
      obtain ⟨v, τ, H2, J, r, q⟩ := q
      exact ⟨v, τ, H2, J.ofTry ok, r, q⟩
end

/-! ## a kept exception looked at -/
/-- at a: a kept exception of the own class C with the attributes fs -/
def Kept (H : Hp) (a C : Addr) (fs : List (Str × V)) : Prop := ∃ d, (H a = some (Xo a (.ref C) (some d)) ∧ H d = some (.xd fs)) ∨ (H a = some (exo a C (some d)) ∧ H d = some (exd d fs))
theorem kept_at {X : Cx} {pins : List (Addr × Obj)} {σ : L2.St} {H : Hp} {s : Shared} {a C : Addr} {fs : List (Str × V)} (I : Inv X pins σ H s) (k : Kept H a C fs) :
    ∃ (oe od : Obj) (d : Addr) (mA : Str → Option Value), PySem.W.InstAt s.heap a oe C (some od) ∧ s.heap.get? d = some od ∧ s.heap.Ns1 d mA ∧ ∀ f, RelO (fs.lookup f) (mA f) := by
  obtain ⟨d, ⟨h1, h2⟩ | ⟨h1, h2⟩⟩ := k
  · obtain ⟨oe, vs, e, z, f⟩ := xo_at I.hok h1
    have hx : ObjOk X.prog X.w H s.heap d (.xd fs) := I.hok d _ h2
    obtain ⟨mA, hns, hr⟩ := hx
    obtain ⟨od, ho, _⟩ := lookIn_ns hns
    exact ⟨oe, od, d, mA, ⟨e, z.1, by unfold PySem.W.notCls; rw [f] <;> rfl, by rw [z.2]; exact ho⟩, ho, hns, hr⟩
  · obtain ⟨t1, e⟩ := exo_at I.hok h1
    obtain ⟨mA, hns, hr⟩ := exd_at I.hok h2
    obtain ⟨od, ho, _⟩ := lookIn_ns hns
    exact ⟨_, od, d, mA, ⟨e, rfl, rfl, ho⟩, ho, hns, hr⟩
def rIsX (K : PySem.W.Frag) : List V → Hp → VK → Prop := fun xs H Q => ∃ (a C : Addr) (fs : List (Str × V)) (c : V) (cv : Value) (b : Bool), xs = [.ref a, c] ∧ Kept H a C fs ∧ ExcC K C ∧ ClsV c cv ∧ PySem.W.kitOne K (.ref C) cv = some b ∧ Q (.bl b) H
theorem call_isX {X : Cx} {K : PySem.W.Frag} (h : X.K = K := by rfl) : CallR X (.builtin "isinstance") (rIsX K) := by
  subst h
  intro pins s σ H xs us Q I r h
  obtain ⟨a, C, fs, c, cv, b, rfl, k, EC, hc, e, q⟩ := h
  obtain ⟨oe, od, d, mA, J, _⟩ := kept_at I k
  cases r with
  | @cons _ u0 _ ur rx rr =>
    cases rr with
    | @cons _ u1 _ _ rt rr =>
      cases rr
      cases rx
      have ec : u1 = cv := by
        cases hc <;> exact rt
      subst ec
      obtain ⟨cd, hcd, _⟩ := PySem.W.any_some EC.hd
      exact PySem.W.kia_one (PySem.W.kitx_exc (by rw [hcd]; rfl) EC.hg EC.hk EC.hs EC.ha EC.hn EC.ht EC.hm) I.kIn J e (fun z => nomatch z) fun tk => ⟨.bl b, H, I.kept (t' := tk) fun _ _ z => z, rfl, q⟩
def tXv (K : PySem.W.Frag) (te : TE) (f : Str) : TE := fun σ H Q => te σ H fun x H1 => ∃ (a C : Addr) (fs : List (Str × V)) (v : V), x = .ref a ∧ Kept H1 a C fs ∧ XfC K C ∧ PySem.W.findIn K (.ref C) f = some none ∧ fs.lookup f = some v ∧ Q v H1
theorem pe_xv {X : Cx} {K : PySem.W.Frag} {e : Expr} {te : TE} {f : Str} {pos : Pos} (he : PE X e te) (hb : attributeBase e f X.env (eval e X.env) = eval e X.env := by rfl) (h : X.K = K := by rfl) : PE X (.Attribute e f pos) (tXv K te f) := by
  subst h
  refine ⟨fun pins s σ H Q I h => attr_of hb (thn (he.run pins s σ H _ I h) fun u s1 hh => ?_)⟩
  obtain ⟨x, H1, I1, rx, a, C, fs, v, rfl, k, T, hno, l, q⟩ := hh
  obtain rfl : u = Value.ref a := rx
  obtain ⟨oe, od, d, mA, J, ho, hns, hr⟩ := kept_at I1 k
  obtain ⟨od2, ho2, hl⟩ := lookIn_ns hns
  rw [ho] at ho2
  cases ho2
  obtain ⟨u, hu, ru⟩ := RelO.some_of (v := v) (o := mA f) (by rw [← l]; exact hr f)
  exact HandSPX.exc_get I1.kIn J T.ga T.gg T.exC (PySem.W.findObj_own T.hdC hno rfl (by rw [hl, hu])) (handed_of ru) ⟨v, H1, I1.tok _, ru, q⟩
end Sq


set_option Elab.async false
set_option maxRecDepth 100000
set_option maxHeartbeats 4000000
namespace Sq
open PySem PySem.Spec PyProof.Rows L2
/-! ## raise C(e), C an own class with the __init__ of MExc -/
structure Rai (P : Program) (w : World) (K : PySem.W.Frag) (mg : Str → Option Value) (base : Heap) (k : Nat) (x : Str) (C : Addr) : Prop where
  ex : ∃ (f : Addr) (fd : FuncData), OexC K C ∧ PySem.W.findIn K (.ref C) "__init__" = some (some (.ref f)) ∧ PySem.W.typeIn K (.ref f) = some (.type "function") ∧ FnOk P w K mg base CX0 k f fd ["self", "value"] (spXI C) ∧ mg x = some (.ref C) ∧ L2.Binds K fd ["self", "value"] []
def tRx (W : WX) (C : Addr) (te : TE) : TS := fun _ σ H => te σ H fun v H1 => ∀ d, H1 d = none → W (.ref C) (some d) σ (upd H1 d (.xd [("value", v)]))
theorem heap_rx {H : Hp} {a d : Addr} {u z o : HO} (na : H a = none) (n : d ≠ a) : upd (del (upd (upd (upd H a u) d z) a o) a) d (.xd [("value", v)]) = upd H d (.xd [("value", v)]) := by
  funext b
  by_cases h1 : b = d
  · rw [h1, upd_same, upd_same]
  · rw [upd_ne h1, upd_ne h1]
    by_cases h2 : b = a
    · rw [h2, del_same, na]
    · rw [del_ne h2, upd_ne h2, upd_ne h1, upd_ne h2]
/-- a reading that may be weakened -/
def tWk (te : TE) : TE := fun σ H Q => ∃ R : VK, te σ H R ∧ ∀ v G, R v G → Q v G
theorem pe_wk {X : Cx} {e : Expr} {te : TE} (h : PE X e te) : PE X e (tWk te) := ⟨fun pins s σ H Q I ⟨R, q, k⟩ => wpAny_mono (h.run pins s σ H R I q) (fun u s1 ⟨x, G, J, r, z⟩ => ⟨x, G, J, r, k _ _ z⟩) fun _ _ z => z⟩
section
variable {X : Cx} {W : WX} {k j : Nat} {C : Addr} {x : Str} {p pos pos2 : Pos} {e : Expr} {te : TE}
theorem ps_rx (c : Rai X.prog X.w X.K X.mg X.base k x C) (hr : Room j X.A) (hk : k + 1 ≤ j) (hg : Gl X x) (tk : Takes X W) (ha : PE X e te) (hc : X.calm = true := by rfl)
    (hdb : (x == ("__debug__" : Str)) = false := by decide) (he : starEach [e] X.env = (false, eval e X.env) :: starEach [] X.env := by rfl) (hpl : (backTo pos (starEach [] X.env)).any (·.1) = false := by rfl) : PS X (.Raise (some (.Call (.Name x p) [e] [] pos)) none pos2) (tRx W C te) := by
  obtain ⟨f, fd, T, iC, tI, F, hm, b⟩ := c.ex
  have mk := pmk_oex (pos := pos) (p := p) T iC tI F (hr.mono hk) b .nil pass0 hg hm (pa_cons (pe_wk ha) pa_nil he) hdb he hpl
  have r := ps_raise (pos := pos2) hc tk mk
  refine ⟨fun pins s σ H D I h => r.run pins s σ H D I ⟨_, h, fun v G q => ⟨Nat.le_of_ble_eq_true rfl, fun a na => ⟨a, v, rfl, upd_same, fun dx nd ne => ?_⟩⟩⟩⟩
  have nd' : G dx = none := by
    rw [upd_ne ne] at nd
    exact nd
  refine ⟨rfl, dx, _, upd_same, by rw [upd_ne ne, upd_same], nd', ?_⟩
  rw [heap_rx na ne]
  exact q dx nd'
end

/-! ## defs that may raise -/
structure CalX (P : Program) (w : World) (K : PySem.W.Frag) (mg : Str → Option Value) (base : Heap) (k : Nat) (x : Str) (sp : Sp) : Prop where
  ex : ∃ (f : Addr) (fd : FuncData) (ps : List Str), FnOk P w K mg base (L2.CX P w) k f fd ps sp ∧ mg x = some (.ref f) ∧ PySem.W.keepIn K (.ref f) = true ∧ L2.Binds K fd ps []
section
variable {P : Program} {w : World} {K : PySem.W.Frag} {mg : Str → Option Value} {base : Heap}
theorem DefAt.calX {x : Str} {st : Stmt} {ps N : List Str} {k : Nat} {sp : Sp} (D : DefAt K mg x st ps) (S : FnScope N ps (defScope st)) (len : ∀ vs H Q E, sp vs H Q E → vs.length = ps.length)
    (hb : ∀ (f : Addr) (cdv : Value) (A : Around) (outer : List Env) (s : Shared) (H : Hp) (vs : List V) (Q : VK) (E : XK), Room k (A.deeper (envOfC x (defScope st) s.heap.objs.size f cdv)) → sp vs H Q E →
      (Takes (cxOf (L2.CX P w) P w K mg base N x (defScope st) f cdv A outer s H E) fun cls d _ G => E cls d G) →
      ∃ t, PSs (cxOf (L2.CX P w) P w K mg base N x (defScope st) f cdv A outer s H E) (defBody st) t ∧ t { nx := fun _ H' => Q .non H', rt := Q } (start N vs) H) : CalX P w K mg base (k + 1) x sp := by
  obtain ⟨f, fd, F, hm, b⟩ := D.ex
  exact ⟨f, fd, ps, F.okX S len fun cdv A outer s H vs Q E hr hsp => hb f cdv A outer s H vs Q E hr hsp (takes_of rfl rfl rfl rfl), hm, F.kp, b⟩
/-- where it raises nothing it is a plain def -/
theorem fn_calm {k : Nat} {f : Addr} {fd : FuncData} {ps : List Str} {sp sp' : Sp} (F : FnOk P w K mg base (L2.CX P w) k f fd ps sp) (h : ∀ vs H Q E, sp' vs H Q E → sp vs H Q E0) : FnOk P w K mg base CX0 k f fd ps sp' := by
  refine ⟨fun vs H Q E q => F.len _ _ _ _ (h _ _ _ _ q), fun A outer s H args us vs Q E hr e0 b r q => codeAny_mono (F.run A outer s H args us vs Q E0 hr e0 b r (h _ _ _ _ q)) fun res s' z => ?_⟩
  cases res with
  | ok fl => cases fl <;> exact z
  | error e =>
    obtain ⟨_, _, _, _, _, _, _, _, _, _, _, _, no⟩ := z
    exact no.elim
theorem CalX.calm {x : Str} {k : Nat} {sp sp' : Sp} (c : CalX P w K mg base k x sp) (h : ∀ vs H Q E, sp' vs H Q E → sp vs H Q E0) : Cal P w K mg base k x sp' [] := by
  obtain ⟨f, fd, ps, F, hm, kp, b⟩ := c.ex
  exact ⟨f, fd, ps, [], fn_calm F h, hm, kp, b, .nil⟩
theorem CalX.imp {x : Str} {k j : Nat} {sp sp' : Sp} (c : CalX P w K mg base k x sp) (hk : k ≤ j) (h : ∀ vs H Q E, sp' vs H Q E → sp vs H Q E) : CalX P w K mg base j x sp' := by
  obtain ⟨f, fd, ps, F, hm, kp, b⟩ := c.ex
  exact ⟨f, fd, ps, (F.mono hk).imp h, hm, kp, b⟩
end
section
variable {X : Cx} {W : WX} {k j : Nat} {x : Str} {sp : Sp} {p pos : Pos} {e : Expr} {es : List Expr} {t : TA}
/-- a call that may raise, where W is wished of what is raised -/
theorem pe_cx (c : CalX X.prog X.w X.K X.mg X.base k x sp) (hr : Room j X.A) (hk : k ≤ j) (tk : Takes X W) (hg : Gl X x) (ha : PA X (e :: es) t)
    (hdb : (x == ("__debug__" : Str)) = false := by decide) (he : starEach (e :: es) X.env = (false, eval e X.env) :: starEach es X.env := by rfl) (hpl : (backTo pos (starEach es X.env)).any (·.1) = false := by rfl) :
    PE X (.Call (.Name x p) (e :: es) [] pos) (tCallS sp (WE W) t) := by
  obtain ⟨f, fd, ps, F, hm, kp, b⟩ := c.ex
  exact pe_callS F (hr.mono hk) hg hm kp b (passAt tk) ha hdb he hpl
/-- a call of such a def that raises nothing -/
theorem pe_cx0 (c : CalX X.prog X.w X.K X.mg X.base k x sp) (hr : Room j X.A) (hk : k ≤ j) (hg : Gl X x) (ha : PA X (e :: es) t)
    (hdb : (x == ("__debug__" : Str)) = false := by decide) (he : starEach (e :: es) X.env = (false, eval e X.env) :: starEach es X.env := by rfl) (hpl : (backTo pos (starEach es X.env)).any (·.1) = false := by rfl) :
    PE X (.Call (.Name x p) (e :: es) [] pos) (tCall sp [] E0 t) := by
  obtain ⟨f, fd, ps, F, hm, kp, b⟩ := c.ex
  exact L2.pe_call F (hr.mono hk) hg hm kp b .nil passL ha hdb he hpl
end

/-! ## methods and new objects that may raise -/
structure MetX (P : Program) (w : World) (K : PySem.W.Frag) (mg : Str → Option Value) (base : Heap) (k : Nat) (C : Addr) (m : Str) (sp : Sp) : Prop where
  ex : ∃ (f : Addr) (fd : FuncData) (ps : List Str), Cls K C ∧ Meth K C m f ∧ FnOk P w K mg base (L2.CX P w) k f fd ps sp ∧ L2.Binds K fd ps []
structure MakX (P : Program) (w : World) (K : PySem.W.Frag) (mg : Str → Option Value) (base : Heap) (k : Nat) (x : Str) (C : Addr) (sp : Sp) : Prop where
  ex : ∃ (f : Addr) (fd : FuncData) (ps : List Str), Mk K C f ∧ FnOk P w K mg base (L2.CX P w) k f fd ps sp ∧ mg x = some (.ref C) ∧ L2.Binds K fd ps []
section
variable {P : Program} {w : World} {K : PySem.W.Frag} {mg : Str → Option Value} {base : Heap} {C : Addr} {m x qual : Str} {st : Stmt} {ps N : List Str} {k : Nat} {sp : Sp}
theorem MetAt.metX (D : MetAt K C m qual st ps) (cl : Cls K C) (S : FnScope N ps (defScope st)) (len : ∀ vs H Q E, sp vs H Q E → vs.length = ps.length)
    (hb : ∀ (f : Addr) (cdv : Value) (A : Around) (outer : List Env) (s : Shared) (H : Hp) (vs : List V) (Q : VK) (E : XK), Room k (A.deeper (envOfC qual (defScope st) s.heap.objs.size f cdv)) → sp vs H Q E →
      (Takes (cxOf (L2.CX P w) P w K mg base N qual (defScope st) f cdv A outer s H E) fun cls d _ G => E cls d G) →
      ∃ t, PSs (cxOf (L2.CX P w) P w K mg base N qual (defScope st) f cdv A outer s H E) (defBody st) t ∧ t { nx := fun _ H' => Q .non H', rt := Q } (start N vs) H) : MetX P w K mg base (k + 1) C m sp := by
  obtain ⟨f, fd, F, hm, b⟩ := D.ex
  exact ⟨f, fd, ps, cl, hm, F.okX S len fun cdv A outer s H vs Q E hr hsp => hb f cdv A outer s H vs Q E hr hsp (takes_of rfl rfl rfl rfl), b⟩
theorem IniAt.makX (D : IniAt K mg C x qual st ps) (S : FnScope N ps (defScope st)) (len : ∀ vs H Q E, sp vs H Q E → vs.length = ps.length)
    (hb : ∀ (f : Addr) (cdv : Value) (A : Around) (outer : List Env) (s : Shared) (H : Hp) (vs : List V) (Q : VK) (E : XK), Room k (A.deeper (envOfC qual (defScope st) s.heap.objs.size f cdv)) → sp vs H Q E →
      (Takes (cxOf (L2.CX P w) P w K mg base N qual (defScope st) f cdv A outer s H E) fun cls d _ G => E cls d G) →
      ∃ t, PSs (cxOf (L2.CX P w) P w K mg base N qual (defScope st) f cdv A outer s H E) (defBody st) t ∧ t { nx := fun _ H' => Q .non H', rt := Q } (start N vs) H) : MakX P w K mg base (k + 1) x C sp := by
  obtain ⟨f, fd, F, hm, hg, b⟩ := D.ex
  exact ⟨f, fd, ps, hm, F.okX S len fun cdv A outer s H vs Q E hr hsp => hb f cdv A outer s H vs Q E hr hsp (takes_of rfl rfl rfl rfl), hg, b⟩
end
theorem MetX.calm {P : Program} {w : World} {K : PySem.W.Frag} {mg : Str → Option Value} {base : Heap} {C : Addr} {m : Str} {k : Nat} {sp sp' : Sp} (c : MetX P w K mg base k C m sp) (h : ∀ vs H Q E, sp' vs H Q E → sp vs H Q E0) : Met P w K mg base k C m sp' := by
  obtain ⟨f, fd, ps, c1, c2, F, b⟩ := c.ex
  exact ⟨f, fd, ps, c1, c2, fn_calm F h, b⟩
theorem MakX.calm {P : Program} {w : World} {K : PySem.W.Frag} {mg : Str → Option Value} {base : Heap} {C : Addr} {x : Str} {k : Nat} {sp sp' : Sp} (c : MakX P w K mg base k x C sp) (h : ∀ vs H Q E, sp' vs H Q E → sp vs H Q E0) : Mak P w K mg base k x C sp' := by
  obtain ⟨f, fd, ps, M, F, hm, b⟩ := c.ex
  exact ⟨f, fd, ps, M, fn_calm F h, hm, b⟩
def tMethS (C : Addr) (m : Str) (sp : Sp) (E : L2.St → XK) (ta : TE) (t : TA) : TE := fun σ H Q => ta σ H fun x H1 => ∃ a dx fs, x = .ref a ∧ H1 a = some (.ins C dx fs) ∧ fs.lookup m = none ∧ t σ H1 fun vs H2 => sp (x :: vs) H2 Q (E σ)
def tMakeS (C : Addr) (sp : Sp) (E : L2.St → XK) (t : TA) : TE := fun σ H Q => t σ H fun vs H1 => ∀ x dx, H1 x = none → H1 dx = none → dx ≠ x →
  sp (.ref x :: vs) (upd (upd H1 dx (.own x)) x (.ins C dx [])) (fun v H2 => v = .non ∧ Q (.ref x) H2) (E σ)
section
variable {X : Cx} {W : WX} {k j : Nat} {C : Addr} {x m : Str} {sp : Sp} {p pos apos : Pos} {e o : Expr} {es : List Expr} {ta : TE} {t : TA}
theorem pe_mx {pl : Sem Bool} (c : MetX X.prog X.w X.K X.mg X.base k C m sp) (hr : Room j X.A) (hk : k ≤ j) (tk : Takes X W) (he : PE X o ta) (ha : PA X (e :: es) t)
    (ht : eval (.Call (.Attribute o m apos) (e :: es) [] pos) X.env = (do
      let ov ← eval o X.env
      standAt apos.atName
      let (f, first) ← holding [ov] (getMethod ov m pl)
      callWith pos f first (backTo pos (starEach (e :: es) X.env)) (backToKw pos (keywordEach [] X.env))) := by rfl)
    (hst : starEach (e :: es) X.env = (false, eval e X.env) :: starEach es X.env := by rfl) (hpl : (backTo pos (starEach es X.env)).any (·.1) = false := by rfl) : PE X (.Call (.Attribute o m apos) (e :: es) [] pos) (tMethS C m sp (WE W) ta t) := by
  obtain ⟨f, fd, ps, cl, hm, F, b⟩ := c.ex
  refine ⟨fun pins s σ H Q I h => PySem.W.methodCall_KW (pl := pl) (thn (he.run pins s σ H _ I h) fun u s1 hh => ?_) ht⟩
  obtain ⟨x, H1, I1, rx, a, dx, fs, rfl, ea, l, q⟩ := hh
  obtain rfl : u = Value.ref a := rx
  refine getmeth_ok I1 ea cl hm l (PySem.W.callWith_K (first := [.ref a]) (h₀ := X.base) I.ok.mod.kin hm.kp (thn (ha.run pos pins s1 σ H1 _ I1 q) fun us s2 hh => ?_) hst hpl)
  obtain ⟨vs, H2, I2, r, q2⟩ := hh
  exact ⟨I2.kIn, run_fnS (us := .ref a :: us) (vs := .ref a :: vs) F (hr.mono hk) b (passAt tk σ) I2 (.cons rfl r) q2⟩
theorem pe_mkx (c : MakX X.prog X.w X.K X.mg X.base k x C sp) (hr : Room j X.A) (hk : k + 1 ≤ j) (tk : Takes X W) (hg : Gl X x) (ha : PA X (e :: es) t)
    (hdb : (x == ("__debug__" : Str)) = false := by decide) (he : starEach (e :: es) X.env = (false, eval e X.env) :: starEach es X.env := by rfl) (hpl : (backTo pos (starEach es X.env)).any (·.1) = false := by rfl) :
    PE X (.Call (.Name x p) (e :: es) [] pos) (tMakeS C sp (WE W) t) := by
  obtain ⟨f, fd, ps, M, F, hm, b⟩ := c.ex
  refine ⟨fun pins s σ H Q I h => wpAny_Call_Name_kw (ld_glob I hg hm ?_ hdb)⟩
  refine PySem.W.callWith_K (h₀ := X.base) I.ok.mod.kin M.kp (thn (ha.run pos pins s σ H _ I h) fun us s1 hh => ?_) he hpl
  obtain ⟨vs, H1, I1, r, q⟩ := hh
  refine ⟨I1.kIn, ?_⟩
  have hq := q (s1.heap.objs.size + 1) s1.heap.objs.size (I1.hok.fresh (Nat.le_succ _)) (I1.hok.fresh (Nat.le_refl _)) (Nat.ne_of_lt (Nat.lt_succ_self _))
  have I2 := Inv.made (C := C) I1
  have r2 : Vals (V.ref (s1.heap.objs.size + 1) :: vs) (Value.ref (s1.heap.objs.size + 1) :: us) := .cons rfl r
  have ln : (Value.ref (s1.heap.objs.size + 1) :: us).length = ps.length := by
    rw [← r2.length]
    exact F.len _ _ _ _ hq
  have bb := b _ (Value.ref (s1.heap.objs.size + 1) :: us) I2.kIn (by rw [List.append_nil]; exact ln)
  rw [List.append_nil] at bb
  show wpAny _ _ (call (.ref C) us) _ _ _
  refine wpAny_call (make_map (f := f) I1.kIn M.makes M.init (beq_iff_eq.mp M.fn) (codeAny_mono (F.run _ X.stack _ _ ⟨Value.ref (s1.heap.objs.size + 1) :: us, []⟩ _ _ _ (WE W σ) ((hr.mono hk).make C us []) (I2.env0.make C us []) bb r2 hq) fun r s' hq2 => ?_))
  cases r with
  | error er => exact passAt tk σ pins _ _ er s' I2 hq2
  | ok fl =>
    cases fl with
    | ret u =>
      obtain ⟨v, H', I3, rv, ev, q3⟩ := I2.after hq2
      subst ev
      exact ⟨rv, ⟨V.ref (s1.heap.objs.size + 1), H', I3, rfl, q3⟩⟩
    | next => exact False.elim hq2
    | brk => exact False.elim hq2
    | cont => exact False.elim hq2
theorem pe_mx0 {pl : Sem Bool} (c : MetX X.prog X.w X.K X.mg X.base k C m sp) (hr : Room j X.A) (hk : k ≤ j) (he : PE X o ta) (ha : PA X (e :: es) t)
    (ht : eval (.Call (.Attribute o m apos) (e :: es) [] pos) X.env = (do
      let ov ← eval o X.env
      standAt apos.atName
      let (f, first) ← holding [ov] (getMethod ov m pl)
      callWith pos f first (backTo pos (starEach (e :: es) X.env)) (backToKw pos (keywordEach [] X.env))) := by rfl)
    (hst : starEach (e :: es) X.env = (false, eval e X.env) :: starEach es X.env := by rfl) (hpl : (backTo pos (starEach es X.env)).any (·.1) = false := by rfl) : PE X (.Call (.Attribute o m apos) (e :: es) [] pos) (tMeth C m sp [] E0 ta t) := by
  obtain ⟨f, fd, ps, c1, c2, F, b⟩ := c.ex
  exact L2.pe_meth (pl := pl) he c1 c2 F (hr.mono hk) b .nil passL ha hst hpl ht
theorem pe_mkx0 (c : MakX X.prog X.w X.K X.mg X.base k x C sp) (hr : Room j X.A) (hk : k + 1 ≤ j) (hg : Gl X x) (ha : PA X (e :: es) t)
    (hdb : (x == ("__debug__" : Str)) = false := by decide) (he : starEach (e :: es) X.env = (false, eval e X.env) :: starEach es X.env := by rfl) (hpl : (backTo pos (starEach es X.env)).any (·.1) = false := by rfl) :
    PE X (.Call (.Name x p) (e :: es) [] pos) (tMake C sp [] E0 t) := by
  obtain ⟨f, fd, ps, M, F, hm, b⟩ := c.ex
  exact L2.pe_make M F (hr.mono hk) hg hm b .nil passL ha hdb he hpl
end

/-! ## an exception class of the text, out of what the top has written -/
theorem rai_mk {P : Program} {w : World} {K : PySem.W.Frag} {h base : Heap} {mg : Str → Option Value} {x : Str} {C f cc cda N : Addr} {nm q qual m file : Str} {bs bm sub : List Value} {sn : List Str} {ab : Bool} {col : Option Bool} {dd cld cdd od an : Option Addr} {k0 k1 k2 k3 k5 : Option Value}
    {cl ccl oc kV doc pm ct : Value} {csl ccs osl : Array (Option Value)} {cvs : Array Value} {tf : Tok} {p0 p1 p2 p3 p4 p5 p6 p7 p8 p9 q0 q1 : Pos} (X : K.In h) (G : h.Ns mainGlobals mg) (hm : mg x = some (.ref C))
    (lC : K.lookup C = some (excClassObj nm q C N bs bm true sn sub ab col dd k0 k1 k2 k3 k5 "ValueError.__new__")) (rC : PySem.HandSPX.refsVE bm = true) (sa : PySem.W.findIn K (.ref C) "__setattr__" = some (some (.builtin "object.__setattr__")))
    (ex : PySem.W.subIn K (.ref C) (.type "BaseException") = some true) (ty : PySem.W.typeIn K (.ref C) = some (.type "type")) (kc : PySem.W.keepIn K (.ref C) = true)
    (ini : PySem.W.findIn K (.ref C) "__init__" = some (some (.ref f))) (tyf : PySem.W.typeIn K (.ref f) = some (.type "function"))
    (l : K.lookup f = some ⟨oc, od, .func (PySem.W.ksFn "__init__" qual (xiArgs q0 q1) (xiBody m p0 p1 p2 p3 p4 p5 p6 p7 p8 p9) xiScope .none kV doc pm an (.ref cda) ct cc), osl⟩)
    (co : PySem.W.codeIn K (.ref cda) qual = true) (cell : K.lookup cc = some ⟨cl, cld, .cell (some (.ref C)), csl⟩) (rec_ : K.lookup cda = some ⟨ccl, cdd, .fields cvs, ccs⟩) (v2 : cvs[2]? = some (.str file tf)) (fl : ((P.main.file : Str) == file) = true)
    (top : (P.main.scope.names.lookup ("super" : Str)).isSome = false) (opq : PySem.W.nsIn K PySem.cStatics "thirdparty.any" = some none) (sup : PySem.W.ks_superIn K C C "__init__" = some (some (.builtin "ValueError.__init__"))) (veb : PySem.W.subIn K (.ref C) (.type "ValueError") = some true)
    (slf : PySem.W.mroIn K C (.ref C) = some true) (val : PySem.W.findIn K (.ref C) "value" = some none) (ms : PySem.W.nsIn K mainGlobals "super" = some none) (he : XiCall qual f cc cda m p0 p1 p2 p3 p4)
    (hb : ∀ us : List Value, us.length = 2 → bindArgs (PySem.W.ksFn "__init__" qual (xiArgs q0 q1) (xiBody m p0 p1 p2 p3 p4 p5 p6 p7 p8 p9) xiScope .none kV doc pm an (.ref cda) ct cc) ⟨us, []⟩ = pure ((["self", "value"] : List Str).zip us)) : Rai P w K mg base 1 x C :=
  ⟨f, _, ⟨⟨nm, q, N, bs, bm, sn, sub, ab, col, dd, k0, k1, k2, k3, k5, lC, rC⟩, sa, ex, ty, kc⟩, ini, tyf,
    ok_xi ⟨⟨nm, q, N, bs, bm, sn, sub, ab, col, dd, k0, k1, k2, k3, k5, lC, rC⟩, sa, ex, ty, kc⟩ ⟨co, ⟨cl, cld, csl, cell⟩, ⟨ccl, cdd, cvs, ccs, tf, rec_, v2⟩, fl, top, opq, sup, veb, slf, val⟩ l (PySem.W.mg_none_of X G ms) he, hm, L2.Binds.all hb⟩
end Sq


set_option Elab.async false
set_option maxRecDepth 100000
set_option maxHeartbeats 4000000
namespace Sq
open PySem PySem.Spec PyProof.Rows L2
/-! ## methods called by keywords alone -/
structure MetKX (P : Program) (w : World) (K : PySem.W.Frag) (mg : Str → Option Value) (base : Heap) (k : Nat) (C : Addr) (m : Str) (ks : List Str) (sp : Sp) : Prop where
  ex : ∃ (f : Addr) (fd : FuncData) (ps : List Str) (spf : Sp) (g : List Value → List Value → List Value) (gV : List V → List V → List V),
    Cls K C ∧ Meth K C m f ∧ FnOk P w K mg base (L2.CX P w) k f fd ps spf ∧ KBn K fd ps 1 ks g gV ∧ ∀ x zs H Q E, sp (x :: zs) H Q E → zs.length = ks.length ∧ spf (gV [x] zs) H Q E
def tMetK (C : Addr) (m : Str) (sp : Sp) (E : L2.St → XK) (ta : TE) (tk : TA) : TE := fun σ H Q => ta σ H fun x H1 => ∃ a dx fs, x = .ref a ∧ H1 a = some (.ins C dx fs) ∧ fs.lookup m = none ∧ tk σ H1 fun zs H2 => sp (x :: zs) H2 Q (E σ)
section
variable {X : Cx} {W : WX} {k j : Nat} {C : Addr} {m : Str} {ks : List Str} {sp : Sp} {pos apos : Pos} {o : Expr} {kws : List Keyword} {ta : TE} {t : TA}
theorem pe_mkwx {pl : Sem Bool} (c : MetKX X.prog X.w X.K X.mg X.base k C m ks sp) (hr : Room j X.A) (hk : k ≤ j) (tk : Takes X W) (he : PE X o ta) (ha : PK X kws t)
    (ht : eval (.Call (.Attribute o m apos) [] kws pos) X.env = (do
      let ov ← eval o X.env
      standAt apos.atName
      let (f, first) ← holding [ov] (getMethod ov m pl)
      callWith pos f first (backTo pos (starEach [] X.env)) (backToKw pos (keywordEach kws X.env))) := by rfl)
    (hall : (backToKw pos (keywordEach kws X.env)).all (·.1.isSome) = true := by rfl) (hks : (backToKw pos (keywordEach kws X.env)).filterMap (·.1) = ks := by rfl)
    (hpl : ((backTo pos (starEach [] X.env)).any (·.1) || (backToKw pos (keywordEach kws X.env)).any (·.1.isNone)) = false := by rfl) : PE X (.Call (.Attribute o m apos) [] kws pos) (tMetK C m sp (WE W) ta t) := by
  obtain ⟨f, fd, ps, spf, g, gV, cl, hm, F, hb, hs⟩ := c.ex
  refine ⟨fun pins s σ H Q I h => PySem.W.methodCall_KW (pl := pl) (thn (he.run pins s σ H _ I h) fun u s1 hh => ?_) ht⟩
  obtain ⟨x, H1, I1, rx, a, dx, fs, rfl, ea, l, q⟩ := hh
  obtain rfl : u = Value.ref a := rx
  refine getmeth_ok I1 ea cl hm l (PySem.W.callWith_KW0 (first := [.ref a]) (h₀ := X.base) I.ok.mod.kin hm.kp hall (thn (ha.run pos pins s1 σ H1 _ I1 q) fun ws s2 hh => ?_) hpl)
  obtain ⟨zs, H2, I2, rz, q2⟩ := hh
  obtain ⟨lz, q3⟩ := hs _ _ _ _ _ q2
  refine ⟨I2.kIn, ?_⟩
  rw [hks]
  have r1 : Vals [V.ref a] [Value.ref a] := .cons rfl .nil
  refine wpAny_call (codeAny_mono (F.run X.A X.stack s2 H2 ⟨[.ref a], ks.zip ws⟩ (g [.ref a] ws) (gV [.ref a] zs) Q (WE W σ) (hr.mono hk) I2.env0 (hb.to s2 [.ref a] ws I2.kIn rfl (rz.length.symm.trans lz)) (hb.rel r1 rz) q3) fun r s3 hq => ?_)
  cases r with
  | error er => exact passAt tk σ pins H2 s2 er s3 I2 hq
  | ok fl =>
    cases fl with
    | ret u => exact I2.after hq
    | next => exact False.elim hq
    | brk => exact False.elim hq
    | cont => exact False.elim hq
end
/-! ## new objects made by keywords alone -/
structure MakK (P : Program) (w : World) (K : PySem.W.Frag) (mg : Str → Option Value) (base : Heap) (k : Nat) (x : Str) (C : Addr) (ks : List Str) (sp : Sp) : Prop where
  ex : ∃ (f : Addr) (fd : FuncData) (ps : List Str) (spf : Sp) (g : List Value → List Value → List Value) (gV : List V → List V → List V),
    Mk K C f ∧ FnOk P w K mg base CX0 k f fd ps spf ∧ mg x = some (.ref C) ∧ KBn K fd ps 1 ks g gV ∧ ∀ x zs H Q E, sp (x :: zs) H Q E → zs.length = ks.length ∧ spf (gV [x] zs) H Q E
def tMakK (C : Addr) (sp : Sp) (tk : TA) : TE := fun σ H Q => tk σ H fun zs H1 => ∀ x dx, H1 x = none → H1 dx = none → dx ≠ x → sp (.ref x :: zs) (upd (upd H1 dx (.own x)) x (.ins C dx [])) (fun v H3 => v = .non ∧ Q (.ref x) H3) E0
section
variable {X : Cx} {k j : Nat} {C : Addr} {x : Str} {ks : List Str} {sp : Sp} {p pos : Pos} {kws : List Keyword} {t : TA}
theorem pe_mkk (c : MakK X.prog X.w X.K X.mg X.base k x C ks sp) (hr : Room j X.A) (hk : k + 1 ≤ j) (hg : Gl X x) (ha : PK X kws t)
    (hall : (backToKw pos (keywordEach kws X.env)).all (·.1.isSome) = true := by rfl) (hks : (backToKw pos (keywordEach kws X.env)).filterMap (·.1) = ks := by rfl) (hdb : (x == ("__debug__" : Str)) = false := by decide)
    (hpl : ((backTo pos (starEach [] X.env)).any (·.1) || (backToKw pos (keywordEach kws X.env)).any (·.1.isNone)) = false := by rfl) : PE X (.Call (.Name x p) [] kws pos) (tMakK C sp t) := by
  obtain ⟨f, fd, ps, spf, g, gV, M, F, hm, hb, hs⟩ := c.ex
  refine ⟨fun pins s σ H Q I h => wpAny_Call_Name_kw (ld_glob I hg hm (PySem.W.callWith_KW0 (h₀ := X.base) I.ok.mod.kin M.kp hall (thn (ha.run pos pins s σ H _ I h) fun ws s2 hh => ?_) hpl) hdb)⟩
  obtain ⟨zs, H2, I2, rz, q2⟩ := hh
  refine ⟨I2.kIn, ?_⟩
  rw [hks]
  have lz : zs.length = ks.length := (hs _ _ _ _ _ (q2 (s2.heap.objs.size + 1) s2.heap.objs.size (I2.hok.fresh (Nat.le_succ _)) (I2.hok.fresh (Nat.le_refl _)) (Nat.ne_of_lt (Nat.lt_succ_self _)))).1
  exact run_makeK (us := []) (vs := []) M F (hr.mono hk) hb pass0 I2 .nil rz rfl lz fun x dx n1 n2 n3 => (hs _ _ _ _ _ (q2 x dx n1 n2 n3)).2
end
/-! ## list.count of plain values -/
def rCntF (K : PySem.W.Frag) : V → List V → Hp → VK → Prop := fun x xs H Q => ∃ (a : Addr) (ys : List V) (y : V), x = .ref a ∧ xs = [y] ∧ SqL K H a ys ∧ flatV y = true ∧ ys.all flatV = true ∧ Q (.int ((ys.countP fun z => eqV z y : Nat) : Int)) H
theorem count_flat {y : V} : ∀ {ys : List V} {us : List Value}, Vals ys us → ys.all flatV = true → us.countP (eqU y) = ys.countP fun z => eqV z y
  | _, _, .nil, _ => rfl
  | _, _, .cons (a := z) (b := u) r t, f => by
    rw [List.all_cons, Bool.and_eq_true] at f
    rw [List.countP_cons, List.countP_cons, count_flat t f.2, eqU_of r f.1]
theorem mt_countF {X : Cx} : MtR X "list.count" (rCntF X.K) := by
  intro pins s σ H x xs v us Q I rx rxs h
  obtain ⟨a, ys, y, rfl, rfl, hs, fy, fys, q⟩ := h
  cases rx
  obtain ⟨uy, rfl, ry⟩ := rxs.one
  obtain ⟨its, rv, ⟨⟨cls, dd, data, sl⟩, n, ho, hc, hdn, hd⟩, hlen⟩ := I.list hs
  simp only at hc hd
  subst hc hd
  refine call_meets PySem.F.slot_list_count ⟨_, ho, rfl⟩ PySem.F.entry_list_count (PySem.F.args_list_count_2 _ _) (SeqAt.list_countAt a its.toArray n dd sl uy (eqU y)) ⟨ho, fun u2 hu2 => mem_eqAt ry fy rv fys u2 (by simpa using hu2), ?_⟩
  refine ⟨.int ((ys.countP fun z => eqV z y : Nat) : Int), H, I.tok _, ⟨s.toks, ?_⟩, q⟩
  show Value.int ((its.toArray.toList.countP (eqU y) : Nat) : Int) s.toks = _
  rw [List.toList_toArray, count_flat rv fys]
/-! ## a method, an __init__ called by place and by keywords -/
theorem kbn_self {K : PySem.W.Frag} {x qual : Str} {st : Stmt} {f : Addr} {fd : FuncData} {ps ks : List Str} (F : Fun K x qual st f fd) (g : {α : Type} → α → List α → List α) (hg : ∀ {v : V} {u : Value} {vs : List V} {us : List Value}, RelV v u → Vals vs us → Vals (g v vs) (g u us))
    (h : ∀ (kV doc pm : Value) (an : Option Addr) (cdv ct u : Value) (ws : List Value), ws.length = ks.length →
      bindArgs (PySem.W.fnOf x qual (defArgs st) (defBody st) (defScope st) .none kV doc pm an cdv ct) ⟨[u], ks.zip ws⟩ = pure (ps.zip (g u ws))) : KBn K fd ps 1 ks (fun us ws => match us with | [u] => g u ws | _ => ws) (fun us ws => match us with | [u] => g u ws | _ => ws) := by
  obtain ⟨oc, od, kV, doc, pm, an, cdv, ct, osl, rfl, lk, hcd⟩ := F.ex
  refine ⟨fun s us ws X l1 l2 => ?_, fun r1 r2 => ?_⟩
  · match us, l1 with
    | [u], _ => exact .of_eq (h kV doc pm an cdv ct u ws l2)
  · cases r1 with
    | nil => exact r2
    | cons a r => cases r with
      | nil => exact hg a r2
      | cons b r => exact r2
section
variable {P : Program} {w : World} {K : PySem.W.Frag} {mg : Str → Option Value} {base : Heap} {C : Addr} {m x qual : Str} {st : Stmt} {ps ks N : List Str} {k : Nat} {sp spk : Sp}
theorem MetAt.metKX (D : MetAt K C m qual st ps) (cl : Cls K C) (S : FnScope N ps (defScope st)) (len : ∀ vs H Q E, sp vs H Q E → vs.length = ps.length)
    (hb : ∀ (f : Addr) (cdv : Value) (A : Around) (outer : List Env) (s : Shared) (H : Hp) (vs : List V) (Q : VK) (E : XK), Room k (A.deeper (envOfC qual (defScope st) s.heap.objs.size f cdv)) → sp vs H Q E →
      (Takes (cxOf (L2.CX P w) P w K mg base N qual (defScope st) f cdv A outer s H E) fun cls d _ G => E cls d G) →
      ∃ t, PSs (cxOf (L2.CX P w) P w K mg base N qual (defScope st) f cdv A outer s H E) (defBody st) t ∧ t { nx := fun _ H' => Q .non H', rt := Q } (start N vs) H)
    (g : {α : Type} → α → List α → List α) (hg : ∀ {v : V} {u : Value} {vs : List V} {us : List Value}, RelV v u → Vals vs us → Vals (g v vs) (g u us))
    (h : ∀ (kV doc pm : Value) (an : Option Addr) (cdv ct u : Value) (ws : List Value), ws.length = ks.length →
      bindArgs (PySem.W.fnOf m qual (defArgs st) (defBody st) (defScope st) .none kV doc pm an cdv ct) ⟨[u], ks.zip ws⟩ = pure (ps.zip (g u ws)))
    (hs : ∀ x zs H Q E, spk (x :: zs) H Q E → zs.length = ks.length ∧ sp (g x zs) H Q E) : MetX P w K mg base (k + 1) C m sp ∧ MetKX P w K mg base (k + 1) C m ks spk := by
  obtain ⟨f, fd, F, hm, b⟩ := D.ex
  have ok := F.okX S len fun cdv A outer s H vs Q E hr hsp => hb f cdv A outer s H vs Q E hr hsp (takes_of rfl rfl rfl rfl)
  exact ⟨⟨f, fd, ps, cl, hm, ok, b⟩, ⟨f, fd, ps, sp, _, _, cl, hm, ok, kbn_self F g hg h, hs⟩⟩
theorem IniAt.makK (D : IniAt K mg C x qual st ps) (S : FnScope N ps (defScope st)) (len : ∀ vs H Q E, sp vs H Q E → vs.length = ps.length)
    (hb : ∀ (f : Addr) (cdv : Value) (A : Around) (outer : List Env) (s : Shared) (H : Hp) (vs : List V) (Q : VK) (E : XK), Room k (A.deeper (envOfC qual (defScope st) s.heap.objs.size f cdv)) → sp vs H Q E →
      (Takes (cxOf (L2.CX P w) P w K mg base N qual (defScope st) f cdv A outer s H E) fun cls d _ G => E cls d G) →
      ∃ t, PSs (cxOf (L2.CX P w) P w K mg base N qual (defScope st) f cdv A outer s H E) (defBody st) t ∧ t { nx := fun _ H' => Q .non H', rt := Q } (start N vs) H)
    (g : {α : Type} → α → List α → List α) (hg : ∀ {v : V} {u : Value} {vs : List V} {us : List Value}, RelV v u → Vals vs us → Vals (g v vs) (g u us))
    (h : ∀ (kV doc pm : Value) (an : Option Addr) (cdv ct u : Value) (ws : List Value), ws.length = ks.length →
      bindArgs (PySem.W.fnOf "__init__" qual (defArgs st) (defBody st) (defScope st) .none kV doc pm an cdv ct) ⟨[u], ks.zip ws⟩ = pure (ps.zip (g u ws)))
    (hs : ∀ x zs H Q E, spk (x :: zs) H Q E → zs.length = ks.length ∧ sp (g x zs) H Q E0) : MakX P w K mg base (k + 1) x C sp ∧ MakK P w K mg base (k + 1) x C ks spk := by
  obtain ⟨f, fd, F, hm, hg2, b⟩ := D.ex
  have ok := F.okX S len fun cdv A outer s H vs Q E hr hsp => hb f cdv A outer s H vs Q E hr hsp (takes_of rfl rfl rfl rfl)
  have ok0 : FnOk P w K mg base CX0 (k + 1) f fd ps (fun vs H Q _ => sp vs H Q E0) := fn_calm ok fun vs H Q E z => z
  exact ⟨⟨f, fd, ps, hm, ok, hg2, b⟩, ⟨f, fd, ps, _, _, _, hm, ok0, hg2, kbn_self F g hg h, hs⟩⟩
end
/-! ## [.. for i, x in enumerate(xs) ..] -/
theorem lc_enum {K : PySem.W.Frag} {a : Addr} {xs : List V} {g : TG} {tt : TT} {te : TE} {vs : List Nat} {σ : L2.St} {H1 : Hp} {D : Addr} {Qd : Hp → Prop} (Pv : Nat → Hp → Prop) (h0 : Pv 0 (upd H1 D (.lst []))) (hq : ∀ i H, Pv i H → SqL K H a xs)
    (hs : ∀ (i : Nat) (x : V) (T : Addr) (H : Hp), xs[i]? = some x → Pv i H → H T = none → g (.ref T) (wipe σ vs) (upd H T (.tup [.int (i : Nat), x])) fun σ2 H2 => wipe σ2 vs = wipe σ vs ∧ tt σ2 H2 fun b H3 =>
      if b = true then te σ2 H3 fun y H4 => ∃ acc, H4 D = some (.lst acc) ∧ acc.length < sizeLine ∧ Pv (i + 1) (upd H4 D (.lst (acc ++ [y]))) else Pv (i + 1) H3) (hd : ∀ H, Pv xs.length H → Qd H) :
    ∃ W : Nat → Nat → Hp → Prop, (∃ m, W 0 m (upd H1 D (.lst []))) ∧ ∀ i m H, W i m H →
      ((Ite K a).stop i H ∧ Qd H) ∨ ((Ite K a).go i H ∧ ∃ Nx : Hp → Prop, (∀ H', Nx H' → ∃ m', m' < m ∧ W (i + 1) m' H') ∧ ∀ x H', (Ite K a).yld i H x H' → g x (wipe σ vs) H' fun σ2 H2 => wipe σ2 vs = wipe σ vs ∧ tt σ2 H2 fun b H3 =>
        if b = true then te σ2 H3 fun y H4 => ∃ acc, H4 D = some (.lst acc) ∧ acc.length < sizeLine ∧ Nx (upd H4 D (.lst (acc ++ [y]))) else Nx H3) := by
  refine ⟨fun i m H => m + i = xs.length ∧ Pv i H, ⟨xs.length, rfl, h0⟩, fun i m H hW => ?_⟩
  obtain ⟨em, p⟩ := hW
  have q := hq i H p
  by_cases lt : i < xs.length
  · have ex : xs[i]? = some xs[i] := List.getElem?_eq_getElem lt
    refine .inr ⟨⟨xs, _, q, ex⟩, Pv (i + 1), fun H' p' => ⟨m - 1, by omega, by omega, p'⟩, fun v H' hy => ?_⟩
    obtain ⟨T, x, rfl, nT, rfl, f⟩ := hy
    exact hs i x T H (f xs q) p nT
  · have ei : i = xs.length := by omega
    subst ei
    exact .inl ⟨⟨xs, q, Nat.le_refl _⟩, hd H p⟩
/-! ## a kept exception stays -/
theorem Kept.same {H H' : Hp} {a C : Addr} {fs : List (Str × V)} (k : Kept H a C fs) (s : Same H H') : Kept H' a C fs := by
  obtain ⟨d, ⟨h1, h2⟩ | ⟨h1, h2⟩⟩ := k
  · exact ⟨d, .inl ⟨s _ _ h1, s _ _ h2⟩⟩
  · exact ⟨d, .inr ⟨s _ _ h1, s _ _ h2⟩⟩
theorem kept_new {H : Hp} {a C d : Addr} {fs : List (Str × V)} (na : H a = none) (hd : H d = some (.xd fs)) : Kept (upd H a (Xo a (.ref C) (some d))) a C fs := ⟨d, .inl ⟨upd_same, upd_keep na hd⟩⟩
theorem But.same {o : Addr} {H H1 H' : Hp} (b : But o H1 H') (s : Same H H1) (n : H o = none) : Same H H' := fun c u e => b c u (fun z => by
  rw [z, n] at e
  cases e) (s c u e)
theorem exm_mk {K : PySem.W.Frag} {C S : Addr} {b : Bool} (h1 : PySem.W.subIn K (.ref S) (.type "BaseException") = some true) (h2 : PySem.W.isClsIn K S = true) (h3 : PySem.W.typeIn K (.ref S) = some (.type "type")) (h4 : PySem.W.subIn K (.ref C) (.ref S) = some b) : PySem.W.exmOne K (.ref C) (.ref S) = some b := by
  have e1 : (PySem.W.subIn K (.ref S) (.type "BaseException") == some true) = true := by rw [h1] <;> rfl
  have e2 : ((PySem.W.clsIn K S).isSome && PySem.W.typeIn K (.ref S) == some (.type "type")) = true := by
    have h2' : (PySem.W.clsIn K S).isSome = true := h2
    rw [h2', h3] <;> rfl
  show (if (PySem.W.subIn K (.ref S) (.type "BaseException") == some true) = true then (if ((PySem.W.clsIn K S).isSome && PySem.W.typeIn K (.ref S) == some (.type "type")) = true then PySem.W.subIn K (.ref C) (.ref S) else none) else none) = some b
  rw [if_pos e1, if_pos e2]
  exact h4
end Sq


set_option Elab.async false
set_option maxRecDepth 100000
set_option maxHeartbeats 4000000
namespace Sq
open PySem PySem.Spec PyProof.Rows L2
/-! ## numbers of lists, as they are counted -/
def need (k L : Int) : Int := if k > L + 1 then L else if (L + 1 + k) / k + k - 3 > k - 1 then (L + 1 + k) / k + k - 3 else k - 1
theorem need_bd {k L : Int} (hk : 2 ≤ k) (hL : 0 ≤ L) : 0 ≤ need k L ∧ need k L ≤ L := by
  unfold need
  split
  · exact ⟨hL, Int.le_refl _⟩
  · have e : (L + 1 + k) / k = (L + 1 - k) / k + 2 := by
      rw [show L + 1 + k = (L + 1 - k) + 2 * k by omega, Int.add_mul_ediv_right _ _ (by omega)]
    have m := Int.ediv_le_self (a := L + 1 - k) k (by omega)
    have p := Int.ediv_nonneg (a := L + 1 - k) (b := k) (by omega) (by omega)
    split <;> omega
/-- the greatest reach of n replacements up to g -/
def gr (g : Int) : Nat → Int
  | 0 => 1
  | n + 1 => (gr g n + 3 - (if (gr g n + 3) / 2 < g then (gr g n + 3) / 2 else g)) * (if (gr g n + 3) / 2 < g then (gr g n + 3) / 2 else g) - 2
theorem gr_step {r b g : Int} (hr : 1 ≤ r) (hg : 2 ≤ g) (g60 : g ≤ 60) (hb : b = if (r + 3) / 2 < g then (r + 3) / 2 else g) : 2 ≤ b ∧ b ≤ 60 ∧ 2 ≤ r + 3 - b ∧ 1 ≤ (r + 3 - b) * b - 2 ∧ (r + 3 - b) * b - 2 ≤ 256 * r := by
  have h1 : 2 ≤ b ∧ b ≤ 60 ∧ 2 ≤ r + 3 - b := by
    subst hb
    split <;> omega
  have h2 : 2 * 2 ≤ (r + 3 - b) * b := Int.mul_le_mul h1.2.2 h1.1 (by decide) (by omega)
  have h3 : (r + 3 - b) * b ≤ (r + 1) * 60 := Int.mul_le_mul (by omega) h1.2.1 (by omega) (by omega)
  omega
theorem gr_pos {g : Int} (hg : 2 ≤ g) (g60 : g ≤ 60) : ∀ n : Nat, 1 ≤ gr g n
  | 0 => Int.le_refl 1
  | n + 1 => (gr_step (gr_pos hg g60 n) hg g60 rfl).2.2.2.1
theorem gr_le {g : Int} (hg : 2 ≤ g) (g60 : g ≤ 60) : ∀ n : Nat, gr g n ≤ 256 ^ n
  | 0 => Int.le_refl 1
  | n + 1 => by
    have a := (gr_step (gr_pos hg g60 n) hg g60 rfl).2.2.2.2
    have b := gr_le hg g60 n
    have e : (256 : Int) ^ (n + 1) = 256 * 256 ^ n := by rw [Int.pow_succ, Int.mul_comm]
    show _ - 2 ≤ _
    rw [e]
    have c := Int.mul_le_mul_of_nonneg_left b (show (0 : Int) ≤ 256 by decide)
    exact Int.le_trans a c
theorem gr_sm {g : Int} (hg : 2 ≤ g) (g60 : g ≤ 60) {n : Nat} (hn : n ≤ 100) : Sm 1000 (gr g n) := by
  have a := gr_pos hg g60 n
  have b := gr_le hg g60 n
  have e : ((256 ^ n : Nat) : Int) = (256 : Int) ^ n := by
    induction n with
    | zero => rfl
    | succ n ih => rw [Nat.pow_succ, Int.pow_succ, Int.natCast_mul, ih (by omega) (gr_pos hg g60 n) (gr_le hg g60 n)]; rfl
  have f : 256 ^ n ≤ 256 ^ 100 := Nat.pow_le_pow_right (by decide) hn
  have k : 256 ^ 100 < 2 ^ 1000 := by decide +kernel
  unfold Sm
  omega
def grs (g : Int) (N : Nat) : List Int := (List.range (N + 1)).map (gr g)
theorem grs_len (g : Int) (N : Nat) : (grs g N).length = N + 1 := by simp [grs]
theorem grs_get {g : Int} {N n : Nat} (h : n ≤ N) : (grs g N)[n]? = some (gr g n) := by
  unfold grs
  rw [List.getElem?_map, List.getElem?_range (by omega)]
  rfl
theorem grs_succ (g : Int) (N : Nat) : grs g N ++ [gr g (N + 1)] = grs g (N + 1) := by
  unfold grs
  rw [List.range_succ (n := N + 1), List.map_append]
  rfl
/-- the number of lists, as it is counted -/
def cntC (g : Int) : Nat → Int → Int
  | 0, L => if L > 1 then 0 else 1
  | n + 1, L => if L > gr g (n + 1) then 0 else ((List.range (g - 1).toNat).map fun j => cntC g n (need (2 + (j : Nat)) L)).sum
theorem sum_bd {b : Int} : ∀ {l : List Int}, (∀ x ∈ l, 0 ≤ x ∧ x ≤ b) → 0 ≤ l.sum ∧ l.sum ≤ l.length * b
  | [], _ => by simp
  | x :: r, h => by
    have ih := sum_bd (l := r) fun y hy => h y (List.mem_cons_of_mem _ hy)
    have hx := h x (List.mem_cons_self ..)
    rw [List.sum_cons, List.length_cons, Int.natCast_add, Int.add_mul]
    omega
theorem cntC_bd {g : Int} (g60 : g ≤ 60) : ∀ (n : Nat) (L : Int), 0 ≤ cntC g n L ∧ cntC g n L ≤ 64 ^ n
  | 0, L => by
    unfold cntC
    split <;> simp
  | n + 1, L => by
    have ih := fun L => cntC_bd g60 n L
    have p : (0 : Int) ≤ 64 ^ n := by
      have := ih 0
      omega
    have e : (64 : Int) ^ (n + 1) = 64 ^ n * 64 := Int.pow_succ ..
    show 0 ≤ (if L > gr g (n + 1) then 0 else ((List.range (g - 1).toNat).map fun j => cntC g n (need (2 + (j : Nat)) L)).sum) ∧ (if L > gr g (n + 1) then 0 else ((List.range (g - 1).toNat).map fun j => cntC g n (need (2 + (j : Nat)) L)).sum) ≤ 64 ^ (n + 1)
    rw [e]
    split
    · omega
    · have s := sum_bd (b := 64 ^ n) (l := (List.range (g - 1).toNat).map fun j => cntC g n (need (2 + (j : Nat)) L)) fun x hx => by
        obtain ⟨j, _, rfl⟩ := List.mem_map.mp hx
        exact ih _
      rw [List.length_map, List.length_range] at s
      have l : (((g - 1).toNat : Nat) : Int) ≤ 64 := by omega
      have m := Int.mul_le_mul_of_nonneg_right l p
      rw [Int.mul_comm 64] at m
      omega
/-- the list with a number, as it is found -/
def nthG (c : Nat → Int) (t : Nat → Int → Option (List Int)) : List Nat → Int → Option (List Int)
  | [], _ => none
  | j :: r, x => if x < c j then (t j x).map fun s => (2 + (j : Nat) : Int) :: s else nthG c t r (x - c j)
def nthC (g : Int) : Nat → Int → Int → Option (List Int)
  | 0, _, _ => some []
  | n + 1, L, x => nthG (fun j => cntC g n (need (2 + (j : Nat)) L)) (fun j x => nthC g n (need (2 + (j : Nat)) L) x) (List.range (g - 1).toNat) x
theorem nthC_succ (g : Int) (n : Nat) (L x : Int) : nthC g (n + 1) L x = nthG (fun j => cntC g n (need (2 + (j : Nat)) L)) (fun j x => nthC g n (need (2 + (j : Nat)) L) x) (List.range (g - 1).toNat) x := rfl
theorem cntC_eq (g : Int) (n : Nat) (L : Int) : cntC g (n + 1) L = if L > gr g (n + 1) then 0 else ((List.range (g - 1).toNat).map fun j => cntC g n (need (2 + (j : Nat)) L)).sum := rfl
theorem cntC_succ {g : Int} {n : Nat} {L x : Int} (h0 : 0 ≤ x) (h : x < cntC g (n + 1) L) : cntC g (n + 1) L = ((List.range (g - 1).toNat).map fun j => cntC g n (need (2 + (j : Nat)) L)).sum := by
  rw [cntC_eq] at h ⊢
  split at h
  · omega
  · rename_i c
    rw [if_neg c]
theorem map_map_app {o : Option (List Int)} (fs : List Int) (k : Int) : ((o.map fun s => k :: s).map fun t => fs ++ t) = o.map fun t => (fs ++ [k]) ++ t := by
  cases o with
  | none => rfl
  | some t => simp
/-! ### what is kept -/
def keyC (n L : Int) : List Key := [.inl n, .inl L]
theorem keyC_v (n L : Int) : (keyC n L).map kV = [V.int n, V.int L] := rfl
/-- what is kept is right -/
def Memo (g : Int) (kvs : List (List Key × V)) : Prop := (kvs.map (·.1)).Nodup ∧ ∀ p ∈ kvs, ∃ (n L : Nat), n ≤ 8 ∧ L ≤ 20000 ∧ p = (keyC n L, .int (cntC g n L))
theorem memo_nil (g : Int) : Memo g [] := ⟨List.nodup_nil, fun p hp => nomatch hp⟩
theorem nodup_lt : ∀ (n : Nat) (l : List Nat), l.Nodup → (∀ x ∈ l, x < n) → l.length ≤ n
  | 0, l, _, h => by
    cases l with
    | nil => exact Nat.le_refl _
    | cons a r => exact absurd (h a (List.mem_cons_self ..)) (Nat.not_lt_zero _)
  | n + 1, l, nd, h => by
    have ih := nodup_lt n (l.filter (· ≠ n)) (nd.sublist List.filter_sublist) (fun x hx => by
      rw [List.mem_filter] at hx
      have := h x hx.1
      have := of_decide_eq_true hx.2
      omega)
    have c : (l.filter (· ≠ n)).length + (l.filter (· = n)).length = l.length := by
      clear ih nd h
      induction l with
      | nil => rfl
      | cons a r ih =>
        by_cases z : a = n
        · rw [List.filter_cons_of_neg (by simp [z]), List.filter_cons_of_pos (by simp [z]), List.length_cons, List.length_cons]
          omega
        · rw [List.filter_cons_of_pos (by simp [z]), List.filter_cons_of_neg (by simp [z]), List.length_cons, List.length_cons]
          omega
    have d : (l.filter (· = n)).length ≤ 1 := by
      have nd2 : (l.filter (· = n)).Nodup := nd.sublist List.filter_sublist
      cases e : l.filter (· = n) with
      | nil => exact Nat.zero_le _
      | cons a r =>
        rw [e] at nd2
        cases r with
        | nil => exact Nat.le_refl _
        | cons b r =>
          have ha : a ∈ l.filter (· = n) := by rw [e]; simp
          have hb : b ∈ l.filter (· = n) := by rw [e]; simp
          rw [List.mem_filter] at ha hb
          have ea := of_decide_eq_true ha.2
          have eb := of_decide_eq_true hb.2
          rw [List.nodup_cons] at nd2
          exact absurd (by rw [ea, eb]; simp) nd2.1
    omega
theorem Memo.len {g : Int} {kvs : List (List Key × V)} (h : Memo g kvs) : kvs.length < sizeLine := by
  let code : List Key × V → Nat := fun p => match p.1 with | [.inl n, .inl L] => n.toNat * 20001 + L.toNat | _ => 0
  have inj : (kvs.map code).Nodup := by
    have nd := h.1
    have ok := h.2
    clear h
    induction kvs with
    | nil => exact List.nodup_nil
    | cons p r ih =>
      rw [List.map_cons, List.nodup_cons] at nd ⊢
      refine ⟨fun hm => ?_, ih nd.2 fun q hq => ok q (List.mem_cons_of_mem _ hq)⟩
      obtain ⟨q, hq, e⟩ := List.mem_map.mp hm
      obtain ⟨n, L, n8, L2, rfl⟩ := ok p (List.mem_cons_self ..)
      obtain ⟨n', L', n8', L2', rfl⟩ := ok q (List.mem_cons_of_mem _ hq)
      have e : ((n' : Int)).toNat * 20001 + ((L' : Int)).toNat = ((n : Int)).toNat * 20001 + ((L : Int)).toNat := e
      rw [Int.toNat_natCast, Int.toNat_natCast, Int.toNat_natCast, Int.toNat_natCast] at e
      have e1 : n' = n := by omega
      have e2 : L' = L := by omega
      subst e1
      subst e2
      exact nd.1 (List.mem_map.mpr ⟨_, hq, rfl⟩)
  have := nodup_lt 200000 (kvs.map code) inj fun x hx => by
    obtain ⟨p, hp, rfl⟩ := List.mem_map.mp hx
    obtain ⟨n, L, n8, L2, rfl⟩ := h.2 p hp
    show ((n : Int)).toNat * 20001 + ((L : Int)).toNat < _
    rw [Int.toNat_natCast, Int.toNat_natCast]
    omega
  rw [List.length_map] at this
  rw [sizeLine_eq]
  omega
theorem Memo.get {g : Int} {kvs : List (List Key × V)} (h : Memo g kvs) {n L : Nat} {v : V} (e : valV kvs (keyC n L) = some v) : v = .int (cntC g n L) := by
  unfold valV at e
  obtain ⟨p, hp, rfl⟩ := Option.map_eq_some_iff.mp e
  obtain ⟨n', L', _, _, rfl⟩ := h.2 p (List.mem_of_find?_eq_some hp)
  have k : keyC n' L' = keyC n L := by
    have z := List.find?_some hp
    simpa using z
  unfold keyC at k
  injection k with k1 k2
  injection k2 with k2 _
  injection k1 with k1
  injection k2 with k2
  have e1 : n' = n := by omega
  have e2 : L' = L := by omega
  rw [e1, e2]
theorem Memo.put {g : Int} {kvs : List (List Key × V)} (h : Memo g kvs) {n L : Nat} (n8 : n ≤ 8) (l2 : L ≤ 20000) : Memo g (putK kvs (keyC n L) (.int (cntC g n L))) ∧ valV (putK kvs (keyC n L) (.int (cntC g n L))) (keyC n L) = some (.int (cntC g n L)) := by
  unfold putK
  split
  · rename_i z
    have em : kvs.map (fun kv => if kv.1 = keyC n L then (kv.1, V.int (cntC g n L)) else kv) = kvs := by
      conv => rhs; rw [← List.map_id kvs]
      refine List.map_congr_left fun p hp => ?_
      split
      · rename_i k
        obtain ⟨n', L', _, _, rfl⟩ := h.2 p hp
        unfold keyC at k
        injection k with k1 k2
        injection k2 with k2 _
        injection k1 with k1
        injection k2 with k2
        have e1 : n' = n := by omega
        have e2 : L' = L := by omega
        rw [e1, e2]
        rfl
      · rfl
    rw [em]
    refine ⟨h, ?_⟩
    have a := valV_any (keyC n L) kvs
    rw [z] at a
    obtain ⟨v, hv⟩ := Option.isSome_iff_exists.mp a.symm
    rw [hv, h.get hv]
  · rename_i z
    have na : ∀ p ∈ kvs, p.1 ≠ keyC n L := fun p hp e => z (by
      rw [List.any_eq_true]
      exact ⟨p, hp, decide_eq_true e⟩)
    refine ⟨⟨?_, fun p hp => ?_⟩, ?_⟩
    · rw [List.map_append, List.nodup_append]
      refine ⟨h.1, by simp, fun a ha b hb e => ?_⟩
      obtain ⟨p, hp, rfl⟩ := List.mem_map.mp ha
      rw [List.map_cons, List.map_nil, List.mem_singleton] at hb
      exact na p hp (e.trans hb)
    · rcases List.mem_append.mp hp with y | y
      · exact h.2 p y
      · exact ⟨n, L, n8, l2, List.mem_singleton.mp y⟩
    · unfold valV
      rw [List.find?_append, List.find?_eq_none.mpr fun p hp => by simpa using na p hp]
      simp
end Sq


set_option Elab.async false
set_option maxRecDepth 100000
set_option maxHeartbeats 4000000
namespace Sq
open PySem PySem.Spec PyProof.Rows L2
/-! ## isinstance of a kept exception, with a tuple of classes -/
def rIsXT (K : PySem.W.Frag) : List V → Hp → VK → Prop := fun xs H Q => ∃ (a C : Addr) (fs : List (Str × V)) (tp : Addr) (cs : List V) (ws : List Value) (b : Bool), xs = [.ref a, .ref tp] ∧ Kept H a C fs ∧ ExcC K C ∧ H tp = some (.tup cs) ∧ Paired ClsV cs ws ∧ PySem.W.kitAny K (.ref C) ws = some b ∧ Q (.bl b) H
theorem call_isXT {X : Cx} {K : PySem.W.Frag} (h : X.K = K := by rfl) : CallR X (.builtin "isinstance") (rIsXT K) := by
  subst h
  intro pins s σ H xs us Q I r h
  obtain ⟨a, C, fs, tp, cs, ws, b, rfl, k, EC, hT, hc, e, q⟩ := h
  obtain ⟨oe, od, d, mA, J, _⟩ := kept_at I k
  obtain ⟨u0, u1, rfl, r0, r1⟩ := vals2 r
  obtain rfl : u0 = Value.ref a := r0
  obtain rfl : u1 = Value.ref tp := r1
  obtain ⟨_, its, rv, o, h1, h2, n, h3⟩ := (show ObjOk X.prog X.w H s.heap tp (.tup cs) from I.hok tp _ hT)
  have e3 := ClsV.all hc rv
  subst e3
  obtain ⟨oc, od2, dt, sl⟩ := o
  simp only at h2 h3
  subst h2 h3
  obtain ⟨cd, hcd, _⟩ := PySem.W.any_some EC.hd
  exact PySem.W.kia_tup (PySem.W.kitx_exc (by rw [hcd]; rfl) EC.hg EC.hk EC.hs EC.ha EC.hn EC.ht EC.hm) I.kIn J h1 e (fun z => nomatch z) fun tk => ⟨.bl b, H, I.kept (t' := tk) fun _ _ z => z, rfl, q⟩
/-! ## a def that may raise, called by place and by keywords -/
structure Def2X (P : Program) (w : World) (K : PySem.W.Frag) (mg : Str → Option Value) (base : Heap) (k : Nat) (x : Str) (st : Stmt) (ps : List Str) (sp : Sp) : Prop where
  ex : ∃ (f : Addr) (fd : FuncData), Fun K x x st f fd ∧ mg x = some (.ref f) ∧ Binds K fd ps [] ∧ FnOk P w K mg base (L2.CX P w) k f fd ps sp
section
variable {P : Program} {w : World} {K : PySem.W.Frag} {mg : Str → Option Value} {base : Heap} {x : Str} {st : Stmt} {ps N : List Str} {k : Nat} {sp sp' : Sp}
theorem DefAt.twoX (D : DefAt K mg x st ps) (S : FnScope N ps (defScope st)) (len : ∀ vs H Q E, sp vs H Q E → vs.length = ps.length)
    (hb : ∀ (f : Addr) (cdv : Value) (A : Around) (outer : List Env) (s : Shared) (H : Hp) (vs : List V) (Q : VK) (E : XK), Room k (A.deeper (envOfC x (defScope st) s.heap.objs.size f cdv)) → sp vs H Q E →
      (Takes (cxOf (L2.CX P w) P w K mg base N x (defScope st) f cdv A outer s H E) fun cls d _ G => E cls d G) →
      ∃ t, PSs (cxOf (L2.CX P w) P w K mg base N x (defScope st) f cdv A outer s H E) (defBody st) t ∧ t { nx := fun _ H' => Q .non H', rt := Q } (start N vs) H) : Def2X P w K mg base (k + 1) x st ps sp := by
  obtain ⟨f, fd, F, hm, b⟩ := D.ex
  exact ⟨f, fd, F, hm, b, F.okX S len fun cdv A outer s H vs Q E hr hsp => hb f cdv A outer s H vs Q E hr hsp (takes_of rfl rfl rfl rfl)⟩
theorem Def2X.calX (D : Def2X P w K mg base k x st ps sp) : CalX P w K mg base k x sp := by
  obtain ⟨f, fd, F, hm, b, ok⟩ := D.ex
  exact ⟨f, fd, ps, ok, hm, F.kp, b⟩
theorem Def2X.calm (D : Def2X P w K mg base k x st ps sp) (h : ∀ vs H Q E, sp' vs H Q E → sp vs H Q E0) : Def2 P w K mg base k x st ps sp' := by
  obtain ⟨f, fd, F, hm, b, ok⟩ := D.ex
  exact ⟨f, fd, F, hm, b, fn_calm ok h⟩
end
end Sq


set_option Elab.async false
set_option maxRecDepth 100000
set_option maxHeartbeats 4000000
namespace Sq
open PySem PySem.Spec PyProof.Rows L2
/-! ## the lists that are counted -/
theorem need_iff {R k L : Int} (hR : 1 ≤ R) (hk : 2 ≤ k) (hL : 0 ≤ L) : L ≤ rb R k ↔ need k L ≤ R := by
  unfold need
  by_cases c : k > L + 1
  · rw [if_pos c]
    constructor
    · intro h
      unfold rb at h
      split at h
      · exact h
      · omega
    · intro h
      exact Int.le_trans h (rb_pos hR hk)
  · rw [if_neg c]
    have hk0 : 0 < k := by omega
    -- L + 1 + k <= k * (R + 3 - k) + (k - 1)
    have key : (L + 1 + k) / k + k - 3 ≤ R ↔ L ≤ (R + 3 - k) * k - 2 := by
      have e : (L + 1 + k) / k ≤ R + 3 - k ↔ L + 1 + k < (R + 3 - k + 1) * k := by
        rw [← Int.ediv_lt_iff_lt_mul hk0]
        omega
      have m : (R + 3 - k + 1) * k = (R + 3 - k) * k + k := by rw [Int.add_mul, Int.one_mul]
      omega
    unfold rb
    by_cases d : k > R + 1
    · rw [if_pos d]
      constructor
      · intro h
        omega
      · intro h
        split at h <;> omega
    · rw [if_neg d, ← key]
      split <;> omega
theorem rb_mono {R R' k : Int} (hR : 1 ≤ R) (h : R ≤ R') (hk : 2 ≤ k) : rb R k ≤ rb R' k := by
  by_cases c : k > R' + 1
  · unfold rb
    rw [if_pos c, if_pos (by omega)]
    exact h
  · by_cases d : k > R + 1
    · have := rb_pos (R := R') (k := k) (by omega) hk
      unfold rb at this ⊢
      rw [if_pos d]
      omega
    · unfold rb
      rw [if_neg c, if_neg d]
      have := Int.mul_le_mul_of_nonneg_right (show R + 3 - k ≤ R' + 3 - k by omega) (show 0 ≤ k by omega)
      omega
theorem rb_best {R k g b : Int} (hR : 1 ≤ R) (hk : 2 ≤ k) (kg : k ≤ g) (hg : 2 ≤ g) (hb : b = if (R + 3) / 2 < g then (R + 3) / 2 else g) : rb R k ≤ (R + 3 - b) * b - 2 := by
  have b2 : 2 ≤ b ∧ b ≤ R + 1 ∧ 2 * b ≤ R + 3 ∧ (b < k → R + 3 - 2 * b ≤ 1) := by
    subst hb
    split <;> omega
  have id : (R + 3 - b) * b - (R + 3 - k) * k = (b - k) * (R + 3 - b - k) := by
    simp only [Int.sub_mul, Int.mul_sub, Int.add_mul, Int.mul_add]
    have e1 : b * R = R * b := Int.mul_comm ..
    have e2 : k * R = R * k := Int.mul_comm ..
    have e3 : k * b = b * k := Int.mul_comm ..
    omega
  have sq : 0 ≤ (b - k) * (R + 3 - b - k) := by
    by_cases c : k ≤ b
    · exact Int.mul_nonneg (by omega) (by omega)
    · have := b2.2.2.2 (by omega)
      exact Int.mul_nonneg_of_nonpos_of_nonpos (by omega) (by omega)
  by_cases d : k > R + 1
  · have := rb_pos (R := R) (k := b) hR b2.1
    unfold rb at this ⊢
    rw [if_pos d]
    rw [if_neg (by omega)] at this
    exact this
  · unfold rb
    rw [if_neg d]
    omega
theorem flatMap_same {α β : Type} {f h : α → List β} : ∀ {l : List α}, (∀ x ∈ l, f x = h x) → l.flatMap f = l.flatMap h
  | [], _ => rfl
  | a :: r, e => by
    rw [List.flatMap_cons, List.flatMap_cons, e a (List.mem_cons_self ..), flatMap_same fun x hx => e x (List.mem_cons_of_mem _ hx)]
def ks (g : Int) : List Int := (List.range (g - 1).toNat).map fun j => 2 + (j : Nat)
theorem ks_mem {g k : Int} : k ∈ ks g ↔ 2 ≤ k ∧ k ≤ g := by
  unfold ks
  rw [List.mem_map]
  constructor
  · rintro ⟨j, hj, rfl⟩
    rw [List.mem_range] at hj
    omega
  · intro h
    exact ⟨(k - 2).toNat, by rw [List.mem_range]; omega, by omega⟩
/-- all lists, as they are made: one number behind -/
def allL (g : Int) : Nat → List (List Int)
  | 0 => [[]]
  | n + 1 => (allL g n).flatMap fun one => (ks g).map fun k => one ++ [k]
theorem allL_front (g : Int) : ∀ n : Nat, allL g (n + 1) = (ks g).flatMap fun k => (allL g n).map fun r => k :: r
  | 0 => by
    have : ∀ l : List Int, (l.map fun k => [k]) = l.flatMap fun k => [[k]] := fun l => by
      induction l with
      | nil => rfl
      | cons a r ih =>
        rw [List.map_cons, ih]
        rfl
    show ((ks g).map fun k => [k]) ++ [] = (ks g).flatMap fun k => [[k]]
    rw [List.append_nil, this]
  | n + 1 => by
    have ih := allL_front g n
    show (allL g (n + 1)).flatMap _ = _
    conv => lhs; rw [ih]
    rw [List.flatMap_assoc]
    congr 1
    funext k
    show ((allL g n).map fun r => k :: r).flatMap _ = ((allL g n).flatMap _).map _
    rw [List.flatMap_map, List.map_flatMap]
    congr 1
    funext r
    rw [List.map_map]
    rfl
theorem allL_mem {g : Int} : ∀ {n : Nat} {ns : List Int}, ns ∈ allL g n → ns.length = n ∧ ∀ k ∈ ns, 2 ≤ k ∧ k ≤ g
  | 0, ns, h => by
    rw [List.mem_singleton.mp h]
    exact ⟨rfl, fun k hk => nomatch hk⟩
  | n + 1, ns, h => by
    obtain ⟨one, ho, hm⟩ := List.mem_flatMap.mp h
    obtain ⟨k, hk, rfl⟩ := List.mem_map.mp hm
    obtain ⟨a, b⟩ := allL_mem ho
    refine ⟨by simp [a], fun j hj => ?_⟩
    rcases List.mem_append.mp hj with z | z
    · exact b j z
    · rw [List.mem_singleton.mp z]
      exact ks_mem.mp hk
theorem reach_gr {g : Int} (hg : 2 ≤ g) (g60 : g ≤ 60) : ∀ {n : Nat} {ns : List Int}, ns.length = n → (∀ k ∈ ns, 2 ≤ k ∧ k ≤ g) → reachOf ns 1 ≤ gr g n
  | 0, ns, h, _ => by
    rw [List.eq_nil_of_length_eq_zero h]
    exact Int.le_refl 1
  | n + 1, [], h, _ => by cases h
  | n + 1, k :: r, h, hk => by
    have ih := reach_gr hg g60 (n := n) (ns := r) (by simpa using h) fun j hj => hk j (List.mem_cons_of_mem _ hj)
    have kk := hk k (List.mem_cons_self ..)
    have tr : Two r := fun j hj => (hk j (List.mem_cons_of_mem _ hj)).1
    have r1 := reach_pos (m := 1) (by decide) tr
    show rb (reachOf r 1) k ≤ _
    exact Int.le_trans (rb_mono r1 ih kk.1) (rb_best (gr_pos hg g60 n) kk.1 kk.2 hg rfl)
/-- the lists that reach a length -/
def dueL (g : Int) (n : Nat) (L : Int) : List (List Int) := (allL g n).filter fun ns => decide (L ≤ reachOf ns 1)
theorem dueL_zero (g L : Int) : dueL g 0 L = if L ≤ 1 then [[]] else [] := by
  unfold dueL allL
  by_cases c : L ≤ 1
  · rw [if_pos c, List.filter_cons_of_pos (by exact decide_eq_true c)]
    rfl
  · rw [if_neg c, List.filter_cons_of_neg (by
      rw [decide_eq_true_eq]
      exact c)]
    rfl
theorem dueL_succ {g : Int} {n : Nat} {L : Int} (hL : 0 ≤ L) : dueL g (n + 1) L = (ks g).flatMap fun k => (dueL g n (need k L)).map fun r => k :: r := by
  unfold dueL
  rw [allL_front, List.filter_flatMap]
  refine flatMap_same fun k hk => ?_
  rw [List.filter_map]
  refine congrArg _ (List.filter_congr fun r hr => ?_)
  have k2 := ks_mem.mp hk
  obtain ⟨_, b⟩ := allL_mem hr
  have r1 := reach_pos (m := 1) (row := r) (by decide) fun j hj => (b j hj).1
  show decide (L ≤ rb (reachOf r 1) k) = decide (need k L ≤ reachOf r 1)
  exact decide_eq_decide.mpr (need_iff r1 k2.1 hL)
theorem dueL_cut {g : Int} (hg : 2 ≤ g) (g60 : g ≤ 60) {n : Nat} {L : Int} (h : L > gr g n) : dueL g n L = [] := by
  unfold dueL
  rw [List.filter_eq_nil_iff]
  intro ns hns
  obtain ⟨a, b⟩ := allL_mem hns
  have := reach_gr hg g60 a b
  rw [decide_eq_true_eq]
  omega
theorem cnt_due {g : Int} (hg : 2 ≤ g) (g60 : g ≤ 60) : ∀ {n : Nat} {L : Int}, 0 ≤ L → cntC g n L = (dueL g n L).length
  | 0, L, hL => by
    rw [dueL_zero]
    show (if L > 1 then (0 : Int) else 1) = _
    by_cases c : L ≤ 1
    · rw [if_neg (by omega), if_pos c]
      rfl
    · rw [if_pos (by omega), if_neg c]
      rfl
  | n + 1, L, hL => by
    rw [cntC_eq]
    by_cases c : L > gr g (n + 1)
    · rw [if_pos c, dueL_cut hg g60 c]
      rfl
    · rw [if_neg c, dueL_succ hL]
      unfold ks
      rw [List.flatMap_map]
      generalize (g - 1).toNat = m
      have : ∀ l : List Nat, (l.map fun j => cntC g n (need (2 + (j : Nat)) L)).sum = ((l.flatMap fun j => (dueL g n (need (2 + (j : Nat)) L)).map fun r => (2 + (j : Nat) : Int) :: r).length : Nat) := by
        intro l
        induction l with
        | nil => rfl
        | cons j r ih =>
          rw [List.map_cons, List.sum_cons, ih, List.flatMap_cons, List.length_append, List.length_map, cnt_due hg g60 (need_bd (k := 2 + (j : Nat)) (by omega) hL).1, Int.natCast_add]
      exact this _
theorem nth_due {g : Int} (hg : 2 ≤ g) (g60 : g ≤ 60) : ∀ {n : Nat} {L x : Int}, 0 ≤ L → 0 ≤ x → x < cntC g n L → nthC g n L x = (dueL g n L)[x.toNat]?
  | 0, L, x, hL, h0, hx => by
    have hx : x < (if L > 1 then (0 : Int) else 1) := hx
    rw [dueL_zero]
    by_cases c : L ≤ 1
    · rw [if_neg (by omega)] at hx
      rw [if_pos c, show x = 0 by omega]
      rfl
    · rw [if_pos (by omega)] at hx
      omega
  | n + 1, L, x, hL, h0, hx => by
    rw [nthC_succ, dueL_succ hL]
    have e := cntC_succ h0 hx
    rw [e] at hx
    unfold ks
    rw [List.flatMap_map]
    clear e
    generalize (List.range (g - 1).toNat) = l at hx
    induction l generalizing x with
    | nil =>
      simp at hx
      omega
    | cons j r ih =>
      have nb := need_bd (k := 2 + ((j : Nat) : Int)) (L := L) (by omega) hL
      have cd := cnt_due hg g60 (n := n) nb.1
      rw [List.map_cons, List.sum_cons] at hx
      rw [List.flatMap_cons]
      show (if x < cntC g n (need (2 + (j : Nat)) L) then _ else _) = _
      by_cases c : x < cntC g n (need (2 + (j : Nat)) L)
      · rw [if_pos c]
        show Option.map _ (nthC g n (need (2 + (j : Nat)) L) x) = _
        rw [nth_due hg g60 nb.1 h0 c, List.getElem?_append_left (by rw [List.length_map]; omega), List.getElem?_map]
      · rw [if_neg c, ih (x - cntC g n (need (2 + (j : Nat)) L)) (by omega) (by omega), List.getElem?_append_right (by rw [List.length_map]; omega), List.length_map]
        congr 1
        omega
end Sq


set_option Elab.async false
set_option maxRecDepth 100000
set_option maxHeartbeats 4000000
namespace Sq
open PySem PySem.Spec PyProof.Rows L2
/-! ## lists of lists of ints in the heap -/
/-- at l: a list of lists, their numbers are rows; the lists are younger than G -/
def LL (G H : Hp) (l : Addr) (rows : List (List Int)) : Prop := ∃ ps : List Addr, H l = some (.lst (ps.map V.ref)) ∧ ps.length = rows.length ∧ (∀ p ∈ ps, p ≠ l ∧ G p = none) ∧ ∀ (i : Nat) (p : Addr) (ns : List Int), ps[i]? = some p → rows[i]? = some ns → H p = some (.lst (iv ns))
section
variable {G G' H H' : Hp} {l p : Addr} {rows rows2 : List (List Int)} {ns : List Int}
theorem LL.same (h : LL G H l rows) (s : Same H H') : LL G H' l rows := by
  obtain ⟨ps, a, b, c, d⟩ := h
  exact ⟨ps, s _ _ a, b, c, fun i p ns h1 h2 => s _ _ (d i p ns h1 h2)⟩
theorem LL.old (h : LL G' H l rows) (s : Same G G') : LL G H l rows := by
  obtain ⟨ps, a, b, c, d⟩ := h
  exact ⟨ps, a, b, fun p hp => ⟨(c p hp).1, s.free (c p hp).2⟩, d⟩
theorem LL.nil (h : H l = some (.lst [])) : LL G H l [] := ⟨[], h, rfl, (fun p hp => nomatch hp), fun i p ns h1 _ => by simp at h1⟩
/-- behind a store to another object -/
theorem LL.put {o : Addr} {u u' : HO} (h : LL G H l rows) (ho : G o = some u) (ne : o ≠ l) : LL G (upd H o u') l rows := by
  obtain ⟨ps, a, b, c, d⟩ := h
  refine ⟨ps, upd_off (Ne.symm ne) a, b, c, fun i p ns h1 h2 => upd_off (fun z => ?_) (d i p ns h1 h2)⟩
  have := (c p (List.mem_of_getElem? h1)).2
  rw [z, ho] at this
  cases this
theorem LL.get (h : LL G H l rows) {i : Nat} (e : rows[i]? = some ns) : ∃ p xs, H l = some (.lst xs) ∧ xs[i]? = some (.ref p) ∧ xs.length = rows.length ∧ H p = some (.lst (iv ns)) ∧ p ≠ l ∧ G p = none := by
  obtain ⟨ps, a, b, c, d⟩ := h
  have lt : i < ps.length := by
    rw [b]
    exact (List.getElem?_eq_some_iff.mp e).1
  have ep := List.getElem?_eq_getElem lt
  have cp := c _ (List.mem_of_getElem? ep)
  exact ⟨ps[i], ps.map V.ref, a, by rw [List.getElem?_map, ep]; rfl, by rw [List.length_map]; exact b, d i _ ns ep e, cp.1, cp.2⟩
theorem LL.len (h : LL G H l rows) : ∃ xs, H l = some (.lst xs) ∧ xs.length = rows.length := by
  obtain ⟨ps, a, b, _⟩ := h
  exact ⟨_, a, by rw [List.length_map]; exact b⟩
/-- one list more -/
theorem LL.snoc (h : LL G H l rows) (hp : H p = some (.lst (iv ns))) (np : p ≠ l) (gp : G p = none) : ∃ xs, H l = some (.lst xs) ∧ xs.length = rows.length ∧ LL G (upd H l (.lst (xs ++ [.ref p]))) l (rows ++ [ns]) := by
  obtain ⟨ps, a, b, c, d⟩ := h
  refine ⟨ps.map V.ref, a, by rw [List.length_map]; exact b, ps ++ [p], by rw [upd_same]; simp, by simp [b], fun q hq => ?_, fun i q ms h1 h2 => ?_⟩
  · rcases List.mem_append.mp hq with z | z
    · exact c q z
    · rw [List.mem_singleton.mp z]
      exact ⟨np, gp⟩
  · by_cases lt : i < ps.length
    · rw [List.getElem?_append_left lt] at h1
      rw [List.getElem?_append_left (by omega)] at h2
      exact upd_off (c q (List.mem_of_getElem? h1)).1 (d i q ms h1 h2)
    · rw [List.getElem?_append_right (by omega)] at h1
      rw [List.getElem?_append_right (by omega), ← b] at h2
      cases e : i - ps.length with
      | zero =>
        rw [e] at h1 h2
        have e1 : p = q := by simpa using h1
        have e2 : ns = ms := by simpa using h2
        rw [← e1, ← e2]
        exact upd_off np hp
      | succ k =>
        rw [e] at h1
        simp at h1
/-- the lists of another list behind it -/
theorem LL.ext {G2 : Hp} {d : Addr} {u : HO} (h : LL G H l rows) (h2 : LL G2 H d rows2) (s : Same G G2) (hl : G2 l = some u) : ∃ xs ys, H l = some (.lst xs) ∧ xs.length = rows.length ∧ H d = some (.lst ys) ∧ ys.length = rows2.length ∧ LL G (upd H l (.lst (xs ++ ys))) l (rows ++ rows2) := by
  obtain ⟨ps, a, b, c, e⟩ := h
  obtain ⟨qs, a2, b2, c2, e2⟩ := h2
  have nq : ∀ q ∈ qs, q ≠ l := fun q hq z => by
    have := (c2 q hq).2
    rw [z, hl] at this
    cases this
  refine ⟨ps.map V.ref, qs.map V.ref, a, by rw [List.length_map]; exact b, a2, by rw [List.length_map]; exact b2, ps ++ qs, by rw [upd_same]; simp, by simp [b, b2], fun q hq => ?_, fun i q ms h1 h2 => ?_⟩
  · rcases List.mem_append.mp hq with z | z
    · exact c q z
    · skip
      exact ⟨nq q z, s.free (c2 q z).2⟩
  · by_cases lt : i < ps.length
    · rw [List.getElem?_append_left lt] at h1
      rw [List.getElem?_append_left (by omega)] at h2
      exact upd_off (c q (List.mem_of_getElem? h1)).1 (e i q ms h1 h2)
    · rw [List.getElem?_append_right (by omega)] at h1
      rw [List.getElem?_append_right (by omega), ← b] at h2
      exact upd_off (nq q (List.mem_of_getElem? h1)) (e2 _ q ms h1 h2)
end
/-- all but the source is quiet from now on -/
theorem Sep.full {R : Rg} {G H : Hp} (s : Sep R G H) : ∃ G', Same G G' ∧ Sep R G' H ∧ ∀ a, ¬ R.S a → G' a = H a := by
  classical
  refine ⟨fun a => if R.S a then none else H a, fun b o e => ?_, ⟨s.inv, fun b o e => ?_, fun a ha => if_pos ha⟩, fun a ha => if_neg ha⟩
  · have nb : ¬ R.S b := fun z => by
      have := s.off b z
      rw [e] at this
      cases this
    show (if R.S b then none else H b) = some o
    rw [if_neg nb]
    exact s.same b o e
  · have e : (if R.S b then none else H b) = some o := e
    split at e
    · cases e
    · exact e
theorem LL.move {R : Rg} {G G' J J' : Hp} {l : Addr} {rows : List (List Int)} (h : LL J J' l rows) (hl : J l = none) (s : Sep R G J) (e : ∀ a, ¬ R.S a → G' a = J' a) : LL G G' l rows := by
  have ns : ∀ a, J a = none → ¬ R.S a := fun a ha z => R.has J a s.inv z ha
  obtain ⟨ps, a, b, c, d⟩ := h
  refine ⟨ps, by rw [e l (ns l hl)]; exact a, b, fun p hp => ⟨(c p hp).1, s.free (c p hp).2⟩, fun i p r h1 h2 => ?_⟩
  rw [e p (ns p (c p (List.mem_of_getElem? h1)).2)]
  exact d i p r h1 h2
open Classical in
/-- where the source stands -/
noncomputable def srcH (R : Rg) : Hp := fun a => if R.S a then some (.lst []) else none
theorem srcH_none {R : Rg} {a : Addr} : srcH R a = none ↔ ¬ R.S a := by
  unfold srcH
  split
  · rename_i c
    exact ⟨(fun z => nomatch z), (fun z => absurd c z)⟩
  · rename_i c
    exact ⟨fun _ => c, fun _ => rfl⟩
theorem LL.into {R : Rg} {G' J' : Hp} {l : Addr} {rows : List (List Int)} (h : LL (srcH R) J' l rows) (hl : ¬ R.S l) (e : ∀ a, ¬ R.S a → G' a = J' a) : LL (srcH R) G' l rows := by
  obtain ⟨ps, a, b, c, d⟩ := h
  refine ⟨ps, by rw [e l hl]; exact a, b, c, fun i p r h1 h2 => ?_⟩
  rw [e p (srcH_none.mp (c p (List.mem_of_getElem? h1)).2)]
  exact d i p r h1 h2
theorem Sep.src {R : Rg} {G H : Hp} {a : Addr} {o : HO} (s : Sep R G H) (h : G a = some o) : srcH R a = none := srcH_none.mpr fun z => by
  have := s.off a z
  rw [h] at this
  cases this
theorem Sep.srcN {R : Rg} {G H : Hp} {a : Addr} (s : Sep R G H) (h : H a = none) : ¬ R.S a := fun z => R.has H a s.inv z h
end Sq


set_option Elab.async false
set_option maxRecDepth 100000
set_option maxHeartbeats 4000000
namespace Sq
open PySem PySem.Spec PyProof.Rows L2
/-! ## reaches step by step -/
theorem rb_SmC {a b : Nat} {R k : Int} (hR : Sm a R) (hk : Sm b k) (hb : 10 ≤ b) (hk2 : 2 ≤ k) (hR1 : 1 ≤ R) : Sm (a + b) (rb R k) := by
  unfold rb
  split
  · exact hR.mono (by omega)
  · rename_i c
    have h1 : 0 ≤ (R + 3 - k) * k - 2 := by
      have := Int.mul_le_mul (show (2 : Int) ≤ R + 3 - k by omega) hk2 (by decide) (by omega)
      omega
    have h2 : (R + 3 - k) * k - 2 ≤ (R + 1) * k := by
      have := Int.mul_le_mul_of_nonneg_right (show R + 3 - k ≤ R + 1 by omega) (show 0 ≤ k by omega)
      omega
    unfold Sm at *
    have e1 : (R + 1).natAbs ≤ 2 ^ a := by omega
    have e2 : ((R + 1) * k).natAbs < 2 ^ (a + b) := by
      rw [Int.natAbs_mul, Nat.pow_add]
      calc (R + 1).natAbs * k.natAbs ≤ 2 ^ a * k.natAbs := Nat.mul_le_mul_right _ e1
        _ < 2 ^ a * 2 ^ b := Nat.mul_lt_mul_of_pos_left hk (Nat.pow_pos (by decide))
    omega
theorem foldr_take_revC {row : List Int} {m k : Int} {i : Nat} (h : row.reverse[i]? = some k) : (row.reverse.take (i + 1)).foldl rb m = rb ((row.reverse.take i).foldl rb m) k := by
  rw [List.take_add_one, h, List.foldl_append]
  rfl
theorem reachOf_revC (row : List Int) (m : Int) : row.reverse.foldl rb m = reachOf row m := by
  unfold reachOf
  rw [List.foldl_reverse]
theorem rbs_posC : ∀ {row : List Int} {m : Int}, 1 ≤ m → Two row → m ≤ row.foldl rb m
  | [], m, _, _ => Int.le_refl m
  | k :: r, m, h, t => by
    have p := rb_pos h (t k (List.mem_cons_self ..))
    exact Int.le_trans p (rbs_posC (row := r) (by omega) fun j hj => t j (List.mem_cons_of_mem _ hj))
theorem rbs_SmC : ∀ {row : List Int} {m : Int} {b c : Nat}, 1 ≤ m → Two row → (∀ k ∈ row, Sm b k) → Sm c m → 10 ≤ b → Sm (c + row.length * b) (row.foldl rb m)
  | [], m, b, c, _, _, _, h, _ => by simpa using h
  | k :: r, m, b, c, h1, t, hb, hc, h10 => by
    have hk := t k (List.mem_cons_self ..)
    have p := rb_pos h1 hk
    have ih := rbs_SmC (row := r) (m := rb m k) (b := b) (c := c + b) (by omega) (fun j hj => t j (List.mem_cons_of_mem _ hj)) (fun j hj => hb j (List.mem_cons_of_mem _ hj)) (rb_SmC hc (hb k (List.mem_cons_self ..)) h10 hk h1) h10
    have e : c + b + r.length * b = c + (k :: r).length * b := by
      rw [List.length_cons, Nat.add_mul]
      omega
    rw [e] at ih
    exact ih
theorem same_put {G H : Hp} {o : Addr} {u : HO} (s : Same G H) (n : G o = none) : Same G (upd H o u) := fun b x e => upd_off (fun z => by
  rw [z, n] at e
  cases e) (s b x e)
end Sq


set_option Elab.async false
set_option maxRecDepth 100000
set_option maxHeartbeats 4000000
namespace Sq
open PySem PySem.Spec PyProof.Rows L2
/-! ## how many lists come ahead; the least reach behind a first replacement -/
/-- lengths 0 and 1 are reached by all lists -/
theorem cnt_one {g : Int} (hg : 2 ≤ g) (g60 : g ≤ 60) {n : Nat} {L : Int} (hL : 0 ≤ L) : cntC g n (if L < 1 then 1 else L) = cntC g n L := by
  by_cases c : L < 1
  · rw [if_pos c, cnt_due hg g60 (by decide : (0 : Int) ≤ 1), cnt_due hg g60 hL]
    have e : dueL g n 1 = dueL g n L := by
      unfold dueL
      refine List.filter_congr fun ns hn => ?_
      obtain ⟨_, b⟩ := allL_mem hn
      have := reach_pos (m := 1) (row := ns) (by decide) fun j hj => (b j hj).1
      rw [decide_eq_true (by omega : (1 : Int) ≤ reachOf ns 1), decide_eq_true (by omega : L ≤ reachOf ns 1)]
    rw [e]
  · rw [if_neg c]
/-- the least reach, from 1 on, that one replacement brings up to a length -/
def lst (k L : Int) : Int := if need k L < 1 then 1 else need k L
theorem lst_iff {R k L : Int} (hR : 1 ≤ R) (hk : 2 ≤ k) (hL : 0 ≤ L) : L ≤ rb R k ↔ lst k L ≤ R := by
  rw [need_iff hR hk hL]
  unfold lst
  split <;> omega
theorem lst_bd {k L : Int} (hk : 2 ≤ k) (hL : 0 ≤ L) : 1 ≤ lst k L ∧ lst k L ≤ (if L < 1 then 1 else L) := by
  have := need_bd hk hL
  unfold lst
  split <;> split <;> omega
theorem cnt_lst {g : Int} (hg : 2 ≤ g) (g60 : g ≤ 60) {n : Nat} {k L : Int} (hk : 2 ≤ k) (hL : 0 ≤ L) : cntC g n (lst k L) = cntC g n (need k L) := cnt_one hg g60 (need_bd hk hL).1
/-- how many of the lists come ahead of one -/
def bef (g : Int) : List Int → Int → Int
  | [], _ => 0
  | a :: r, L => ((List.range (a - 2).toNat).map fun j => cntC g r.length (need (2 + (j : Nat)) L)).sum + bef g r (need a L)
/-- a need of 0 is as good as one of 1 -/
theorem need_one {k L : Int} (hk : 2 ≤ k) (hL : 0 ≤ L) : need k (if L < 1 then 1 else L) = need k L ∨ (L < 1 ∧ need k L ≤ 1 ∧ need k (if L < 1 then 1 else L) ≤ 1) := by
  by_cases c : L < 1
  · rw [if_pos c]
    have a := need_bd hk hL
    have b := need_bd (L := 1) hk (by decide)
    exact .inr ⟨c, by omega, b.2⟩
  · rw [if_neg c]
    exact .inl rfl
theorem cnt_low {g : Int} (hg : 2 ≤ g) (g60 : g ≤ 60) {n : Nat} {a b : Int} (a0 : 0 ≤ a) (b0 : 0 ≤ b) (ha : a ≤ 1) (hb : b ≤ 1) : cntC g n a = cntC g n b := by
  have e : ∀ x : Int, 0 ≤ x → x ≤ 1 → cntC g n x = cntC g n 1 := fun x x0 x1 => by
    have z := cnt_one hg g60 (n := n) x0
    rw [← z]
    congr 1
    split <;> omega
  rw [e a a0 ha, e b b0 hb]
theorem bef_one {g : Int} (hg : 2 ≤ g) (g60 : g ≤ 60) : ∀ {ns : List Int} {a b : Int}, Two ns → 0 ≤ a → 0 ≤ b → (a = b ∨ (a ≤ 1 ∧ b ≤ 1)) → bef g ns a = bef g ns b
  | [], _, _, _, _, _, _ => rfl
  | k :: r, a, b, h, a0, b0, ab => by
    have hk := h k List.mem_cons_self
    have tr : Two r := fun j hj => h j (List.mem_cons_of_mem _ hj)
    have nn : ∀ k, (2 : Int) ≤ k → (need k a = need k b ∨ (need k a ≤ 1 ∧ need k b ≤ 1)) := fun k hk => by
      rcases ab with rfl | ⟨x, y⟩
      · exact .inl rfl
      · have p := need_bd hk a0
        have q := need_bd hk b0
        exact .inr ⟨by omega, by omega⟩
    show _ + bef g r (need k a) = _ + bef g r (need k b)
    rw [bef_one hg g60 tr (need_bd hk a0).1 (need_bd hk b0).1 (nn k hk)]
    congr 2
    refine List.map_congr_left fun j _ => ?_
    have h2 : (2 : Int) ≤ 2 + (j : Nat) := by omega
    rcases nn _ h2 with z | ⟨x, y⟩
    · rw [z]
    · exact cnt_low hg g60 (need_bd h2 a0).1 (need_bd h2 b0).1 x y
theorem nth_bef {g : Int} (hg : 2 ≤ g) (g60 : g ≤ 60) : ∀ {n : Nat} {L x : Int} {ns : List Int}, 0 ≤ L → 0 ≤ x → nthC g n L x = some ns → x < cntC g n L → ns.length = n ∧ bef g ns L = x
  | 0, L, x, ns, hL, h0, e, hx => by
    cases (show some [] = some ns from e)
    have hx : x < (if L > 1 then (0 : Int) else 1) := hx
    refine ⟨rfl, ?_⟩
    show (0 : Int) = x
    split at hx <;> omega
  | n + 1, L, x, ns, hL, h0, e, hx => by
    rw [nthC_succ] at e
    have ec := cntC_succ h0 hx
    rw [ec] at hx
    clear ec
    -- the walk over the first replacements
    have walk : ∀ (m j : Nat) (x : Int), 0 ≤ x → nthG (fun j => cntC g n (need (2 + (j : Nat)) L)) (fun j x => nthC g n (need (2 + (j : Nat)) L) x) (List.range' j m) x = some ns →
        ∃ (i : Nat) (y : Int) (r : List Int), j ≤ i ∧ ns = (2 + (i : Nat) : Int) :: r ∧ 0 ≤ y ∧ y < cntC g n (need (2 + (i : Nat)) L) ∧ nthC g n (need (2 + (i : Nat)) L) y = some r ∧ x = ((List.range' j (i - j)).map fun j => cntC g n (need (2 + (j : Nat)) L)).sum + y := by
      intro m
      induction m with
      | zero => exact fun j x _ e => by cases e
      | succ m ih =>
        intro j x x0 e
        rw [List.range'_succ] at e
        have e : (if x < cntC g n (need (2 + (j : Nat)) L) then (nthC g n (need (2 + (j : Nat)) L) x).map fun s => (2 + (j : Nat) : Int) :: s else nthG _ _ (List.range' (j + 1) m) (x - cntC g n (need (2 + (j : Nat)) L))) = some ns := e
        by_cases c : x < cntC g n (need (2 + (j : Nat)) L)
        · rw [if_pos c] at e
          obtain ⟨r, er, rfl⟩ := Option.map_eq_some_iff.mp e
          exact ⟨j, x, r, Nat.le_refl _, rfl, x0, c, er, by simp⟩
        · rw [if_neg c] at e
          obtain ⟨i, y, r, hji, e1, y0, y1, e2, e3⟩ := ih (j + 1) _ (by omega) e
          refine ⟨i, y, r, by omega, e1, y0, y1, e2, ?_⟩
          rw [show i - j = (i - (j + 1)) + 1 by omega, List.range'_succ, List.map_cons, List.sum_cons]
          omega
    rw [List.range_eq_range'] at e
    obtain ⟨i, y, r, _, rfl, y0, y1, e2, e3⟩ := walk _ _ _ h0 e
    have nb := need_bd (k := 2 + ((i : Nat) : Int)) (L := L) (by omega) hL
    obtain ⟨lr, br⟩ := nth_bef hg g60 nb.1 y0 e2 y1
    refine ⟨by rw [List.length_cons, lr], ?_⟩
    show ((List.range (2 + ((i : Nat) : Int) - 2).toNat).map fun j => cntC g r.length (need (2 + (j : Nat)) L)).sum + bef g r (need (2 + (i : Nat)) L) = x
    rw [br, lr, e3, show (2 + ((i : Nat) : Int) - 2).toNat = i by omega, List.range_eq_range', Nat.sub_zero]
/-- the greatest reach of one replacement more, by trying all -/
theorem most_is {g R : Int} (hg : 2 ≤ g) (hR : 1 ≤ R) {b : Int} (hb : b = if (R + 3) / 2 < g then (R + 3) / 2 else g) : 2 ≤ b ∧ b ≤ R + 1 ∧ b ≤ g ∧ R ≤ (R + 3 - b) * b - 2 ∧ ∀ k, 2 ≤ k → k ≤ g → k ≤ R + 1 → (R + 3 - k) * k - 2 ≤ (R + 3 - b) * b - 2 := by
  have h1 : 2 ≤ b ∧ b ≤ R + 1 ∧ b ≤ g := by
    subst hb
    split <;> omega
  refine ⟨h1.1, h1.2.1, h1.2.2, ?_, fun k k2 kg kr => ?_⟩
  · have := rb_pos (R := R) (k := b) hR h1.1
    unfold rb at this
    rw [if_neg (by omega)] at this
    exact this
  · have := rb_best hR k2 kg hg hb
    unfold rb at this
    rw [if_neg (by omega)] at this
    exact this
/-- the same, as the least reaches are found -/
def befL (g : Int) : List Int → Int → Int
  | [], _ => 0
  | a :: r, L => ((List.range (a - 2).toNat).map fun j => cntC g r.length (lst (2 + (j : Nat)) L)).sum + befL g r (lst a L)
theorem befL_is {g : Int} (hg : 2 ≤ g) (g60 : g ≤ 60) : ∀ {ns : List Int} {L : Int}, Two ns → 0 ≤ L → befL g ns L = bef g ns L
  | [], _, _, _ => rfl
  | k :: r, L, h, hL => by
    have hk := h k List.mem_cons_self
    have tr : Two r := fun j hj => h j (List.mem_cons_of_mem _ hj)
    have nb := need_bd hk hL
    have lb := lst_bd hk hL
    show _ + befL g r (lst k L) = _ + bef g r (need k L)
    rw [befL_is hg g60 tr (by omega : 0 ≤ lst k L), bef_one hg g60 tr (by omega : 0 ≤ lst k L) nb.1 (by unfold lst; split <;> omega)]
    congr 2
    exact List.map_congr_left fun j _ => cnt_lst hg g60 (by omega) hL
/-! ## what the law keeps -/
abbrev KP2 := Option (Int × Int)
def kvsN (gl : Addr) (g : Int) (ps : List (Nat × Nat)) : List (KP2 × V) := (none, .ref gl) :: ps.map fun p => (some ((p.1 : Int), (p.2 : Int)), .int (cntC g p.1 p.2))
def PsOk (ps : List (Nat × Nat)) : Prop := ps.Nodup ∧ ∀ p ∈ ps, p.1 ≤ 8 ∧ p.2 ≤ 20000
theorem ps_nil : PsOk [] := ⟨List.nodup_nil, fun p hp => by cases hp⟩
theorem PsOk.len {ps : List (Nat × Nat)} (h : PsOk ps) : ps.length ≤ 9 * 20001 := by
  have e : (ps.map fun p => p.1 * 20001 + p.2).Nodup := by
    rw [List.nodup_iff_pairwise_ne, List.pairwise_map]
    refine (List.nodup_iff_pairwise_ne.mp h.1).imp_of_mem fun {a b} ha hb ne z => ne ?_
    have h1 := h.2 a ha
    have h2 := h.2 b hb
    exact Prod.ext (by omega) (by omega)
  have := nodup_lt (9 * 20001) _ e fun x hx => by
    obtain ⟨p, hp, rfl⟩ := List.mem_map.mp hx
    have := h.2 p hp
    omega
  rw [List.length_map] at this
  exact this
theorem kvsN_len {gl : Addr} {g : Int} {ps : List (Nat × Nat)} (h : PsOk ps) : (kvsN gl g ps).length < sizeLine := by
  have := h.len
  rw [sizeLine_eq]
  unfold kvsN
  rw [List.length_cons, List.length_map]
  omega
theorem kvsN_none {gl : Addr} {g : Int} {ps : List (Nat × Nat)} : valV (kvsN gl g ps) none = some (.ref gl) := valV_pos rfl
theorem kvsN_get {gl : Addr} {g : Int} {ps : List (Nat × Nat)} {n L : Nat} : valV (kvsN gl g ps) (some ((n : Int), (L : Int))) = if (n, L) ∈ ps then some (.int (cntC g n L)) else none := by
  unfold kvsN
  rw [valV_neg (by intro z; cases z)]
  induction ps with
  | nil => rfl
  | cons p r ih =>
    rw [List.map_cons]
    by_cases e : (p.1, p.2) = (n, L)
    · have e1 : p.1 = n := congrArg Prod.fst e
      have e2 : p.2 = L := congrArg Prod.snd e
      rw [valV_pos (by rw [e1, e2]), if_pos (by rw [← e]; exact List.mem_cons_self)]
      show some (V.int (cntC g p.1 p.2)) = _
      rw [e1, e2]
    · rw [valV_neg, ih]
      · have : ((n, L) ∈ p :: r) ↔ (n, L) ∈ r := by
          rw [List.mem_cons]
          exact ⟨fun z => z.resolve_left fun y => e y.symm, .inr⟩
        simp only [this]
      · intro z
        have z := Option.some.inj z
        have z1 : (p.1 : Int) = n := congrArg Prod.fst z
        have z2 : (p.2 : Int) = L := congrArg Prod.snd z
        exact e (Prod.ext (by exact_mod_cast z1) (by exact_mod_cast z2))
theorem kvsN_put {gl : Addr} {g : Int} {ps : List (Nat × Nat)} (h : PsOk ps) {n L : Nat} (hn : n ≤ 8) (hL : L ≤ 20000) : ∃ ps', putK (kvsN gl g ps) (some ((n : Int), (L : Int))) (.int (cntC g n L)) = kvsN gl g ps' ∧ PsOk ps' ∧ (n, L) ∈ ps' := by
  by_cases c : (n, L) ∈ ps
  · refine ⟨ps, ?_, h, c⟩
    unfold putK
    rw [valV_any, kvsN_get, if_pos c]
    rw [if_pos (show (some (V.int (cntC g n L)) : Option V).isSome = true from rfl)]
    unfold kvsN
    rw [List.map_cons, if_neg (by intro z; cases z), List.map_map]
    congr 1
    refine List.map_congr_left fun p _ => ?_
    show (if (some ((p.1 : Int), (p.2 : Int)) : KP2) = some ((n : Int), (L : Int)) then _ else _) = _
    split
    · rename_i z
      have z := Option.some.inj z
      have z1 : (p.1 : Int) = n := congrArg Prod.fst z
      have z2 : (p.2 : Int) = L := congrArg Prod.snd z
      have e1 : p.1 = n := by exact_mod_cast z1
      have e2 : p.2 = L := by exact_mod_cast z2
      show ((some ((p.1 : Int), (p.2 : Int)) : KP2), V.int (cntC g n L)) = (some ((p.1 : Int), (p.2 : Int)), V.int (cntC g p.1 p.2))
      rw [e1, e2]
    · rfl
  · refine ⟨ps ++ [(n, L)], ?_, ⟨?_, fun p hp => ?_⟩, by simp⟩
    · rw [putK_new _ (by rw [kvsN_get, if_neg c])]
      unfold kvsN
      rw [List.map_append]
      rfl
    · rw [List.nodup_append]
      exact ⟨h.1, by simp, fun a ha b hb => by rw [List.mem_singleton.mp hb]; exact fun z => c (z ▸ ha)⟩
    · rcases List.mem_append.mp hp with z | z
      · exact h.2 p z
      · rw [List.mem_singleton.mp z]
        exact ⟨hn, hL⟩
end Sq


set_option Elab.async false
set_option maxRecDepth 100000
set_option maxHeartbeats 4000000
/-! dicts whose keys are None and pairs of ints -/
namespace Sq
open PySem PySem.Spec PyProof.Rows L2
/-- None, or a pair -/
abbrev KP := Option (Int × Int)
def nkey : KP → NestedKey
  | none => .none
  | some (m, f) => .tup [.num m, .num f]
theorem nkey_inj : ∀ {a b : KP}, nkey a = nkey b → a = b
  | none, none, _ => rfl
  | none, some _, e => by cases e
  | some _, none, e => by cases e
  | some (m, f), some (m2, f2), e => by
    have e1 : [NestedKey.num m, .num f] = [.num m2, .num f2] := NestedKey.tup.inj e
    simp only [List.cons.injEq, NestedKey.num.injEq, and_true] at e1
    rw [e1.1, e1.2]
/-- an entry: its key, the key as it stands there, the value -/
structure Ek where
  k : KP
  u : Value
  v : Value
/-- what can stand as a key -/
def KV1 : Value → Prop
  | .none => True
  | .ref _ => True
  | _ => False
def ent (w : World) (x : Ek) : DictEntry := ⟨(nkey x.k).hash w, x.u, x.v⟩
/-- the entries xs stand at d -/
structure Ents (w : World) (h : Heap) (d : Addr) (xs : List Ek) : Prop where
  o : ∃ o ep, h.get? d = some o ∧ o.ExactDict ∧ o.data = .dict (xs.map (ent w)).toArray ep
def IsK (h : Heap) (k : KP) (u : Value) : Prop := NestedIs h (nkey k) u ∧ KV1 u
theorem IsK.inj {h : Heap} {a b : KP} {u : Value} (x : IsK h a u) (y : IsK h b u) : a = b := nkey_inj (NestedIs.inj _ _ _ x.1 y.1)
theorem nkey_depth : ∀ k : KP, (nkey k).depth ≤ 1
  | none => by decide
  | some (m, f) => by
    show NestedKey.depth _ ≤ 1
    simp [nkey, NestedKey.depth, NestedKey.depthAll]
section
variable {P : Program} {w : World} {A : Around} {E : Value → Shared → Prop} {s : Shared} {d : Addr} {xs : List Ek} {k : KP} {u : Value}
theorem isK_eq {x y : KP} {a b : Value} {Q : Bool → Shared → Prop} (hu : A.units + 8 < cLine) (hx : IsK s.heap x a) (hy : IsK s.heap y b) (h : Q (decide (x = y)) s) : wpAny (model P w) A (eqBool a b) Q E s := by
  have dx := nkey_depth x
  refine eqAt_key (nkey x) (nkey y) A s a b hx.1 hy.1 (by omega) P w E Q ?_
  rw [← NestedKey.decide_eq]
  have e : decide (nkey x = nkey y) = decide (x = y) := by
    by_cases z : x = y
    · simp [z]
    · rw [decide_eq_false z, decide_eq_false fun q => z (nkey_inj q)]
  rw [e]
  exact h
theorem isK_quiet {Q : Bool → Shared → Prop} (hx : IsK s.heap k u) (h : Q true s) : wpAny (model P w) A (eqIsQuiet 8 u) Q E s :=
  quiet_key (nkey k) u 8 s hx.1 (Nat.le_trans (nkey_depth k) (by decide)) A E Q h
theorem isK_hash {Q : Int → Shared → Prop} (hu : A.units + 8 < cLine) (hx : IsK s.heap k u) (h : Q ((nkey k).hash w) { s with toks := s.toks + (nkey k).draws }) : wpAny (model P w) A (pyHash u) Q E s := by
  have dx := nkey_depth k
  exact pyHash_key (nkey k) u A s Q hx.1 (by omega) h
/-- who stands at a place -/
def AtK (xs : List Ek) (k : KP) (i : Nat) : Prop := ∃ x, xs[i]? = some x ∧ x.k = k
theorem quiet_all {st : List Value} {Q : Bool → Shared → Prop} (hk : IsK s.heap k u) (hst : ∀ v ∈ st, ∃ k', IsK s.heap k' v) (h : Q false s) : wpAny (model P w) A (tableMayTell u st) Q E s := by
  unfold tableMayTell
  by_cases e : st.isEmpty = true
  · rw [if_pos e]
    exact wpAny_pure h
  · rw [if_neg e]
    refine wpAny_bind (isK_quiet hk ?_)
    refine wpAny_bind (wpAny_forIn_list _ (fun r b s' => (b = (none, ()) ∧ s' = s) ∧ ∀ v ∈ r, ∃ k', IsK s.heap k' v) _ ?_ ?_ _ _ ⟨⟨rfl, rfl⟩, hst⟩)
    · rintro v r b s' ⟨⟨rfl, rfl⟩, all⟩
      obtain ⟨k', hv⟩ := all v List.mem_cons_self
      exact wpAny_bind (isK_quiet hv (wpAny_pure ⟨⟨rfl, rfl⟩, fun z hz => all z (List.mem_cons_of_mem _ hz)⟩))
    · rintro b s' ⟨⟨rfl, rfl⟩, _⟩
      exact wpAny_pure h
theorem find_k {Q : Option Nat → Shared → Prop} (hu : A.units + 8 < cLine) (hk : IsK s.heap k u) (hd : Ents w s.heap d xs) (ks : ∀ x ∈ xs, IsK s.heap x.k x.u) (nd : (xs.map (·.k)).Nodup)
    (q0 : (∀ i, ¬ AtK xs k i) → Q none s) (q1 : ∀ i, AtK xs k i → Q (some i) s) : wpAny (model P w) A (dictFind d u ((nkey k).hash w)) Q E s := by
  obtain ⟨o, ep, eo, ex, ed⟩ := hd.o
  have at_ : ∀ i, (xs.map (ent w)).toArray[i]? = (xs[i]?).map (ent w) := fun i => by rw [List.getElem?_toArray, List.getElem?_map]
  have places : ∀ i, i ∈ placesWithHash (xs.map (ent w)).toArray.size (fun i => (xs.map (ent w)).toArray[i]?.map (·.hash)) ((nkey k).hash w) ↔ ∃ x, xs[i]? = some x ∧ (nkey x.k).hash w = (nkey k).hash w := fun i => by
    unfold placesWithHash
    simp only [List.mem_filter, at_]
    constructor
    · rintro ⟨_, e⟩
      cases ex : xs[i]? with
      | none => rw [ex] at e; simp at e
      | some x => rw [ex] at e; exact ⟨x, rfl, by simpa [ent] using e⟩
    · rintro ⟨x, ex, e⟩
      have := (List.getElem?_eq_some_iff.mp ex).1
      rw [ex]
      exact ⟨by simpa using this, by simp [ent, e]⟩
  generalize hes : (xs.map (ent w)).toArray = es at ed at_ places
  generalize hpl : placesWithHash es.size (fun i => es[i]?.map (·.hash)) ((nkey k).hash w) = pl at places
  -- a place of the list
  have here : ∀ i ∈ pl, ∃ x, xs[i]? = some x ∧ es[i]? = some (ent w x) ∧ ((ent w x).hash == (nkey k).hash w) = true ∧ IsK s.heap x.k x.u := fun i hi => by
    obtain ⟨x, e1, e2⟩ := (places i).mp hi
    refine ⟨x, e1, by rw [at_, e1]; rfl, by simpa [ent] using e2, ks x (List.mem_of_getElem? e1)⟩
  have all : ∀ i, AtK xs k i → i ∈ pl := fun i ⟨x, e1, e2⟩ => (places i).mpr ⟨x, e1, by rw [e2]⟩
  have once : ∀ i j, AtK xs k i → AtK xs k j → i = j := fun i j ⟨x, e1, e2⟩ ⟨y, e3, e4⟩ => by
    have a1 : (xs.map (·.k))[i]? = some k := by rw [List.getElem?_map, e1]; exact congrArg some e2
    have a2 : (xs.map (·.k))[j]? = some k := by rw [List.getElem?_map, e3]; exact congrArg some e4
    exact (List.getElem?_inj (List.getElem?_eq_some_iff.mp a1).1 nd).mp (a1.trans a2.symm)
  have st : ∀ v ∈ pl.filterMap (fun i => es[i]?.map (·.key)), ∃ k', IsK s.heap k' v := fun v hv => by
    obtain ⟨i, hi, e⟩ := List.mem_filterMap.mp hv
    obtain ⟨x, e1, e2, _, e4⟩ := here i hi
    rw [e2] at e
    cases e
    exact ⟨x.k, e4⟩
  unfold dictFind
  (try (with_reducible (refine wpAny_holding ?_)))
  refine wpAny_bind (wpAny_dictEntries eo ed ?_)
  have walk : wpAny (model P w) A (dictWalkPlain d u ((nkey k).hash w) es pl) Q E s := by
    unfold dictWalkPlain
    refine wpAny_bind (wpAny_forIn_list _ (fun r b s' => (b = (none, ()) ∧ s' = s) ∧ ∃ pre, pl = pre ++ r ∧ ∀ i ∈ pre, ¬ AtK xs k i) _ ?_ ?_ _ _ ⟨⟨rfl, rfl⟩, [], rfl, fun i hi => by cases hi⟩)
    · rintro i r b s' ⟨⟨rfl, rfl⟩, pre, ep2, no⟩
      obtain ⟨x, e1, e2, e3, e4⟩ := here i (by rw [ep2]; simp)
      rw [e2]
      dsimp only
      rw [if_pos e3]
      refine wpAny_bind (wpAny_dictEpoch eo ed (wpAny_bind (isK_eq hu e4 hk (wpAny_bind (wpAny_dictEpoch eo ed ?_)))))
      rw [if_neg (by simp)]
      by_cases z : x.k = k
      · rw [decide_eq_true z, if_pos rfl]
        exact wpAny_bind (wpAny_rule (wpAny_pure (wpAny_pure (q1 i ⟨x, e1, z⟩))))
      · rw [decide_eq_false z, if_neg (by simp)]
        refine wpAny_bind (wpAny_rule (wpAny_pure ⟨⟨rfl, rfl⟩, pre ++ [i], by simpa using ep2, fun j hj => ?_⟩))
        rcases List.mem_append.mp hj with y | y
        · exact no j y
        · rw [List.mem_singleton.mp y]
          rintro ⟨x2, e5, e6⟩
          rw [e1] at e5
          cases e5
          exact z e6
    · rintro b s' ⟨⟨rfl, rfl⟩, pre, ep2, no⟩
      rw [List.append_nil] at ep2
      exact wpAny_pure (q0 fun i hi => no i (by rw [← ep2]; exact all i hi) hi)
  have apart : (es.any fun e => e.key == u && e.hash != (nkey k).hash w) = false := by
    rw [← hes, Array.any_eq_false]
    intro i hi
    have : (xs.map (ent w)).toArray[i] = ent w (xs[i]'(by simpa using hi)) := by simp
    rw [this]
    cases z : (ent w (xs[i]'(by simpa using hi))).key == u with
    | false => simp
    | true =>
      have e : (xs[i]'(by simpa using hi)).u = u := eq_of_beq z
      have h1 := ks (xs[i]'(by simpa using hi)) (List.getElem_mem _)
      rw [e] at h1
      have h2 := h1.inj hk
      simp [ent, h2]
  have af : ¬ (es.any fun e => e.key == u && e.hash != (nkey k).hash w) = true := by
    rw [apart]
    exact Bool.false_ne_true
  have go : ∀ {i : Nat} {r pre : List Nat} {hit : Option Nat} {x : Ek}, pl = pre ++ i :: r → xs[i]? = some x → ¬ x.k = k → ((hit = none ∧ ∀ j ∈ pre, ¬ AtK xs k j) ∨ ∃ j, j ∈ pre ∧ hit = some j ∧ AtK xs k j) →
      ∃ pre2, pl = pre2 ++ r ∧ ((hit = none ∧ ∀ j ∈ pre2, ¬ AtK xs k j) ∨ ∃ j, j ∈ pre2 ∧ hit = some j ∧ AtK xs k j) := fun {i r pre hit x} ep2 e1 z hh => by
    refine ⟨pre ++ [i], by simpa using ep2, ?_⟩
    rcases hh with ⟨h0, no⟩ | ⟨j, hj, eh, at2⟩
    · refine .inl ⟨h0, fun j hj => ?_⟩
      rcases List.mem_append.mp hj with y | y
      · exact no j y
      · rw [List.mem_singleton.mp y]
        rintro ⟨x2, e5, e6⟩
        rw [e1] at e5
        cases e5
        exact z e6
    · exact .inr ⟨j, List.mem_append_left _ hj, eh, at2⟩
  have fresh : ∀ {i : Nat} {r pre : List Nat}, pl = pre ++ i :: r → i ∉ pre := fun {i r pre} ep2 hi => by
    have nd2 : pl.Nodup := by
      rw [← hpl]
      exact (List.nodup_range (n := es.size)).sublist List.filter_sublist
    rw [ep2, List.nodup_append] at nd2
    exact nd2.2.2 i hi i List.mem_cons_self rfl
  have quit : ∀ {hit : Option Nat}, (∃ pre, pl = pre ++ [] ∧ ((hit = none ∧ ∀ j ∈ pre, ¬ AtK xs k j) ∨ ∃ j, j ∈ pre ∧ hit = some j ∧ AtK xs k j)) → Q hit s := fun {hit} ⟨pre, ep2, hh⟩ => by
    rw [List.append_nil] at ep2
    rcases hh with ⟨rfl, no⟩ | ⟨j, _, rfl, at2⟩
    · exact q0 fun i hi => no i (by rw [← ep2]; exact all i hi) hi
    · exact q1 j at2
  have ruled : (∀ x t, u ≠ .str x t) := fun x t z => by
    have := hk.2
    rw [z] at this
    exact this
  by_cases byv : ((u :: pl.filterMap fun i => es[i]?.map (·.key)).all carriedByValue) = true
  · cases u with
    | none =>
      dsimp only
      rw [hpl, if_pos byv]
      exact walk
    | ref b => simp [carriedByValue] at byv
    | _ => exact (hk.2 : False).elim
  · cases u
    all_goals try exact (hk.2 : False).elim
    all_goals dsimp only
    all_goals rw [hpl, if_neg byv]
    all_goals try rw [if_neg af]
    all_goals split
    all_goals first | refine wpAny_bind (quiet_all hk st ?_) | refine wpAny_bind (wpAny_pure ?_)
    all_goals rw [if_neg (by simp)]
    all_goals refine wpAny_bind (wpAny_forIn_list _ (fun r b s' => ∃ hit, (b = (none, hit) ∧ s' = s) ∧ ∃ pre, pl = pre ++ r ∧ ((hit = none ∧ ∀ j ∈ pre, ¬ AtK xs k j) ∨ ∃ j, j ∈ pre ∧ hit = some j ∧ AtK xs k j)) _ ?_ ?_ _ _ ⟨none, ⟨rfl, rfl⟩, [], rfl, .inl ⟨rfl, fun j hj => by cases hj⟩⟩)
    all_goals first
      | (rintro b s' ⟨hit, ⟨rfl, rfl⟩, hp⟩
         exact wpAny_pure (quit hp))
      | skip
    all_goals
      rintro i r b s' ⟨hit, ⟨rfl, rfl⟩, pre, ep2, hh⟩
      obtain ⟨x, e1, e2, e3, e4⟩ := here i (by rw [ep2]; simp)
      rw [e2]
      dsimp only
      rw [if_pos e3]
      refine wpAny_bind (wpAny_dictEpoch eo ed (wpAny_bind (isK_eq hu e4 hk (wpAny_bind (wpAny_dictEpoch eo ed ?_)))))
      rw [if_neg (by simp)]
      by_cases z : x.k = k
      · rw [decide_eq_true z, if_pos rfl]
        have hn : hit = none := hh.elim (fun y => y.1) fun ⟨j, hj, _, at2⟩ => absurd hj (by rw [← once i j ⟨x, e1, z⟩ at2]; exact fresh ep2)
        subst hn
        rw [if_neg (by simp)]
        refine wpAny_bind (wpAny_rule ?_)
        split
        · exact wpAny_pure (wpAny_pure (q1 i ⟨x, e1, z⟩))
        · exact wpAny_pure ⟨some i, ⟨rfl, rfl⟩, pre ++ [i], by simpa using ep2, .inr ⟨i, by simp, rfl, x, e1, z⟩⟩
      · rw [decide_eq_false z, if_neg (by simp)]
        refine wpAny_bind (wpAny_rule ?_)
        rw [if_neg (by simp)]
        obtain ⟨pre2, g1, g2⟩ := go ep2 e1 z hh
        exact wpAny_pure ⟨hit, ⟨rfl, rfl⟩, pre2, g1, g2⟩
/-- what stands at a key -/
def lookE (xs : List Ek) (k : KP) : Option Value := (xs.find? fun x => decide (x.k = k)).map (·.v)
theorem lookE_none (h : ∀ i, ¬ AtK xs k i) : lookE xs k = none := by
  unfold lookE
  rw [Option.map_eq_none_iff, List.find?_eq_none]
  intro x hx
  obtain ⟨i, e⟩ := List.mem_iff_getElem?.mp hx
  simpa using fun z : x.k = k => h i ⟨x, e, z⟩
theorem lookE_at (nd : (xs.map (·.k)).Nodup) {i : Nat} (h : AtK xs k i) : (xs[i]?).map (·.v) = lookE xs k := by
  obtain ⟨x, e, z⟩ := h
  unfold lookE
  have : xs.find? (fun x => decide (x.k = k)) = some x := by
    induction xs generalizing i with
    | nil => cases e
    | cons y ys ih =>
      rw [List.map_cons, List.nodup_cons] at nd
      cases i with
      | zero =>
        cases e
        rw [List.find?_cons_of_pos]
        exact decide_eq_true z
      | succ i =>
        have e2 : ys[i]? = some x := by simpa using e
        rw [List.find?_cons_of_neg]
        · exact ih nd.2 e2
        · intro q
          refine nd.1 ?_
          rw [of_decide_eq_true q, ← z]
          exact List.mem_map_of_mem (List.mem_of_getElem? e2)
  rw [this, e]
theorem dget_k {Q : Option Value → Shared → Prop} (hu : A.units + 8 < cLine) (hk : IsK s.heap k u) (hd : Ents w s.heap d xs) (ks : ∀ x ∈ xs, IsK s.heap x.k x.u) (nd : (xs.map (·.k)).Nodup) (h : ∀ t, Q (lookE xs k) { s with toks := t }) :
    wpAny (model P w) A (dictGet d u) Q E s := by
  obtain ⟨o, ep, eo, ex, ed⟩ := hd.o
  unfold dictGet
  (try (with_reducible (refine wpAny_holding ?_)))
  refine wpAny_bind (isK_hash hu hk (wpAny_bind (find_k (s := { s with toks := s.toks + (nkey k).draws }) hu hk hd ks nd (fun no => ?_) fun i hi => ?_)))
  · have z := h (s.toks + (nkey k).draws)
    rw [lookE_none no] at z
    exact wpAny_pure z
  · refine wpAny_bind (wpAny_dictEntries (s := { s with toks := s.toks + (nkey k).draws }) eo ed ?_)
    have z := h (s.toks + (nkey k).draws)
    rw [← lookE_at nd hi] at z
    refine wpAny_pure ?_
    rw [List.getElem?_toArray, List.getElem?_map, Option.map_map]
    exact z
theorem ents_ty (hd : Ents w s.heap d xs) : s.TypeIs (.ref d) "dict" := by
  obtain ⟨o, ep, eo, ex, ed⟩ := hd.o
  exact ⟨o, eo, ex.1⟩
theorem getItem_k {Q : Value → Shared → Prop} {v : Value} (hu : A.units + 9 < cLine) (hk : IsK s.heap k u) (hd : Ents w s.heap d xs) (ks : ∀ x ∈ xs, IsK s.heap x.k x.u) (nd : (xs.map (·.k)).Nodup) (e : lookE xs k = some v) (h : ∀ t, Q v { s with toks := t }) :
    wpAny (model P w) A (getItem (.ref d) u) Q E s := by
  have ty := ents_ty hd
  have hu1 : A.in1.units + 8 < cLine := by
    show A.units + 1 + 8 < cLine
    omega
  unfold getItem
  (try (with_reducible (refine wpAny_holding ?_)))
  refine wpAny_bind (wpAny_sequenceKey ty (by decide) (wpAny_bind (wpAny_callSpecial?_slot (name := Str.ofString "__getitem__") ty slot_dict_getitem (wpAny_call_entry slot_dict_getitem ty entry_dict_getitem ?_ (args_dict_getitem _ _)))))
  show wpAny (model P w) A.in1 (dictGet d u >>= _) _ _ s
  refine wpAny_bind (dget_k (A := A.in1) hu1 hk hd ks nd fun t => ?_)
  rw [e]
  exact wpAny_pure ⟨v, rfl, wpAny_pure (h t)⟩
theorem in_k {Q : Bool → Shared → Prop} (hu : A.units + 9 < cLine) (hk : IsK s.heap k u) (hd : Ents w s.heap d xs) (ns : (d == sysModules) = false) (ks : ∀ x ∈ xs, IsK s.heap x.k x.u) (nd : (xs.map (·.k)).Nodup) (h : ∀ t, Q (lookE xs k).isSome { s with toks := t }) :
    wpAny (model P w) A (contains (.ref d) u) Q E s := by
  have ty := ents_ty hd
  have hu1 : A.in1.units + 8 < cLine := by
    show A.units + 1 + 8 < cLine
    omega
  unfold contains
  (try (with_reducible (refine wpAny_holding ?_)))
  refine wpAny_bind (wpAny_specialOf ty slot_dict_contains.lookup ?_)
  rw [if_neg (show ¬ ((some (Value.builtin "dict.__contains__") == some Value.none) = true) by rw [beq_builtin_none]; exact Bool.false_ne_true)]
  refine wpAny_bind (wpAny_callSpecialUnlessNone?_slot (name := Str.ofString "__contains__") ty slot_dict_contains (wpAny_call_entry slot_dict_contains ty entry_dict_contains ?_ (args_dict_contains _ _)))
  show wpAny (model P w) A.in1 (dictGet d u >>= _) _ _ s
  refine wpAny_bind (dget_k (A := A.in1) hu1 hk hd ks nd fun t => ?_)
  have z := h t
  cases q : lookE xs k with
  | some v =>
    rw [q] at z
    exact wpAny_pure ⟨_, rfl, wpAny_truthy_bool z⟩
  | none =>
    rw [q] at z
    exact wpAny_bind (wpAny_pendingKey_other ns (wpAny_pure ⟨_, rfl, wpAny_truthy_bool z⟩))
/-- a value is put at a key: in its place, or at the end -/
def putE (xs : List Ek) (k : KP) (u v : Value) : List Ek := if (lookE xs k).isSome = true then xs.map (fun x => if x.k = k then { x with v := v } else x) else xs ++ [⟨k, u, v⟩]
theorem putE_keys {v : Value} (hk : IsK s.heap k u) (ks : ∀ x ∈ xs, IsK s.heap x.k x.u) : ∀ x ∈ putE xs k u v, IsK s.heap x.k x.u := by
  unfold putE
  split
  · intro x hx
    obtain ⟨y, hy, rfl⟩ := List.mem_map.mp hx
    split <;> exact ks y hy
  · intro x hx
    rcases List.mem_append.mp hx with z | z
    · exact ks x z
    · rw [List.mem_singleton.mp z]
      exact hk
theorem putE_map {v : Value} : (xs.map (fun x => if x.k = k then { x with v := v } else x)).map (·.k) = xs.map (·.k) := by
  rw [List.map_map]
  refine List.map_congr_left fun x _ => ?_
  show (if x.k = k then { x with v := v } else x).k = x.k
  split <;> rfl
theorem look_mem : (lookE xs k).isSome = true ↔ k ∈ xs.map (·.k) := by
  unfold lookE
  rw [Option.isSome_map, List.find?_isSome, List.mem_map]
  simp
theorem putE_nd {v : Value} (nd : (xs.map (·.k)).Nodup) : ((putE xs k u v).map (·.k)).Nodup := by
  unfold putE
  split
  · rw [putE_map]
    exact nd
  · rename_i c
    rw [List.map_append, List.nodup_append]
    refine ⟨nd, by simp, fun a ha b hb => ?_⟩
    have : b = k := by simpa using hb
    rw [this]
    exact fun z => c (look_mem.mpr (z ▸ ha))
theorem putE_len {v : Value} : (putE xs k u v).length ≤ xs.length + 1 := by
  unfold putE
  split <;> simp
theorem modify_put {v : Value} (nd : (xs.map (·.k)).Nodup) {i : Nat} (h : AtK xs k i) : (xs.map (ent w)).modify i (fun e => { e with val := v }) = (xs.map (fun x => if x.k = k then { x with v := v } else x)).map (ent w) := by
  refine List.ext_getElem? fun j => ?_
  obtain ⟨x, e, z⟩ := h
  rw [List.getElem?_modify, List.getElem?_map, List.getElem?_map, List.getElem?_map]
  by_cases ij : i = j
  · subst ij
    rw [e]
    simp [z, ent]
  · cases q : xs[j]? with
    | none => rfl
    | some y =>
      have ne : ¬ y.k = k := fun z2 => ij (by
        have a1 : (xs.map (·.k))[i]? = some k := by rw [List.getElem?_map, e]; exact congrArg some z
        have a2 : (xs.map (·.k))[j]? = some k := by rw [List.getElem?_map, q]; exact congrArg some z2
        exact (List.getElem?_inj (List.getElem?_eq_some_iff.mp a1).1 nd).mp (a1.trans a2.symm))
      simp [ne, ij]
theorem dset_k {v : Value} {Q : Unit → Shared → Prop} (hu : A.units + 8 < cLine) (hk : IsK s.heap k u) (hd : Ents w s.heap d xs) (ks : ∀ x ∈ xs, IsK s.heap x.k x.u) (nd : (xs.map (·.k)).Nodup) (hz : xs.length ≤ sizeLine)
    (h : ∀ h' t, Ents w h' d (putE xs k u v) → Heap.SameBut d s.heap h' → Q () { s with heap := h', toks := t }) : wpAny (model P w) A (dictSet d u v) Q E s := by
  obtain ⟨o, ep, eo, ex, ed⟩ := hd.o
  unfold dictSet
  (try (with_reducible (refine wpAny_holding ?_)))
  refine wpAny_bind (isK_hash hu hk ?_)
  unfold dictSetHashed
  (try (with_reducible (refine wpAny_holding ?_)))
  refine wpAny_bind (find_k (s := { s with toks := s.toks + (nkey k).draws }) hu hk hd ks nd (fun no => ?_) fun i hi => ?_)
  · have e0 : putE xs k u v = xs ++ [⟨k, u, v⟩] := by
      unfold putE
      rw [lookE_none no]
      rfl
    refine wpAny_bind (wpAny_rule (wpAny_updateDictKeys (hz := by simp; omega) (s := { s with toks := s.toks + (nkey k).draws }) eo ed (h _ _ ⟨_, ep + 1, Heap.get?_update_self _ eo (Obj.isFreed_of_dict (Obj.data_mapDictKeys ed _)), ex.mapDictKeys _, ?_⟩ (Heap.SameBut.update ..))))
    rw [Obj.data_mapDictKeys ed, e0]
    simp [ent]
  · have e1 : putE xs k u v = xs.map (fun x => if x.k = k then { x with v := v } else x) := by
      unfold putE
      obtain ⟨x, ex2, z⟩ := hi
      rw [if_pos (look_mem.mpr (by rw [← z]; exact List.mem_map_of_mem (List.mem_of_getElem? ex2)))]
    refine wpAny_bind (wpAny_rule (wpAny_bind (wpAny_updateDict (s := { s with toks := s.toks + (nkey k).draws }) eo ed (wpAny_point (h _ _ ⟨_, ep, Heap.get?_update_self _ eo (Obj.isFreed_of_dict (Obj.data_mapDict ed _)), ex.mapDict _, ?_⟩ (Heap.SameBut.update ..))))))
    rw [Obj.data_mapDict ed, e1, ← modify_put nd hi]
    simp
theorem setItem_k {v : Value} {Q : Unit → Shared → Prop} (hu : A.units + 9 < cLine) (hk : IsK s.heap k u) (hd : Ents w s.heap d xs) (ks : ∀ x ∈ xs, IsK s.heap x.k x.u) (nd : (xs.map (·.k)).Nodup) (hz : xs.length ≤ sizeLine)
    (h : ∀ h' t, Ents w h' d (putE xs k u v) → Heap.SameBut d s.heap h' → Q () { s with heap := h', toks := t }) : wpAny (model P w) A (setItem (.ref d) u v) Q E s := by
  have ty := ents_ty hd
  have hu1 : A.in1.units + 8 < cLine := by
    show A.units + 1 + 8 < cLine
    omega
  unfold setItem
  (try (with_reducible (refine wpAny_holding ?_)))
  refine wpAny_bind (wpAny_sequenceKey ty (by decide) (wpAny_bind (wpAny_callSpecial?_slot (name := Str.ofString "__setitem__") ty slot_dict_setitem (wpAny_call_entry slot_dict_setitem ty entry_dict_setitem ?_ (args_dict_setitem _ _ _)))))
  show wpAny (model P w) A.in1 (Builtin.Dict.notOrdered "__setitem__" ⟨[.ref d, u, v], []⟩ >>= _) _ _ s
  refine wpAny_bind (wpAny_notOrdered_dict ty ?_)
  show wpAny (model P w) A.in1 (dictSet d u v >>= _) _ _ s
  exact wpAny_bind (dset_k (A := A.in1) hu1 hk hd ks nd hz fun h' t d' b' => wpAny_pure ⟨.none, rfl, wpAny_pure (h h' t d' b')⟩)
end
/-! ## tracked -/
def rawN (w : World) (a : Addr) (xs : List Ek) : HO := .ext fun h => Ents w h a xs ∧ (xs.map (·.k)).Nodup ∧ xs.length ≤ sizeLine ∧ (a == sysModules) = false
theorem rawN_ok {P : Program} {w : World} {H : Hp} {h : Heap} {a : Addr} {xs : List Ek} (e : Ents w h a xs) (nd : (xs.map (·.k)).Nodup) (hz : xs.length ≤ sizeLine) (ns : (a == sysModules) = false) : ObjOk P w H h a (rawN w a xs) :=
  ⟨⟨e, nd, hz, ns⟩, let ⟨o, _, g, _⟩ := e.o; ⟨o, g⟩, fun _ _ ⟨⟨o, ep, g, r⟩, z⟩ k => ⟨⟨o, ep, k _ g, r⟩, z⟩⟩
theorem rawN_at {P : Program} {w : World} {H : Hp} {h : Heap} {a : Addr} {xs : List Ek} (hok : HOk P w H h) (e : H a = some (rawN w a xs)) : Ents w h a xs ∧ (xs.map (·.k)).Nodup ∧ xs.length ≤ sizeLine ∧ (a == sysModules) = false := (show ObjOk P w H h a (rawN w a xs) from hok a _ e).1
/-- a key as a value -/
def KeyV (H : Hp) : KP → V → Prop
  | none, y => y = .non
  | some (m, f), y => ∃ b, y = .ref b ∧ H b = some (.tup [.int m, .int f])
def KeyU (H : Hp) : KP → Value → Prop
  | none, u => u = .none
  | some (m, f), u => ∃ b, u = .ref b ∧ H b = some (.tup [.int m, .int f])
theorem keyU_of {H : Hp} {k : KP} {y : V} {u : Value} (h : KeyV H k y) (r : RelV y u) : KeyU H k u := by
  cases k with
  | none =>
    obtain rfl : y = .non := h
    exact r
  | some p =>
    obtain ⟨m, f⟩ := p
    obtain ⟨b, rfl, e⟩ := h
    exact ⟨b, r, e⟩
theorem KeyU.isK {P : Program} {w : World} {H : Hp} {h : Heap} {k : KP} {u : Value} (hok : HOk P w H h) (x : KeyU H k u) : IsK h k u := by
  cases k with
  | none =>
    obtain rfl : u = .none := x
    exact ⟨.none, trivial⟩
  | some p =>
    obtain ⟨m, f⟩ := p
    obtain ⟨b, rfl, e⟩ := x
    obtain ⟨_, its, r, o, h1, h2, n, h3⟩ := (show ObjOk P w H h b (.tup [.int m, .int f]) from hok b _ e)
    refine ⟨.tup h1 h2 h3 ?_, trivial⟩
    cases r with
    | cons a r => cases r with
      | cons c r =>
        cases r
        obtain ⟨t1, rfl⟩ := (show ∃ t, _ = Value.int m t from a)
        obtain ⟨t2, rfl⟩ := (show ∃ t, _ = Value.int f t from c)
        exact .cons (.int _ _) (.cons (.int _ _) .nil)
theorem KeyU.keep {H H' : Hp} {k : KP} {u : Value} (x : KeyU H k u) (s : ∀ b xs, H b = some (.tup xs) → H' b = some (.tup xs)) : KeyU H' k u := by
  cases k with
  | none => exact x
  | some p =>
    obtain ⟨m, f⟩ := p
    obtain ⟨b, e1, e2⟩ := x
    exact ⟨b, e1, s _ _ e2⟩
abbrev RelE (H : Hp) : List (KP × V) → List Ek → Prop := Paired fun p x => p.1 = x.k ∧ KeyU H p.1 x.u ∧ RelV p.2 x.v
theorem RelE.keep {H H' : Hp} {kvs : List (KP × V)} {xs : List Ek} (r : RelE H kvs xs) (s : ∀ b ys, H b = some (.tup ys) → H' b = some (.tup ys)) : RelE H' kvs xs := Paired.mapP r fun _ _ z => ⟨z.1, z.2.1.keep s, z.2.2⟩
theorem RelE.keys {P : Program} {w : World} {H : Hp} {h : Heap} {kvs : List (KP × V)} {xs : List Ek} (hok : HOk P w H h) (r : RelE H kvs xs) : ∀ x ∈ xs, IsK h x.k x.u := by
  induction r with
  | nil => exact fun x hx => by cases hx
  | cons a r ih =>
    intro x hx
    rcases List.mem_cons.mp hx with z | z
    · rw [z]
      have := a.2.1.isK hok
      rw [a.1] at this
      exact this
    · exact ih x z
theorem RelE.look {H : Hp} {kvs : List (KP × V)} {xs : List Ek} (r : RelE H kvs xs) (k : KP) : RelO (valV kvs k) (lookE xs k) := by
  induction r with
  | nil => exact True.intro
  | @cons p q ps qs h t ih =>
    obtain ⟨h1, _, h2⟩ := h
    by_cases e : p.1 = k
    · have b : lookE (q :: qs) k = some q.v := by simp [lookE, List.find?_cons, h1.symm.trans e]
      rw [valV_pos e, b]
      exact h2
    · have e' : ¬ q.k = k := fun z => e (h1.trans z)
      have b : lookE (q :: qs) k = lookE qs k := by simp [lookE, List.find?_cons, e']
      rw [valV_neg e, b]
      exact ih
theorem RelE.put {H : Hp} {kvs : List (KP × V)} {xs : List Ek} (r : RelE H kvs xs) {k : KP} {u v : Value} {y : V} (hk : KeyU H k u) (ry : RelV y v) : RelE H (putK kvs k y) (putE xs k u v) := by
  unfold putK putE
  rw [valV_any, (r.look k).isSome_eq]
  split
  · rename_i c
    clear c hk
    induction r with
    | nil => exact .nil
    | @cons p q ps qs h t ih =>
      rw [List.map_cons, List.map_cons]
      refine .cons ?_ ih
      obtain ⟨h1, h2, h3⟩ := h
      by_cases e : p.1 = k
      · rw [if_pos e, if_pos (h1.symm.trans e)]
        exact ⟨h1, h2, ry⟩
      · rw [if_neg e, if_neg fun z => e (h1.trans z)]
        exact ⟨h1, h2, h3⟩
  · exact Paired.snoc r ⟨rfl, hk, ry⟩
/-- a dict with the keys None and pairs of ints -/
def DN (w : World) (H : Hp) (a : Addr) (kvs : List (KP × V)) : Prop := ∃ xs, H a = some (rawN w a xs) ∧ RelE H kvs xs
theorem DN.same {w : World} {H H' : Hp} {a : Addr} {kvs : List (KP × V)} (d : DN w H a kvs) (s : Same H H') : DN w H' a kvs := by
  obtain ⟨xs, e, r⟩ := d
  exact ⟨xs, s _ _ e, r.keep fun b ys z => s _ _ z⟩
theorem DN.but {w : World} {H H' : Hp} {a o : Addr} {kvs : List (KP × V)} (d : DN w H a kvs) (n : a ≠ o) (no : ∀ ys, H o ≠ some (.tup ys)) (s : But o H H') : DN w H' a kvs := by
  obtain ⟨xs, e, r⟩ := d
  exact ⟨xs, s _ _ n e, r.keep fun b ys z => s _ _ (fun y => by rw [y] at z; exact no _ z) z⟩
/-! ## rules -/
def tDGetN (w : World) (td ty : TE) : TE := fun σ H Q => td σ H fun x H1 => ty σ H1 fun y H2 => ∃ a kvs k v, x = .ref a ∧ DN w H2 a kvs ∧ KeyV H2 k y ∧ valV kvs k = some v ∧ Q v H2
def tDNotInN (w : World) (ty td : TE) : TE := fun σ H Q => ty σ H fun y H1 => td σ H1 fun x H2 => ∃ a kvs k, x = .ref a ∧ DN w H2 a kvs ∧ KeyV H2 k y ∧ Q (.bl (!(valV kvs k).isSome)) H2
def sDPutN (w : World) (td ty tv : TE) : TS := fun D σ H => tv σ H fun v H1 => td σ H1 fun x H2 => ty σ H2 fun y H3 => ∃ a kvs k, x = .ref a ∧ DN w H3 a kvs ∧ KeyV H3 k y ∧ kvs.length < sizeLine ∧
  ∀ o, DN w (upd H3 a o) a (putK kvs k v) → (∀ ys, H3 a ≠ some (.tup ys)) → D.nx σ (upd H3 a o)
theorem DN.notup {w : World} {H : Hp} {a : Addr} {kvs : List (KP × V)} (d : DN w H a kvs) : ∀ ys, H a ≠ some (.tup ys) := fun ys z => by
  obtain ⟨xs, e, _⟩ := d
  rw [e] at z
  cases z
section
variable {X : Cx} {w : World} {o i e value : Expr} {pos pos' : Pos} {td ty tv : TE}
theorem pe_dgetN (hw : X.w = w) (hu : X.A.units + 9 < cLine) (ho : PE X o td) (hi : PE X i ty) (hs : NoSl i) : PE X (.Subscript o i pos) (tDGetN w td ty) := by
  subst hw
  refine ⟨fun pins s σ H Q I h => ?_⟩
  refine subD_of PySem.F.slot_dict_getitem.lookup hs (thn (ho.run pins s σ H _ I h) fun u s1 ⟨x, H1, I1, rx, q1⟩ => thn (hi.run pins s1 σ H1 _ I1 q1) fun iv s2 ⟨y, H2, I2, ry, a, kvs, k, v, ex, d, kv, ev, q2⟩ => ?_)
  subst ex
  obtain rfl : u = Value.ref a := rx
  obtain ⟨xs, ea, rel⟩ := d
  obtain ⟨en, nd, hz, ns⟩ := rawN_at I2.hok ea
  obtain ⟨u2, e2, r2⟩ := RelO.some_of (v := v) (o := lookE xs k) (by rw [← ev]; exact rel.look k)
  exact ⟨ents_ty en, getItem_k hu ((keyU_of kv ry).isK I2.hok) en (rel.keys I2.hok) nd e2 fun t => ⟨v, H2, I2.tok _, r2, q2⟩⟩
theorem pc_dnotinN (hw : X.w = w) (hu : X.A.units + 9 < cLine) (hi : PE X i ty) (ho : PE X o td) : PC X .NotIn i o (tDNotInN w ty td) := by
  subst hw
  refine ⟨fun pins s σ H Q I h => ?_⟩
  refine thn (hi.run pins s σ H _ I h) fun iv s1 ⟨y, H1, I1, ry, q1⟩ => thn (ho.run pins s1 σ H1 _ I1 q1) fun u s2 ⟨x, H2, I2, rx, a, kvs, k, ex, d, kv, q2⟩ => ?_
  subst ex
  obtain rfl : u = Value.ref a := rx
  obtain ⟨xs, ea, rel⟩ := d
  obtain ⟨en, nd, hz, ns⟩ := rawN_at I2.hok ea
  show wpAny _ _ (do return Value.bool (!(← contains (.ref a) iv))) _ _ s2
  refine wpAny_bind (in_k hu ((keyU_of kv ry).isK I2.hok) en ns (rel.keys I2.hok) nd fun t => ?_)
  have ei := (rel.look k).isSome_eq
  rw [ei] at q2
  exact wpAny_pure ⟨.bl (!(lookE xs k).isSome), H2, I2.tok _, rfl, q2⟩
theorem ps_dputN (hw : X.w = w) (hu : X.A.units + 9 < cLine) (ho : PE X o td) (hi : PE X i ty) (hv : PE X value tv) (hs : swapsWith value (some (.Subscript o i pos')) pos.line X.env = pure false) :
    PS X (.Assign [.Subscript o i pos'] value pos) (sDPutN w td ty tv) := by
  subst hw
  refine ⟨fun pins s σ H D I h => ?_⟩
  refine wpAny_Assign_Subscript (thn (hv.run pins s σ H _ I h) fun r s1 ⟨v, H1, I1, rv, q1⟩ => thn (ho.run pins s1 σ H1 _ I1 q1) fun u s2 ⟨x, H2, I2, rx, q2⟩ => thn (hi.run pins s2 σ H2 _ I2 q2) fun iv s3 ⟨y, H3, I3, ry, a, kvs, k, ex, d, kv, hl, q3⟩ => ?_) hs
  subst ex
  obtain rfl : u = Value.ref a := rx
  have nt := d.notup
  obtain ⟨xs, ea, rel⟩ := d
  obtain ⟨en, nd, hz, ns⟩ := rawN_at I3.hok ea
  have ku := keyU_of kv ry
  have lx : xs.length < sizeLine := by
    rw [← Paired.length rel]
    exact hl
  refine setItem_k hu (ku.isK I3.hok) en (rel.keys I3.hok) nd hz fun h' t en' sb => ?_
  have lz : (putE xs k iv r).length ≤ sizeLine := by
    have := putE_len (xs := xs) (k := k) (u := iv) (v := r)
    omega
  have he : ∃ q, h'.get? a = some q := let ⟨o, _, g, _⟩ := en'.o; ⟨o, g⟩
  refine ⟨σ, _, d_write (t' := t) (ob := rawN X.w a (putE xs k iv r)) I3 (by rw [ea]; exact True.intro) sb he (rawN_ok en' (putE_nd nd) lz ns), q3 _ ⟨_, upd_same, (rel.put ku rv).keep fun b ys z => ?_⟩ nt⟩
  rw [upd_ne (show b ≠ a from fun q => nt ys (by rw [← q]; exact z))]
  exact z
/-- {None: e}: the new dict stands empty while e is made -/
def tDispN (w : World) (tv : TE) : TE := fun σ H Q => ∀ p, H p = none → tv σ (upd H p (.dK [])) fun y H2 => H2 p = some (.dK []) ∧ ∀ o, DN w (upd H2 p o) p [(none, y)] → (∀ ys, o ≠ .tup ys) → Q (.ref p) (upd H2 p o)
theorem pe_dispN (hw : X.w = w) (hk : PE X i (tC .non)) (hv : PE X value tv) : PE X (.Dict [some i] [value] pos) (tDispN w tv) := by
  subst hw
  refine ⟨fun pins s σ H Q I q => ?_⟩
  have hn := I.hok.fresh (Nat.le_refl s.heap.objs.size)
  have I1 := I.laid (a := s.heap.objs.size) (o := .dK []) (h' := s.heap.push { cls := .type "dict", data := .dict #[] }) (t' := s.toks) (fun _ _ z => Heap.get?_push_of_some _ z) (Nat.le_refl _) (dk_empty s.heap I.big)
  have ps : PPs X pos [some i] [value] [(tC .non, tv)] := pps_cons hk hv pps_nil
  refine wpAny_Dict_walk (knd := leafKind X.prog X.w) rfl rfl (List.cons_ne_nil _ _) (by simp) (thn (ps.run pins _ σ _ (fun l H2 => match l with | [(V.non, y)] => H2 s.heap.objs.size = some (.dK []) ∧ ∀ o, DN X.w (upd H2 s.heap.objs.size o) s.heap.objs.size [(none, y)] → (∀ ys, o ≠ .tup ys) → Q (.ref s.heap.objs.size) (upd H2 s.heap.objs.size o) | _ => False) I1 (q _ hn)) fun ws s2 hx => ?_)
  obtain ⟨l, H2, I2, rel, hl⟩ := hx
  match l, rel, hl with
  | [(V.non, y)], rel, ⟨e, q2⟩ =>
    cases rel with
    | @cons a b as bs h t =>
      cases t
      obtain ⟨h1, h2⟩ := h
      obtain ⟨b1, b2⟩ := b
      obtain rfl : b1 = Value.none := h1
      obtain ⟨z, hd, vs0, r0, dd⟩ := dk_of I2.hok e
      cases r0
      refine ⟨[(Leaf.none, b2)], ⟨rfl, rfl, trivial⟩, ?_, fun h' dd' sb => ?_⟩
      · obtain ⟨o, es, ep, g, ex, ed, ko, pr, nd⟩ := dd
        have e0 : es = #[] := by
          cases es with
          | mk l =>
            cases pr
            rfl
        subst e0
        exact ⟨o, #[], ep, g, ex, ed, fun x hx => by simp at hx, .nil, List.nodup_nil⟩
      · have en : Ents X.w h' s.heap.objs.size [⟨none, .none, b2⟩] := by
          obtain ⟨o, es, ep, g, ex, ed, ko, pr, nd⟩ := dd'
          refine ⟨o, ep, g, ex, ?_⟩
          rw [ed]
          cases es with
          | mk l =>
            have pr2 : Pairs (leafKind X.prog X.w) l [(Leaf.none, b2)] := pr
            cases pr2 with
            | @cons e1 kv es1 kvs1 hk1 hv1 hr =>
              cases hr
              obtain ⟨kk, k1, k2⟩ := ko e1 (by simp)
              have ekey : e1.key = .none := by
                have z : Leaf.isOf Leaf.none e1.key = true := hk1
                cases q : e1.key <;> rw [q] at z <;> first | rfl | exact absurd z Bool.false_ne_true
              have ek : kk = Leaf.none := (leafKind X.prog X.w).inj e1.key kk Leaf.none k1 hk1
              subst ek
              have : e1 = ent X.w ⟨none, .none, b2⟩ := by
                obtain ⟨hh, kk2, vv⟩ := e1
                have a1 : kk2 = Value.none := ekey
                have a2 : vv = b2 := hv1
                have a3 : hh = (leafKind X.prog X.w).hash Leaf.none := k2
                rw [a1, a2, a3]
                rfl
              rw [this]
              rfl
        have he : ∃ q, h'.get? s.heap.objs.size = some q := let ⟨o, _, g, _⟩ := en.o; ⟨o, g⟩
        have dn : DN X.w (upd H2 s.heap.objs.size (rawN X.w s.heap.objs.size [⟨none, .none, b2⟩])) s.heap.objs.size [(none, y)] := ⟨_, upd_same, .cons ⟨rfl, rfl, h2⟩ .nil⟩
        exact ⟨.ref s.heap.objs.size, _, d_write (t' := s2.toks + 1) (ob := rawN X.w s.heap.objs.size [⟨none, .none, b2⟩]) I2 (by rw [e]; exact True.intro) sb he (rawN_ok en (by simp) (by rw [sizeLine_eq]; show 1 ≤ _; decide) hd), rfl, q2 _ dn (fun ys z => nomatch z)⟩
end
theorem hu9 {k : Nat} {A : Around} (hr : Room k A) : A.units + 9 < cLine := by
  have := hr.un
  omega
end Sq


set_option Elab.async false
set_option maxRecDepth 100000
set_option maxHeartbeats 4000000
namespace PySem.HandSPX
open PySem PySem.Spec PySem.W PySem.Calls PyProof.Rows
/-! ## an own exception made by a keyword: C(k = u) -/
section
variable {M : Model} {A : Around} {E : Value → Shared → Prop} {h : Heap} {g : Array GenState} {d : Drawn} {t : Nat} {os : OsState}
variable {nm q : Str} {C N : Addr} {bs bm bmB : List Value} {hdct : Bool} {sn : List Str} {sub : List Value} {ab : Bool} {col : Option Bool} {dd : Option Addr} {k0 k1 k2 k3 k5 : Option Value} {B newId initId : String}
theorem check_newK (F : ExcBaseFacts B newId initId bmB) (hT : ∀ X : String, bm.contains (.type X) = bmB.contains (.type X)) {ky : Str} {u : Value} {Q : Unit → Shared → Prop}
    (hC : h.get? C = some (excClassObj nm q C N bs bm hdct sn sub ab col dd k0 k1 k2 k3 k5 newId)) (hq : Q () ⟨h, g, d, t, os⟩) : wpAny M A (checkBuiltinCall newId ⟨[.ref C], [(ky, u)]⟩) Q E ⟨h, g, d, t, os⟩ := by
  have hcont : (Value.ref C :: bm).contains (.type B) = true := by rw [List.contains_cons, hT, F.hasB, Bool.or_true]
  have hstar := F.noStar
  simp only [checkBuiltinCall, F.newKind, F.newSplit, F.newRow]
  repeat (first | refine wpAny_loadPart_at hC ?_ | (refine wpAny_isSubtype_exc hC ?_; rw [hcont]) | refine wpAny_staticBase_exc hC ?_ | refine wpAny_madeBy_exc hC ?_ | simp only [bne_self_eq_false, Bool.false_eq_true, if_false] | wp_step)
  exact hq
end
section
variable {prog : Program} {w : World} {A : Around} {E : Value → Shared → Prop} {R : Result → Shared → Prop} {h : Heap} {g : Array GenState} {d : Drawn} {t : Nat} {os : OsState}
variable {nm q : Str} {C N : Addr} {bs bm bmB : List Value} {hdct : Bool} {sn : List Str} {sub : List Value} {ab : Bool} {col : Option Bool} {dd : Option Addr} {k0 k1 k2 k3 k5 : Option Value} {B newId initId : String}
theorem newK (F : ExcBaseFacts B newId initId bmB) (hT : ∀ X : String, bm.contains (.type X) = bmB.contains (.type X)) {ky : Str} {u : Value}
    (hC : h.get? C = some (excClassObj nm q C N bs bm hdct sn sub ab col dd k0 k1 k2 k3 k5 newId))
    (hq : R (.ok (.ret (.ref (h.objs.size + 1)))) ⟨(h.push { cls := .type "tuple", data := .seq ([] : List Value).toArray }).push
      { cls := .ref C, data := .fields #[.ref h.objs.size, .none, .none, .none, .bool false, .none] }, g, d, t, os⟩) :
    codeAny (model prog w) A (.builtin newId ⟨[.ref C], [(ky, u)]⟩) R ⟨h, g, d, t, os⟩ := by
  have hends := F.ends
  have hcB : (Value.ref C :: bm).contains (.type B) = true := by rw [List.contains_cons, hT, F.hasB, Bool.or_true]
  have hcA : (Value.ref C :: bm).contains (.type "AttributeError") = false := by rw [List.contains_cons, hT, F.noAttr]; rfl
  have hcN : (Value.ref C :: bm).contains (.type "NameError") = false := by rw [List.contains_cons, hT, F.noName]; rfl
  refine codeAny_builtinAt F.entry ?_
  unfold Builtin.«BaseException.__new__»
  refine wpAt_bind ?_
  show wpAt _ _ _ (stack >>= _) _ _ _
  refine wpAt_bind (wpAt_stack fun p below => wpAt_of_wpAny ?_)
  wp_walk
  refine wpAt_of_wpAny ?_
  rw [F.owner]
  repeat (first | with_reducible refine wpAny_madeHere_exc F.canon hC ?_ | with_reducible refine wpAny_loadPart_at hC ?_ | (with_reducible refine wpAny_isSubtype_exc hC ?_; first | rw [hcB] | rw [hcA] | rw [hcN]) | wp_step)
  show R _ _
  rw [Heap.size_push]
  exact hq
theorem type_callK (F : ExcBaseFacts B newId initId bmB) (hT : ∀ X : String, bm.contains (.type X) = bmB.contains (.type X)) {ky : Str} {u : Value} {fI : Addr} {Q : Fin → Shared → Prop}
    (hC : h.get? C = some (excClassObj nm q C N bs bm hdct sn sub ab col dd k0 k1 k2 k3 k5 newId))
    (hi : W.Looks (model prog w) h (typeLookup (.ref C) "__init__") (some (.ref fI))) (hb : ∀ self, W.Looks (model prog w) h (bindSpecial (.ref fI) self) (.ref fI, [self]))
    (hq : codeAny (model prog w) A (.call (.ref fI) ⟨[.ref (h.objs.size + 1)], [(ky, u)]⟩)
      (fun r s' => match r with | .ok (.ret v) => v = .none ∧ Q (.done (.ret (.ref (h.objs.size + 1)))) s' | .ok _ => False | .error e => E e s')
      ⟨(h.push (W.kdv_tup [])).push (excO C h.objs.size), g, d, t, os⟩) :
    wpAny (model prog w) A (Builtin.«type.__call__» ⟨[.ref C], [(ky, u)]⟩) Q E ⟨h, g, d, t, os⟩ := by
  repeat (first | with_reducible refine wpAny_loadPart_at hC ?_ | with_reducible refine wpAny_madeBy_exc hC ?_ | wp_step)
  refine codeAny_call_builtin_code (Code.quiet_builtin _ F.quiet) (check_newK F hT hC ?_)
  refine newK F hT hC ?_
  show wpAny _ _ _ _ _ _
  have k : ∀ b o, h.get? b = some o → ((h.push (W.kdv_tup [])).push (excO C h.objs.size)).get? b = some o := fun b o e => Heap.get?_push_of_some _ (Heap.get?_push_of_some _ e)
  have hC₁ := k _ _ hC
  have hget : ((h.push (W.kdv_tup [])).push (excO C h.objs.size)).get? (h.objs.size + 1) = some (excO C h.objs.size) := by heap_get
  have hcC : (Value.ref C :: bm).contains (.ref C) = true := by simp
  have i1 := hi.keeps k
  have b1 := (hb (.ref (h.objs.size + 1))).keeps k
  unfold isInstance
  repeat (first | with_reducible refine wpAny_loadPart_at hget ?_ | (with_reducible refine wpAny_isSubtype_exc hC₁ ?_; rw [hcC]) | wp_step)
  show wpAny _ _ (typeLookup (.ref C) _) _ _ _
  refine i1.at ?_
  refine wpAny_holding (wpAny_bind (b1.at ?_))
  refine wpAny_bind (wpAny_call (codeAny_mono hq fun r s' z => ?_))
  rcases r with e | (v | _ | _ | _) <;> first | exact z | exact z.elim | skip
  obtain ⟨rfl, z⟩ := z
  first
    | exact wpAny_pure (wpAny_pure z)
    | (wp_walk; exact z)
theorem call_ownK (F : ExcBaseFacts B newId initId bmB) (hT : ∀ X : String, bm.contains (.type X) = bmB.contains (.type X)) {ky : Str} {u : Value} {fI : Addr}
    (hC : h.get? C = some (excClassObj nm q C N bs bm hdct sn sub ab col dd k0 k1 k2 k3 k5 newId))
    (hi : W.Looks (model prog w) h (typeLookup (.ref C) "__init__") (some (.ref fI))) (hb : ∀ self, W.Looks (model prog w) h (bindSpecial (.ref fI) self) (.ref fI, [self]))
    (hq : codeAny (model prog w) (A.under (.builtin "type.__call__" ⟨[.ref C], [(ky, u)]⟩)) (.call (.ref fI) ⟨[.ref (h.objs.size + 1)], [(ky, u)]⟩) (W.InitBack (h.objs.size + 1) R)
      ⟨(h.push (W.kdv_tup [])).push (excO C h.objs.size), g, d, t, os⟩) :
    codeAny (model prog w) A (.call (.ref C) ⟨[], [(ky, u)]⟩) R ⟨h, g, d, t, os⟩ := by
  have f1 := tc_lookup
  have f2 := tc_bind (.ref C)
  have hTy : (⟨h, g, d, t, os⟩ : Shared).TypeIs (.ref C) "type" := ⟨_, hC, rfl⟩
  refine codeAny_of_tree ?_
  show wpAny _ _ (callAny (.ref C) _) _ _ _
  repeat (any_goals (first | assumption | with_reducible refine wpAny_loadPart_at hC ?_ | wp_step))
  refine ⟨rfl, ?_⟩
  refine codeAny_call_builtin_at (Code.quiet_builtin _ (by decide +kernel)) entry_typeCall (wpAny_check_type_call_sub hC (type_callK F hT hC hi hb ?_))
  refine codeAny_mono hq fun r s' z => ?_
  rcases r with e | (v | _ | _ | _) <;> exact z
end
end PySem.HandSPX

namespace Sq
open PySem PySem.Spec PyProof.Rows L2
/-! ## an own exception as a value: C(e), C(value = e) -/
structure OwnX (P : Program) (w : World) (K : PySem.W.Frag) (mg : Str → Option Value) (base : Heap) (k : Nat) (x : Str) (C : Addr) : Prop where
  ex : ∃ (f : Addr) (fd : FuncData), OexC K C ∧ PySem.W.findIn K (.ref C) "__init__" = some (some (.ref f)) ∧ PySem.W.typeIn K (.ref f) = some (.type "function") ∧ FnOk P w K mg base CX0 k f fd ["self", "value"] (spXI C) ∧ mg x = some (.ref C) ∧ L2.Binds K fd ["self", "value"] [] ∧
    ∀ (s : Shared) (u v : Value), BindsTo s fd ⟨[u], [("value", v)]⟩ ((["self", "value"] : List Str).zip [u, v])
def tOex (C : Addr) (te : TE) : TE := fun σ H Q => te σ H fun v H1 => ∀ a d, H1 a = none → H1 d = none → d ≠ a → Q (.ref a) (upd (upd H1 d (exd d [("value", v)])) a (exo a C (some d)))
theorem xi_sp {C a : Addr} {v : V} {H : Hp} {Q : VK} {E : XK} (na : H a = none) (q : ∀ a d, H a = none → H d = none → d ≠ a → Q (.ref a) (upd (upd H d (exd d [("value", v)])) a (exo a C (some d)))) :
    spXI C [.ref a, v] (upd H a (exo a C none)) (fun x H2 => x = .non ∧ Q (.ref a) H2) E := by
  refine ⟨a, v, rfl, upd_same, fun dx nd ne => ⟨rfl, ?_⟩⟩
  rw [upd_ne ne] at nd
  have e : upd (upd (upd H a (exo a C none)) dx (exd dx [("value", v)])) a (exo a C (some dx)) = upd (upd H dx (exd dx [("value", v)])) a (exo a C (some dx)) := by
    funext b
    by_cases h1 : b = a
    · rw [h1, upd_same, upd_same]
    · rw [upd_ne h1, upd_ne h1]
      by_cases h2 : b = dx
      · rw [h2, upd_same, upd_same]
      · rw [upd_ne h2, upd_ne h2, upd_ne h1]
  rw [e]
  exact q a dx na nd ne
section
variable {X : Cx} {k j : Nat} {C : Addr} {x : Str} {p pos : Pos} {e : Expr} {te : TE} {kws : List Keyword} {t : TA}
theorem pe_oex (c : OwnX X.prog X.w X.K X.mg X.base k x C) (hr : Room j X.A) (hk : k + 1 ≤ j) (hg : Gl X x) (ha : PE X e te)
    (hdb : (x == ("__debug__" : Str)) = false := by decide) (he : starEach [e] X.env = (false, eval e X.env) :: starEach [] X.env := by rfl) (hpl : (backTo pos (starEach [] X.env)).any (·.1) = false := by rfl) : PE X (.Call (.Name x p) [e] [] pos) (tOex C te) := by
  obtain ⟨f, fd, T, iC, tI, FO, hm, b, bk⟩ := c.ex
  obtain ⟨nm, q, N, bs, bm, sn, sub, ab, col, dd, k0, k1, k2, k3, k5, hC, hbm⟩ := T.cls
  refine ⟨fun pins s σ H Q I h => wpAny_Call_Name_kw (ld_glob I hg hm ?_ hdb)⟩
  have pa : PA X [e] (tCons (tWk te) tNil) := pa_cons (pe_wk ha) pa_nil he
  refine PySem.W.callWith_K (h₀ := X.base) I.ok.mod.kin T.kC (thn (pa.run pos pins s σ H (fun vs H1 => ∃ v, vs = [v] ∧ ∀ a d, H1 a = none → H1 d = none → d ≠ a → Q (.ref a) (upd (upd H1 d (exd d [("value", v)])) a (exo a C (some d)))) I ⟨_, h, fun v G q => ⟨v, rfl, q⟩⟩) fun us s1 hh => ?_) he hpl
  obtain ⟨vs, H1, I1, r1, v, rfl, q1⟩ := hh
  obtain ⟨u, rfl, ru⟩ := r1.one
  refine ⟨I1.kIn, ?_⟩
  show wpAny _ _ (call (.ref C) [u]) _ _ _
  obtain ⟨hp, g, dr, tk, os⟩ := s1
  have hsz : hp.objs.size ≤ hp.objs.size + 1 := Nat.le_succ _
  have hn : H1 (hp.objs.size + 1) = none := I1.hok.fresh hsz
  have kk : ∀ b o, hp.get? b = some o → ((hp.push (PySem.W.kdv_tup [u])).push (PySem.HandSPX.excO C hp.objs.size)).get? b = some o := fun b o e => Heap.get?_push_of_some _ (Heap.get?_push_of_some _ e)
  have hget : ((hp.push (PySem.W.kdv_tup [u])).push (PySem.HandSPX.excO C hp.objs.size)).get? (hp.objs.size + 1) = some (PySem.HandSPX.excO C hp.objs.size) := by heap_get
  have I2 : Inv X pins σ (upd H1 (hp.objs.size + 1) (exo (hp.objs.size + 1) C none)) ⟨(hp.push (PySem.W.kdv_tup [u])).push (PySem.HandSPX.excO C hp.objs.size), g, dr, tk, os⟩ :=
    I1.laid (t' := tk) (a := hp.objs.size + 1) (o := exo (hp.objs.size + 1) C none) (h' := (hp.push (PySem.W.kdv_tup [u])).push (PySem.HandSPX.excO C hp.objs.size)) kk hsz (exo_ok hget)
  have r2 : Vals [V.ref (hp.objs.size + 1), v] [Value.ref (hp.objs.size + 1), u] := .cons rfl (.cons ru .nil)
  have hq := xi_sp (E := E0) hn q1
  have bb := b _ [Value.ref (hp.objs.size + 1), u] I2.kIn rfl
  refine wpAny_call (PySem.HandSPX.call_own F.excBase_ValueError (fun Y => PySem.HandSPX.refsVE_contains Y bm hbm) (I1.kIn _ _ hC) (PySem.W.looks_findIn I1.kIn iC) (fun self => PySem.W.bind_fn I1.kIn self tI) (lit_len (Nat.le_of_ble_eq_true rfl))
    (codeAny_mono (FO.run _ X.stack _ _ ⟨[Value.ref (hp.objs.size + 1), u], []⟩ [Value.ref (hp.objs.size + 1), u] _ _ E0 ((hr.mono hk).make C [u] []) (I2.env0.make C [u] []) bb r2 hq) fun r s' hq' => ?_))
  cases r with
  | error er => exact False.elim hq'
  | ok fl =>
    cases fl with
    | ret u =>
      obtain ⟨v, H', I3, rv, ev, q3⟩ := I2.after hq'
      subst ev
      exact ⟨rv, ⟨V.ref (hp.objs.size + 1), H', I3, rfl, q3⟩⟩
    | next => exact False.elim hq'
    | brk => exact False.elim hq'
    | cont => exact False.elim hq'
theorem pe_oexK {kpos : Pos} (c : OwnX X.prog X.w X.K X.mg X.base k x C) (hr : Room j X.A) (hk : k + 1 ≤ j) (hg : Gl X x) (ha : PE X e te)
    (hall : (backToKw pos (keywordEach [⟨some "value", e, kpos⟩] X.env)).all (·.1.isSome) = true := by rfl) (hks : (backToKw pos (keywordEach [⟨some "value", e, kpos⟩] X.env)).filterMap (·.1) = (["value"] : List Str) := by rfl) (hdb : (x == ("__debug__" : Str)) = false := by decide)
    (hpl : ((backTo pos (starEach [] X.env)).any (·.1) || (backToKw pos (keywordEach [⟨some "value", e, kpos⟩] X.env)).any (·.1.isNone)) = false := by rfl) : PE X (.Call (.Name x p) [] [⟨some "value", e, kpos⟩] pos) (tOex C te) := by
  obtain ⟨f, fd, T, iC, tI, FO, hm, b, bk⟩ := c.ex
  obtain ⟨nm, q, N, bs, bm, sn, sub, ab, col, dd, k0, k1, k2, k3, k5, hC, hbm⟩ := T.cls
  have pk : PK X [⟨some "value", e, kpos⟩] (tCons (tWk te) tNil) := pk_cons (pe_wk ha) pk_nil
  refine ⟨fun pins s σ H Q I h => wpAny_Call_Name_kw (ld_glob I hg hm (PySem.W.callWith_KW0 (h₀ := X.base) I.ok.mod.kin T.kC hall (thn (pk.run pos pins s σ H (fun vs H1 => ∃ v, vs = [v] ∧ ∀ a d, H1 a = none → H1 d = none → d ≠ a → Q (.ref a) (upd (upd H1 d (exd d [("value", v)])) a (exo a C (some d)))) I ⟨_, h, fun v G q => ⟨v, rfl, q⟩⟩) fun us s1 hh => ?_) hpl) hdb)⟩
  obtain ⟨vs, H1, I1, r1, v, rfl, q1⟩ := hh
  obtain ⟨u, rfl, ru⟩ := r1.one
  refine ⟨I1.kIn, ?_⟩
  rw [hks]
  show wpAny _ _ (call (.ref C) [] [("value", u)]) _ _ _
  obtain ⟨hp, g, dr, tk, os⟩ := s1
  have hsz : hp.objs.size ≤ hp.objs.size + 1 := Nat.le_succ _
  have hn : H1 (hp.objs.size + 1) = none := I1.hok.fresh hsz
  have kk : ∀ b o, hp.get? b = some o → ((hp.push (PySem.W.kdv_tup [])).push (PySem.HandSPX.excO C hp.objs.size)).get? b = some o := fun b o e => Heap.get?_push_of_some _ (Heap.get?_push_of_some _ e)
  have hget : ((hp.push (PySem.W.kdv_tup [])).push (PySem.HandSPX.excO C hp.objs.size)).get? (hp.objs.size + 1) = some (PySem.HandSPX.excO C hp.objs.size) := by heap_get
  have I2 : Inv X pins σ (upd H1 (hp.objs.size + 1) (exo (hp.objs.size + 1) C none)) ⟨(hp.push (PySem.W.kdv_tup [])).push (PySem.HandSPX.excO C hp.objs.size), g, dr, tk, os⟩ :=
    I1.laid (t' := tk) (a := hp.objs.size + 1) (o := exo (hp.objs.size + 1) C none) (h' := (hp.push (PySem.W.kdv_tup [])).push (PySem.HandSPX.excO C hp.objs.size)) kk hsz (exo_ok hget)
  have r2 : Vals [V.ref (hp.objs.size + 1), v] [Value.ref (hp.objs.size + 1), u] := .cons rfl (.cons ru .nil)
  have hq := xi_sp (E := E0) hn q1
  refine wpAny_call (PySem.HandSPX.call_ownK F.excBase_ValueError (fun Y => PySem.HandSPX.refsVE_contains Y bm hbm) (I1.kIn _ _ hC) (PySem.W.looks_findIn I1.kIn iC) (fun self => PySem.W.bind_fn I1.kIn self tI)
    (codeAny_mono (FO.run _ X.stack _ _ ⟨[Value.ref (hp.objs.size + 1)], [("value", u)]⟩ [Value.ref (hp.objs.size + 1), u] _ _ E0 ((hr.mono hk).make C [] [("value", u)]) (I2.env0.make C [] [("value", u)]) (bk _ _ _) r2 hq) fun r s' hq' => ?_))
  cases r with
  | error er => exact False.elim hq'
  | ok fl =>
    cases fl with
    | ret u =>
      obtain ⟨v, H', I3, rv, ev, q3⟩ := I2.after hq'
      subst ev
      exact ⟨rv, ⟨V.ref (hp.objs.size + 1), H', I3, rfl, q3⟩⟩
    | next => exact False.elim hq'
    | brk => exact False.elim hq'
    | cont => exact False.elim hq'
end
theorem kept_own {H : Hp} {a C d : Addr} {v : V} (na : H a = none) (nd : H d = none) (ne : d ≠ a) : Kept (upd (upd H d (exd d [("value", v)])) a (exo a C (some d))) a C [("value", v)] := ⟨d, .inr ⟨upd_same, upd_off ne upd_same⟩⟩
theorem own_mk {P : Program} {w : World} {K : PySem.W.Frag} {h base : Heap} {mg : Str → Option Value} {x : Str} {C f cc cda N : Addr} {nm q qual m file : Str} {bs bm sub : List Value} {sn : List Str} {ab : Bool} {col : Option Bool} {dd cld cdd od an : Option Addr} {k0 k1 k2 k3 k5 : Option Value}
    {cl ccl oc kV doc pm ct : Value} {csl ccs osl : Array (Option Value)} {cvs : Array Value} {tf : Tok} {p0 p1 p2 p3 p4 p5 p6 p7 p8 p9 q0 q1 : Pos} (X : K.In h) (G : h.Ns mainGlobals mg) (hm : mg x = some (.ref C))
    (lC : K.lookup C = some (excClassObj nm q C N bs bm true sn sub ab col dd k0 k1 k2 k3 k5 "ValueError.__new__")) (rC : PySem.HandSPX.refsVE bm = true) (sa : PySem.W.findIn K (.ref C) "__setattr__" = some (some (.builtin "object.__setattr__")))
    (ex : PySem.W.subIn K (.ref C) (.type "BaseException") = some true) (ty : PySem.W.typeIn K (.ref C) = some (.type "type")) (kc : PySem.W.keepIn K (.ref C) = true)
    (ini : PySem.W.findIn K (.ref C) "__init__" = some (some (.ref f))) (tyf : PySem.W.typeIn K (.ref f) = some (.type "function"))
    (l : K.lookup f = some ⟨oc, od, .func (PySem.W.ksFn "__init__" qual (xiArgs q0 q1) (xiBody m p0 p1 p2 p3 p4 p5 p6 p7 p8 p9) xiScope .none kV doc pm an (.ref cda) ct cc), osl⟩)
    (co : PySem.W.codeIn K (.ref cda) qual = true) (cell : K.lookup cc = some ⟨cl, cld, .cell (some (.ref C)), csl⟩) (rec_ : K.lookup cda = some ⟨ccl, cdd, .fields cvs, ccs⟩) (v2 : cvs[2]? = some (.str file tf)) (fl : ((P.main.file : Str) == file) = true)
    (top : (P.main.scope.names.lookup ("super" : Str)).isSome = false) (opq : PySem.W.nsIn K PySem.cStatics "thirdparty.any" = some none) (sup : PySem.W.ks_superIn K C C "__init__" = some (some (.builtin "ValueError.__init__"))) (veb : PySem.W.subIn K (.ref C) (.type "ValueError") = some true)
    (slf : PySem.W.mroIn K C (.ref C) = some true) (val : PySem.W.findIn K (.ref C) "value" = some none) (ms : PySem.W.nsIn K mainGlobals "super" = some none) (he : XiCall qual f cc cda m p0 p1 p2 p3 p4)
    (hb : ∀ us : List Value, us.length = 2 → bindArgs (PySem.W.ksFn "__init__" qual (xiArgs q0 q1) (xiBody m p0 p1 p2 p3 p4 p5 p6 p7 p8 p9) xiScope .none kV doc pm an (.ref cda) ct cc) ⟨us, []⟩ = pure ((["self", "value"] : List Str).zip us))
    (hbk : ∀ u v : Value, bindArgs (PySem.W.ksFn "__init__" qual (xiArgs q0 q1) (xiBody m p0 p1 p2 p3 p4 p5 p6 p7 p8 p9) xiScope .none kV doc pm an (.ref cda) ct cc) ⟨[u], [("value", v)]⟩ = pure ((["self", "value"] : List Str).zip [u, v])) : OwnX P w K mg base 1 x C :=
  ⟨f, _, ⟨⟨nm, q, N, bs, bm, sn, sub, ab, col, dd, k0, k1, k2, k3, k5, lC, rC⟩, sa, ex, ty, kc⟩, ini, tyf,
    ok_xi ⟨⟨nm, q, N, bs, bm, sn, sub, ab, col, dd, k0, k1, k2, k3, k5, lC, rC⟩, sa, ex, ty, kc⟩ ⟨co, ⟨cl, cld, csl, cell⟩, ⟨ccl, cdd, cvs, ccs, tf, rec_, v2⟩, fl, top, opq, sup, veb, slf, val⟩ l (PySem.W.mg_none_of X G ms) he, hm, L2.Binds.all hb, fun _ u v => .of_eq (hbk u v)⟩
/-! ## repr of any plain value -/
@[irreducible] def rReprV (K : PySem.W.Frag) : List V → Hp → VK → Prop := fun xs H Q => ∃ (x : V) (d : PyData), xs = [x] ∧ Dp K H x d ∧ d.showable = true ∧ d.hasDict = false ∧ d.depth ≤ 30 ∧ d.shown.length ≤ sizeLine ∧ Q (.str d.shown) H
theorem call_reprVK {X : Cx} {K : PySem.W.Frag} (hG : X.A.guards = some []) (hu : X.A.units + 64 < cLine) (h : X.K = K := by rfl) : CallR X (.builtin "repr") (rReprV K) := by
  subst h
  intro pins s σ H xs us Q I r h
  unfold rReprV at h
  obtain ⟨x, d, rfl, hd, hs, hn, hdp, hz, q⟩ := h
  obtain ⟨v, rfl, rv⟩ := vals1 r
  have ref : ∀ a : Addr, x = .ref a → wpAny (model X.prog X.w) X.A (call (.builtin "repr") [v]) (EP X pins σ Q) X.xe s := fun a e => by
    subst e
    cases rv
    obtain ⟨as, rd⟩ := Dp.reads I d _ _ hd rfl
    refine repr_of_reads' rd hs (PyData.noDict_hsm hn) hG (by omega) (fun b o e => e) (fun h' t tk hk => ?_) hz
    exact ⟨.str d.shown, H, I.kept hk, ⟨_, rfl⟩, q⟩
  cases hd with
  | non =>
    cases rv
    simp only [PyData.shown] at q
    exact PySem.P.repr_of_none ⟨.str _, H, I.tok _, ⟨_, rfl⟩, q⟩
  | bl b =>
    cases rv
    simp only [PyData.shown] at q
    exact PySem.P.repr_of_bool ⟨.str _, H, I.tok _, ⟨_, rfl⟩, q⟩
  | int i =>
    obtain ⟨t, rfl⟩ := rv
    simp only [PyData.shown] at q
    exact PySem.P.repr_of_int (by simpa [PyData.showable] using hs) ⟨.str _, H, I.tok _, ⟨_, rfl⟩, q⟩
  | str a =>
    obtain ⟨t, rfl⟩ := rv
    simp only [PyData.shown] at q hz
    exact PySem.P.repr_of_str ⟨.str _, H, I.tok _, ⟨_, rfl⟩, q⟩ hz
  | lst h1 h2 => exact ref _ rfl
  | tup h1 h2 => exact ref _ rfl
theorem rReprV_of {K : PySem.W.Frag} {H : Hp} {x : V} {d : PyData} {Q : VK} (hd : Dp K H x d) (h1 : d.showable = true) (h2 : d.hasDict = false) (h3 : d.depth ≤ 30) (h4 : d.shown.length ≤ sizeLine) (q : Q (.str d.shown) H) : rReprV K [x] H Q := by
  unfold rReprV
  exact ⟨x, d, rfl, hd, h1, h2, h3, h4, q⟩
/-! ## text * number -/
def rRepS : R2 := fun x y H Q => ∃ (a : Str) (n : Int), x = .str a ∧ y = .int n ∧ MulOk a n ∧ Q (.str (Txt.mul a n)) H
theorem op_rep_str {X : Cx} : OpR X (binaryOp .Mult) rRepS := by
  intro pins s σ H x y v u Q I r1 r2 h
  obtain ⟨a, n, rfl, rfl, hm, q⟩ := h
  obtain ⟨t, rfl⟩ := r1
  obtain ⟨t', rfl⟩ := r2
  exact SB.mul hm fun t2 k => ⟨.str _, H, I.tok _, ⟨_, rfl⟩, q⟩
/-- a list of ints shown -/
theorem r_reprVI {K : PySem.W.Frag} {H : Hp} {a : Addr} {ns : List Int} {Q : VK} (h1 : SqL K H a (iv ns)) (hl : ns.length ≤ 5000) (hz : ∀ n ∈ ns, n.natAbs.log2 < 1920) (q : Q (.str (dI ns).shown) H) : rReprV K [.ref a] H Q := by
  refine rReprV_of (dp_iv h1) ?_ ?_ ?_ ?_ q
  · simp only [dI, PyData.showable]
    exact show_ints ns hz
  · simp only [dI, PyData.hasDict]
    exact nod_ints ns
  · simp only [dI, PyData.depth, dep_ints]
    decide
  · obtain ⟨e1, e2⟩ := shown_ints_len ns hz
    have e3 := listText_len_le (PyData.shownAll (ns.map .int))
    simp only [dI, PyData.shown]
    rw [sizeLine_eq]
    omega
theorem short_of {d : PyData} (h1 : d.leavesShort 2000 = true) (h2 : d.bulk ≤ 8000) : d.shown.length ≤ sizeLine := by
  have := PyData.shown_le_bulk 2000 (by decide) d h1
  have : (2000 + 2) * d.bulk ≤ (2000 + 2) * 8000 := Nat.mul_le_mul_left _ h2
  rw [sizeLine_eq]
  omega
/-- two texts -/
def dT2 (a b : List Nat) : PyData := .list [.str (SX.S a), .str (SX.S b)]
theorem short_str {a : List Nat} (h : ∀ c ∈ a, c < 16 ^ 8) : (PyData.str (SX.S a)).leavesShort 2000 = true := by
  simp only [PyData.leavesShort, List.all_eq_true, decide_eq_true_eq]
  exact h
theorem r_reprT2 {K : PySem.W.Frag} {H : Hp} {p : Addr} {a b : List Nat} {Q : VK} (h1 : H p = some (.lst [.str (SX.S a), .str (SX.S b)])) (ha : ∀ c ∈ a, c < 16 ^ 8) (hb : ∀ c ∈ b, c < 16 ^ 8) (la : a.length ≤ 3000) (lb : b.length ≤ 3000) (q : Q (.str (dT2 a b).shown) H) : rReprV K [.ref p] H Q := by
  refine rReprV_of (.lst (seqL_of h1) (.cons (.str _) (.cons (.str _) .nil))) ?_ ?_ ?_ ?_ q
  · simp [PyData.showable, PyData.showableAll]
  · simp [PyData.hasDict, PyData.hasDictAll]
  · simp [PyData.depth, PyData.depthAll]
  · refine short_of ?_ ?_
    · simp only [PyData.leavesShort, PyData.leavesShortAll, Bool.and_true, Bool.and_eq_true]
      exact ⟨by simpa [PyData.leavesShort] using short_str ha, by simpa [PyData.leavesShort] using short_str hb⟩
    · simp only [PyData.bulk, PyData.bulkAll]
      have e1 : a.toArray.size = a.length := SX.S_len a
      have e2 : b.toArray.size = b.length := SX.S_len b
      omega
end Sq

/-! ## own tactic words (local) -/
local macro_rules | `(tactic| walk_at "sq hp") => `(tactic| first
  | assumption
  | exact L2.upd_same
  | (refine Sq.Sep.get (by assumption) ?_; walk_at "sq hp")
  | (refine Sq.upd_keep (by assumption) ?_; walk_at "sq hp")
  | (refine Sq.Same.get (by assumption) ?_; walk_at "sq hp")
  | (refine Sq.upd_off (by assumption) ?_; walk_at "sq hp")
  | (refine Sq.upd_off (Ne.symm (by assumption)) ?_; walk_at "sq hp"))
local macro_rules | `(tactic| walk_at "sq sql") => `(tactic| first
  | assumption
  | exact Sq.seqL_of (by walk_at "sq hp")
  | exact L2.Same.seq (by assumption) (by assumption)
  | exact L2.Same.seq (Sq.Sep.same (by assumption)) (by assumption))
local macro_rules | `(tactic| walk_at "sq len") => `(tactic| (
  (try simp only [List.length_map, List.length_append, List.length_cons, List.length_nil, List.length_take, List.length_drop, List.length_reverse]); (try rw [PySem.sizeLine_eq]); omega))
local macro_rules | `(tactic| walk_at "sq side") => `(tactic| first
  | exact rfl
  | exact Nat.zero_le _
  | exact Sq.lit_len (Nat.le_of_ble_eq_true rfl)
  | ((with_reducible show L2.SqL _ _ _ _); walk_at "sq sql")
  | ((with_reducible show L2.SqT _ _ _ _); exact L2.SqT.of (by walk_at "sq hp"))
  | (apply Exists.intro; walk_at "sq sql")
  | ((with_reducible show _ = some _); walk_at "sq hp")
  | ((with_reducible show Sq.Sep _ _ _); assumption)
  | ((with_reducible show L2.ClsV _ _); first | exact .ty _ | exact .own _)
  | ((with_reducible show L2.TyX _ _ _ _); first | exact .base .non | exact .base (.bl _) | exact .base (.int _) | exact .base (.str _) | exact Sq.tyx_lst (by walk_at "sq sql") | exact Sq.tyx_tup (by exact L2.SqT.of (by walk_at "sq hp")) | assumption)
  | ((with_reducible show Sq.CPowW _ _); first | assumption | exact ⟨by decide, by decide, by decide⟩)
  | ((with_reducible show L2.CMulW _ _); first | assumption | exact (by decide +kernel))
  | ((with_reducible show L2.CDivW _ _); first | assumption | exact ⟨by decide, by decide⟩)
  | ((with_reducible show L2.tyV _ "list" _ _); exact Or.inl ⟨rfl, _, by walk_at "sq sql"⟩)
  | ((with_reducible show _ < PySem.sizeLine); walk_at "sq len")
  | ((with_reducible show _ ≤ PySem.sizeLine); walk_at "sq len")
  | ((with_reducible show (0 : Int) < _); first | assumption | decide | omega)
  | decide
  | omega)
local macro_rules | `(tactic| walk_at "sq go") => `(tactic| repeat (first
  | exact rfl
  | (fail_if_success (show ∃ W : Nat → Nat → L2.St → L2.Hp → Prop, _)
     fail_if_success (show ∃ W : Nat → Nat → L2.Hp → Prop, _)
     fail_if_success (show ∃ W : Nat → L2.St → L2.Hp → Prop, _)
     fail_if_success (show ∃ W : Nat → Nat → List L2.V → L2.St → L2.Hp → Prop, _)
     apply Exists.intro)
  | (apply And.intro; focus walk_at "sq side")
  | refine L2.iteT ?_
  | refine L2.iteF ?_))
namespace Sq
open PySem PySem.Spec PyProof.Rows L2
def topS (i : Nat) : Stmt := PySem.Challenge.pw_squeezelists_k25_whole_longer_lists_numb.main.body.getD i (.Pass ⟨0, 0, 0, 0⟩)
structure Bt (mg : Str → Option Value) : Prop where
  «ValueError» : mg "ValueError" = none
  «abs» : mg "abs" = none
  «all» : mg "all" = none
  «enumerate» : mg "enumerate" = none
  «len» : mg "len" = none
  «list» : mg "list" = none
  «max» : mg "max" = none
  «min» : mg "min" = none
  «range» : mg "range" = none
  «repr» : mg "repr" = none
  «sum» : mg "sum" = none
section
variable {P : Program} {w : World} {K : PySem.W.Frag} {mg : Str → Option Value} {base : Heap}

/-! ### numbers of lists, counted and kept -/
abbrev s_needed_reach : Stmt := topS 5
theorem sc_needed_reach : FnScope ["replacement", "length"] ["replacement", "length"] (defScope s_needed_reach) := ⟨rfl, rfl, rfl, by decide +kernel, rfl, by decide +kernel, by decide +kernel⟩

def spNeed : Sp := fun vs H Q _ => ∃ k L : Int, vs = [.int k, .int L] ∧ Keep (2 ≤ k ∧ k ≤ 60) ∧ Q (.int (need k L)) H
theorem cal_needed (D : DefAt K mg "needed_reach" s_needed_reach ["replacement", "length"]) (B : Bt mg) : Cal P w K mg base 1 "needed_reach" spNeed [] := by
  refine D.cal sc_needed_reach (fun vs H Q E h => ?_) (fun f cdv A outer s H vs Q E hr h => ?_)
  · obtain ⟨k, L, rfl, _⟩ := h
    rfl
  · obtain ⟨k, L, rfl, ⟨k2, k60⟩, q⟩ := h
    refine ⟨_, (pss_cons (ps_if (pt_cmpR op_gt (pv 0) (pe_op op_add (pv 1) pe_int) (nomark _)) (pss_one (ps_ret (pv 1))) pss_nil)
  (pss_one (ps_ret (pe_callB (call_max2 rfl) (by rfl) B.max (by decide +kernel) (pa_cons (pe_op op_sub (pv 0) pe_int) (pa_cons (pe_op op_sub (pe_op op_add (pe_op op_fdivW (pe_op op_add (pe_op op_add (pv 1) pe_int) (pv 0)) (pv 0)) (pv 0)) pe_int) pa_nil)))))), ?_⟩
    have c : CDivW (L + 1 + k) k := div_ok (by omega) (Int.lt_of_le_of_lt k60 (by decide))
    walk_at "sq go"
    refine ifD (fun h1 => ?_) (fun h1 => ?_)
    · walk_at "sq go"
      unfold need at q
      rw [if_pos h1] at q
      exact q
    · walk_at "sq go"
      unfold need at q
      rw [if_neg h1] at q
      exact q
abbrev s_greatest_reaches : Stmt := topS 6
theorem sc_greatest_reaches : FnScope ["steps", "greatest", "found", "step", "best"] ["steps", "greatest"] (defScope s_greatest_reaches) := ⟨rfl, rfl, rfl, by decide +kernel, rfl, by decide +kernel, by decide +kernel⟩

def spGrs : Sp := fun vs H Q _ => ∃ (n : Nat) (g : Int), vs = [.int (n : Nat), .int g] ∧ Keep (n ≤ 100 ∧ 2 ≤ g ∧ g ≤ 60) ∧ ∀ p, H p = none → Q (.ref p) (upd H p (.lst (iv (grs g n))))
theorem cal_greatest (D : DefAt K mg "greatest_reaches" s_greatest_reaches ["steps", "greatest"]) (B : Bt mg) : Cal P w K mg base 1 "greatest_reaches" spGrs [] := by
  refine D.cal sc_greatest_reaches (fun vs H Q E h => ?_) (fun f cdv A outer s H vs Q E hr h => ?_)
  · obtain ⟨n, g, rfl, _⟩ := h
    rfl
  · obtain ⟨n, g, rfl, ⟨n100, g2, g60⟩, q⟩ := h
    refine ⟨_, (pss_cons (ps_set (i := 2) sc_greatest_reaches.nd rfl (Or.inl rfl) (pe_lst (pa_cons pe_int pa_nil)))
  (pss_cons (ps_for PassesOwn.never rfl (pi_range1 (by rfl) B.range (pa_cons (pv 0) pa_nil)) (pg_name (i := 3) sc_greatest_reaches.nd rfl (Or.inl rfl))
   (pss_cons (ps_set (i := 4) sc_greatest_reaches.nd rfl (Or.inl rfl) (pe_callB (call_min2 rfl) (by rfl) B.min (by decide +kernel) (pa_cons (pv 1) (pa_cons (pe_op op_fdivW (pe_op op_add (pe_ix (ix_listK (K := K)) (pv 2) (pe_un un_neg pe_int) (fun _ _ => rfl)) pe_int) pe_int) pa_nil))))
  (pss_one (ps_expr (pe_bm PySem.F.plainAttrs_list PySem.F.slot_list_append PySem.F.type_list_append mt_append (pv 2) (pa_cons (pe_op op_sub (pe_op op_mulW (pe_op op_sub (pe_op op_add (pe_ix (ix_listK (K := K)) (pv 2) (pe_un un_neg pe_int) (fun _ _ => rfl)) pe_int) (pv 4)) (pv 4)) pe_int) pa_nil))))))
  (pss_one (ps_ret (pv 2))))), ?_⟩
    walk_at "sq go"
    intro p np
    walk_at "sq go"
    refine for_range (lo := 0) (n := n) (fun i σ H' => Keep (∃ y z, σ = [some (.int (n : Nat)), some (.int g), some (.ref p), y, z] ∧ H' = upd H p (.lst (iv (grs g i))))) ⟨none, none, rfl, rfl⟩ (fun i σ H' hi h => ?_) (fun σ H' h => ?_)
    · obtain ⟨y, z, rfl, rfl⟩ := h.o
      have at1 : atI (iv (grs g i)) (-1) = some (.int (gr g i)) := by
        unfold atI ixN
        rw [iv_len, grs_len, if_neg (by decide), if_pos (by omega)]
        show (iv (grs g i))[(-1 + ((i + 1 : Nat) : Int)).toNat]? = _
        rw [show (-1 + ((i + 1 : Nat) : Int)).toNat = i by omega, List.getElem?_map, grs_get (Nat.le_refl _)]
        rfl
      have hp : upd H p (.lst (iv (grs g i))) p = some (.lst (iv (grs g i))) := upd_same
      have r1 := gr_pos g2 g60 i
      have rs := gr_sm g2 g60 (n := i) (by omega)
      have st := gr_step r1 g2 g60 rfl
      have wm : CMulW (gr g i + 3 - (if (gr g i + 3) / 2 < g then (gr g i + 3) / 2 else g)) (if (gr g i + 3) / 2 < g then (gr g i + 3) / 2 else g) :=
        Sm.wide (a := 1001) (b := 10) (Sm.le (j := gr g i + 3) (Sm.add rs (Sm.of (by decide) (by decide))) (by omega) (by omega)) (by unfold Sm; omega) (by decide) (by decide) (by decide)
      have lp : (iv (grs g i)).length < sizeLine := by
        rw [iv_len, grs_len]
        exact small1000 (by omega)
      walk_at "sq go"
      refine ⟨_, _, rfl, ?_⟩
      rw [upd_upd, iv_app]
      exact congrArg (fun z => upd H p (.lst (iv z))) (grs_succ g i)
    · obtain ⟨y, z, rfl, rfl⟩ := h.o
      walk_at "sq go"
      exact q p np
theorem But.offC {o a : Addr} {H H' : Hp} {u : HO} (b : But o H H') (n : H a = none) : But o H (upd H' a u) := fun c x k e => by
  rw [upd_ne fun z => by
    rw [z, n] at e
    cases e]
  exact b c x k e
theorem But.freeC {o t : Addr} {H H' : Hp} {u : HO} (b : But o H H') (e : H' o = some u) (n : H' t = none) : H t = none := by
  cases q : H t with
  | none => rfl
  | some v =>
    rw [b t v (fun z => by rw [z, e] at n; cases n) q] at n
    cases n
def cf (g : Int) (l d : Addr) : List (Str × V) := [("greatest", .int g), ("reaches", .ref l), ("known", .ref d)]
theorem cf_g (g : Int) (l d : Addr) : (cf g l d).lookup ("greatest" : Str) = some (.int g) := rfl
theorem cf_r (g : Int) (l d : Addr) : (cf g l d).lookup ("reaches" : Str) = some (.ref l) := rfl
theorem cf_k (g : Int) (l d : Addr) : (cf g l d).lookup ("known" : Str) = some (.ref d) := rfl
theorem cf_1 (g : Int) (l d : Addr) : (cf g l d).lookup ("count" : Str) = none := rfl
theorem cf_2 (g : Int) (l d : Addr) : (cf g l d).lookup ("firsts" : Str) = none := rfl
theorem cf_3 (g : Int) (l d : Addr) : (cf g l d).lookup ("count_behind" : Str) = none := rfl
theorem cf_new (g : Int) (l d : Addr) : putF "known" (.ref d) (putF "reaches" (.ref l) (putF "greatest" (.int g) [])) = cf g l d := rfl
structure Cho (K : PySem.W.Frag) (C : Addr) : Prop where
  cl : Cls K C
  nG : NoAttr K C "greatest"
  nR : NoAttr K C "reaches"
  nK : NoAttr K C "known"
/-- an object that counts, at o -/
structure Ch1 (C o dx l d : Addr) (g : Int) (N : Nat) (H : Hp) (kvs : List (List Key × V)) : Prop where
  ho : H o = some (.ins C dx (cf g l d))
  hl : H l = some (.lst (iv (grs g N)))
  hd : H d = some (.dT kvs)
  me : Memo g kvs
theorem Ch1.same {C o dx l d : Addr} {g : Int} {N : Nat} {H H' : Hp} {kvs : List (List Key × V)} (h : Ch1 C o dx l d g N H kvs) (s : Same H H') : Ch1 C o dx l d g N H' kvs := ⟨s _ _ h.ho, s _ _ h.hl, s _ _ h.hd, h.me⟩
theorem Ch1.but {C o dx l d : Addr} {g : Int} {N : Nat} {H H' : Hp} {kvs kvs' : List (List Key × V)} (h : Ch1 C o dx l d g N H kvs) (s : But d H H') (e : H' d = some (.dT kvs')) (m : Memo g kvs') : Ch1 C o dx l d g N H' kvs' := by
  refine ⟨s _ _ (fun z => ?_) h.ho, s _ _ (fun z => ?_) h.hl, e, m⟩
  · have a := h.ho
    rw [z, h.hd] at a
    cases a
  · have a := h.hl
    rw [z, h.hd] at a
    cases a
theorem Ch1.put {C o dx l d a : Addr} {g : Int} {N : Nat} {H : Hp} {kvs : List (List Key × V)} {u : HO} (h : Ch1 C o dx l d g N H kvs) (no : a ≠ o) (nl : a ≠ l) (nd : a ≠ d) : Ch1 C o dx l d g N (upd H a u) kvs :=
  ⟨by rw [upd_ne (Ne.symm no)]; exact h.ho, by rw [upd_ne (Ne.symm nl)]; exact h.hl, by rw [upd_ne (Ne.symm nd)]; exact h.hd, h.me⟩
theorem Ch1.free {C o dx l d a : Addr} {g : Int} {N : Nat} {H : Hp} {kvs : List (List Key × V)} (h : Ch1 C o dx l d g N H kvs) (n : H a = none) : a ≠ o ∧ a ≠ l ∧ a ≠ d :=
  ⟨(fun z => by rw [z, h.ho] at n; cases n), (fun z => by rw [z, h.hl] at n; cases n), (fun z => by rw [z, h.hd] at n; cases n)⟩
local macro_rules | `(tactic| walk_at "sq side") => `(tactic| first
  | ((with_reducible show List.lookup _ _ = _); first | exact cf_g _ _ _ | exact cf_r _ _ _ | exact cf_k _ _ _ | exact cf_1 _ _ _ | exact cf_2 _ _ _ | exact cf_3 _ _ _)
  | ((with_reducible show Cls _ _); assumption)
  | ((with_reducible show NoAttr _ _ _); assumption)
  | ((with_reducible show RgOk _ _); exact RgOk.of_le (by omega) (by omega) (by omega) (by omega))
  | ((with_reducible show List.length _ < 1000); exact Nat.le_of_ble_eq_true rfl))
abbrev s_Choices___init__ : Stmt := inClass (topS 7) 0
theorem sc_Choices___init__ : FnScope ["self", "steps", "greatest"] ["self", "steps", "greatest"] (defScope s_Choices___init__) := ⟨rfl, rfl, rfl, by decide +kernel, rfl, by decide +kernel, by decide +kernel⟩

def spCInit (C : Addr) : Sp := fun vs H Q _ => ∃ (x dx : Addr) (n : Nat) (g : Int), vs = [.ref x, .int (n : Nat), .int g] ∧ H x = some (.ins C dx []) ∧ Keep (n ≤ 8 ∧ 2 ≤ g ∧ g ≤ 60) ∧
  ∀ l d H', But x H H' → H d = none → Ch1 C x dx l d g n H' [] → Q .non H'
theorem mak_choices {C : Addr} (D : IniAt K mg C "Choices" "Choices.__init__" s_Choices___init__ ["self", "steps", "greatest"]) (hi : Cho K C) (B : Bt mg) (c_greatest_reaches : Cal P w K mg base 1 "greatest_reaches" spGrs []) :
    Mak P w K mg base 2 "Choices" C (spCInit C) := by
  refine D.mak sc_Choices___init__ (fun vs H Q E h => ?_) (fun f cdv A outer s H vs Q E hr h => ?_)
  · obtain ⟨x, dx, n, g, rfl, _⟩ := h
    rfl
  · obtain ⟨x, dx, n, g, rfl, hx, ⟨n8, g2, g60⟩, q⟩ := h
    obtain ⟨cl, nG, nR, nK⟩ := hi
    refine ⟨_, (pss_cons (ps_fldK (K := K) (pv 0) (pv 2) rfl)
  (pss_cons (ps_fldK (K := K) (pv 0) (pe_c c_greatest_reaches hr (by first | decide | omega) (by rfl) (pa_cons (pv 1) (pa_cons (pv 2) pa_nil))) rfl)
  (pss_one (ps_fldK (K := K) (pv 0) pe_dnewT rfl)))), ?_⟩
    walk_at "sq go"
    refine ⟨⟨by omega, g2, g60⟩, fun l nl => ?_⟩
    have nlx : l ≠ x := fun e => by
      rw [e, upd_same] at nl
      cases nl
    have hx1 := upd_keep (o := .lst (iv (grs g n))) nl (upd_same (H := H) (a := x) (o := .ins C dx (putF "greatest" (.int g) [])))
    walk_at "sq go"
    intro d nd
    have ndx : d ≠ x := fun e => by
      rw [e, upd_same] at nd
      cases nd
    have ndl : d ≠ l := fun e => by
      rw [e, upd_ne nlx, upd_same] at nd
      cases nd
    have hx2 := upd_keep (o := .dT []) nd (upd_same (H := (upd (upd H x (.ins C dx (putF "greatest" (.int g) []))) l (.lst (iv (grs g n))))) (a := x) (o := .ins C dx (putF "reaches" (.ref l) (putF "greatest" (.int g) []))))
    walk_at "sq go"
    have gl : H l = none := by
      rw [upd_ne nlx] at nl
      exact nl
    have gd : H d = none := by
      rw [upd_ne ndx, upd_ne ndl, upd_ne ndx] at nd
      exact nd
    refine q l d _ (((But.put.trans (But.of (same_new (by rw [upd_ne nlx]; exact gl)))).trans But.put).trans ((But.of (same_new nd)).trans But.put)) gd ⟨?_, ?_, ?_, memo_nil g⟩
    · rw [upd_same, cf_new]
    · rw [upd_ne nlx, upd_ne (Ne.symm ndl), upd_ne nlx, upd_same]
    · rw [upd_ne ndx, upd_same]
abbrev s_Choices_firsts : Stmt := inClass (topS 7) 2
theorem sc_Choices_firsts : FnScope ["self"] ["self"] (defScope s_Choices_firsts) := ⟨rfl, rfl, rfl, by decide +kernel, rfl, by decide +kernel, by decide +kernel⟩

def spFirsts (C : Addr) : Sp := fun vs H Q _ => ∃ (o dx l d : Addr) (g : Int), vs = [.ref o] ∧ H o = some (.ins C dx (cf g l d)) ∧ Keep (2 ≤ g ∧ g ≤ 60) ∧ ∀ p, H p = none → Q (.ref p) (upd H p (.lst (rgV 2 (g + 1))))
theorem met_firsts {C : Addr} (D : MetAt K C "firsts" "Choices.firsts" s_Choices_firsts ["self"]) (hi : Cho K C) (B : Bt mg) : Met P w K mg base 1 C "firsts" (spFirsts C) := by
  refine D.met hi.cl sc_Choices_firsts (fun vs H Q E h => ?_) (fun f cdv A outer s H vs Q E hr h => ?_)
  · obtain ⟨o, dx, l, d, g, rfl, _⟩ := h
    rfl
  · obtain ⟨o, dx, l, d, g, rfl, ho, ⟨g2, g60⟩, q⟩ := h
    obtain ⟨cl, nG, nR, nK⟩ := hi
    refine ⟨_, (pss_one (ps_ret (pe_listRg rfl (by rfl) B.list (prg_2 (by rfl) B.range pe_int (pe_op op_add (pe_fldK (K := K) (pv 0)) pe_int))))), ?_⟩
    walk_at "sq go"
    exact q
/-- a promise of count for n steps -/
def spCount (C : Addr) (M : Nat) : Sp := fun vs H Q _ => ∃ (n : Nat) (o dx l d : Addr) (g : Int) (N : Nat) (L : Nat) (kvs : List (List Key × V)), vs = [.ref o, .int (n : Nat), .int (L : Nat)] ∧ Ch1 C o dx l d g N H kvs ∧ Keep (n ≤ M ∧ n ≤ N ∧ N ≤ 8 ∧ 2 ≤ g ∧ g ≤ 60 ∧ L ≤ 20000) ∧
  ∀ H' kvs', But d H H' → Ch1 C o dx l d g N H' kvs' → Q (.int (cntC g n L)) H'
def spBehind (C : Addr) (M : Nat) : Sp := fun vs H Q _ => ∃ (n : Nat) (o dx l d : Addr) (g : Int) (N : Nat) (k : Int) (L : Nat) (kvs : List (List Key × V)), vs = [.ref o, .int k, .int ((n + 1 : Nat) : Nat), .int (L : Nat)] ∧ Ch1 C o dx l d g N H kvs ∧ Keep (n + 1 ≤ M ∧ n ≤ N ∧ N ≤ 8 ∧ 2 ≤ g ∧ g ≤ 60 ∧ L ≤ 20000 ∧ 2 ≤ k ∧ k ≤ 60) ∧
  ∀ H' kvs', But d H H' → Ch1 C o dx l d g N H' kvs' → Q (.int (cntC g n (need k L))) H'
abbrev s_Choices_count_behind : Stmt := inClass (topS 7) 3
theorem sc_Choices_count_behind : FnScope ["self", "first", "steps", "length"] ["self", "first", "steps", "length"] (defScope s_Choices_count_behind) := ⟨rfl, rfl, rfl, by decide +kernel, rfl, by decide +kernel, by decide +kernel⟩

theorem met_behind {C : Addr} {M j : Nat} (D : MetAt K C "count_behind" "Choices.count_behind" s_Choices_count_behind ["self", "first", "steps", "length"]) (hi : Cho K C) (B : Bt mg) (c_needed_reach : Cal P w K mg base 1 "needed_reach" spNeed []) (h1 : 1 ≤ j)
    (c_count : Met P w K mg base j C "count" (spCount C M)) : Met P w K mg base (j + 1) C "count_behind" (spBehind C (M + 1)) := by
  refine D.met hi.cl sc_Choices_count_behind (fun vs H Q E h => ?_) (fun f cdv A outer s H vs Q E hr h => ?_)
  · obtain ⟨n, o, dx, l, d, g, N, k, L, kvs, rfl, _⟩ := h
    rfl
  · obtain ⟨n, o, dx, l, d, g, N, k, L, kvs, rfl, ch, ⟨nM, nN, N8, g2, g60, l2, k2, k60⟩, q⟩ := h
    have ho := ch.ho
    refine ⟨_, (pss_one (ps_ret (pe_m c_count hr (by first | decide | omega) (pv 0) (pa_cons (pe_op op_sub (pv 2) pe_int) (pa_cons (pe_c c_needed_reach hr (by first | decide | omega) (by rfl) (pa_cons (pv 1) (pa_cons (pv 3) pa_nil))) pa_nil))))), ?_⟩
    have e1 : ((n + 1 : Nat) : Int) - 1 = (n : Nat) := by omega
    obtain ⟨b0, b1⟩ := need_bd (k := k) (L := L) k2 (by omega)
    obtain ⟨m, em⟩ := Int.eq_ofNat_of_zero_le b0
    walk_at "sq go"
    refine ⟨⟨k2, k60⟩, ?_⟩
    rw [em]
    rw [em] at q
    walk_at "sq go"
    refine ⟨?_, ch, ⟨Nat.le_of_succ_le_succ nM, nN, N8, g2, g60, by omega⟩, fun H1 kvs1 b1 c1 => q H1 kvs1 b1 c1⟩
    show [V.ref o, V.int (((n + 1 : Nat) : Int) - 1), V.int (m : Nat)] = [V.ref o, V.int (n : Nat), V.int (m : Nat)]
    rw [e1]
abbrev s_Choices_count : Stmt := inClass (topS 7) 1
theorem sc_Choices_count : FnScope ["self", "steps", "length", "first"] ["self", "steps", "length"] (defScope s_Choices_count) := ⟨rfl, rfl, rfl, by decide +kernel, rfl, by decide +kernel, by decide +kernel⟩

theorem met_count0 {C : Addr} (D : MetAt K C "count" "Choices.count" s_Choices_count ["self", "steps", "length"]) (hi : Cho K C) (B : Bt mg) (M j : Nat) (h1 : 1 ≤ j) (c_firsts : Met P w K mg base 1 C "firsts" (spFirsts C))
    (c_count_behind : Met P w K mg base j C "count_behind" (spBehind C M)) : Met P w K mg base (j + 1) C "count" (spCount C M) := by
  refine D.met hi.cl sc_Choices_count (fun vs H Q E h => ?_) (fun f cdv A outer s H vs Q E hr h => ?_)
  · obtain ⟨n, o, dx, l, d, g, N, L, kvs, rfl, _⟩ := h
    rfl
  · obtain ⟨n, o, dx, l, d, g, N, L, kvs, rfl, ch, ⟨nM, nN, N8, g2, g60, l2⟩, q⟩ := h
    have ho := ch.ho
    have hl := ch.hl
    have hd := ch.hd
    obtain ⟨cl, nG, nR, nK⟩ := hi
    refine ⟨_, (pss_cons (ps_if (pt_cmpR op_gt (pv 2) (pe_ix (ix_listK (K := K)) (pe_fldK (K := K) (pv 0)) (pv 1) (fun _ _ => rfl)) (nomark _)) (pss_one (ps_ret pe_int)) pss_nil)
  (pss_cons (ps_if (pt_cmpR op_eq (pv 1) pe_int (nomark _)) (pss_one (ps_ret pe_int)) pss_nil)
  (pss_cons (ps_if (pt_cmp (pc_dnotin (hu_of hr) (pe_tup (pa_cons (pv 1) (pa_cons (pv 2) pa_nil))) (pe_fldK (K := K) (pv 0))) (by rfl)) (pss_one (ps_dput (hu_of hr) (pe_fldK (K := K) (pv 0)) (pe_tup (pa_cons (pv 1) (pa_cons (pv 2) pa_nil))) (pe_callB (cr_sumK (K := K) rfl) (by rfl) B.sum (by decide +kernel) (pa_cons (pe_lc (own := [("first", 3)]) (g := gName 3) (by rfl) sc_Choices_count.nd (pi_listK (K := K) (pe_m0 c_firsts hr (by first | decide | omega) (pv 0))) (blkOk_by (own := [("first", 3)]) (N := ["self", "steps", "length", "first"]) (sc := defScope s_Choices_count) (by decide +kernel)) (fun _ _ _ _ _ => (pg_name (i := 3) sc_Choices_count.nd rfl (Or.inl rfl))) (fun _ _ _ _ _ => pts_nil) (fun _ _ _ _ _ => (pe_m c_count_behind hr (by first | decide | omega) (pv 0) (pa_cons (pv 3) (pa_cons (pv 1) (pa_cons (pv 2) pa_nil)))))) pa_nil)) rfl)) pss_nil)
  (pss_one (ps_ret (pe_dget (hu_of hr) (pe_fldK (K := K) (pv 0)) (pe_tup (pa_cons (pv 1) (pa_cons (pv 2) pa_nil))) (fun _ _ => rfl))))))), ?_⟩
    have ar : atI (iv (grs g N)) ((n : Nat) : Int) = some (.int (gr g n)) := atI_nat (by rw [List.getElem?_map, grs_get nN]; rfl)
    walk_at "sq go"
    refine ifD (fun c => ?_) (fun c => ?_)
    · walk_at "sq go"
      have e : cntC g n L = 0 := by
        cases n with
        | zero => exact if_pos c
        | succ n => exact if_pos c
      rw [e] at q
      exact q H kvs (.refl _ _) ch
    · walk_at "sq go"
      cases n with
      | zero =>
        refine ifI (fun _ => ?_) (fun z => absurd rfl z)
        walk_at "sq go"
        have e : cntC g 0 L = 1 := if_neg c
        rw [e] at q
        exact q H kvs (.refl _ _) ch
      | succ n =>
        refine ifI (fun z => absurd z (by omega)) (fun _ => ?_)
        walk_at "sq go"
        intro T nT
        have ch1 := ch.same (same_new (o := .tup [.int ((n + 1 : Nat) : Int), .int ((L : Nat) : Int)]) nT)
        have ho1 := ch1.ho
        have hd1 := ch1.hd
        have hl1 := ch1.hl
        have dT : ∀ {G : Hp} {a : Addr} {u : HO}, G d = some (.dT kvs) → G a = none → a ≠ d := fun h1 h2 z => by
          rw [z, h1] at h2
          cases h2
        walk_at "sq go"
        refine ⟨DGet.t (k := keyC ((n + 1 : Nat) : Int) ((L : Nat) : Int)) hd1 upd_same, ?_⟩
        cases hv : valV kvs (keyC ((n + 1 : Nat) : Int) ((L : Nat) : Int)) with
        | some v =>
          have ev := ch.me.get hv
          walk_at "sq go"
          intro T2 nT2
          have ch2 := ch1.same (same_new (o := .tup [.int ((n + 1 : Nat) : Int), .int ((L : Nat) : Int)]) nT2)
          have ho2 := ch2.ho
          have hd2 := ch2.hd
          walk_at "sq go"
          refine ⟨by rw [← hv]; exact DGet.t (k := keyC ((n + 1 : Nat) : Int) ((L : Nat) : Int)) hd2 upd_same, ?_⟩
          rw [ev]
          exact q _ kvs ((But.of (same_new nT)).trans (But.of (same_new nT2))) ch2
        | none =>
          walk_at "sq go"
          refine ⟨⟨g2, g60⟩, fun p np => ?_⟩
          have ch2 := ch1.same (same_new (o := .lst (rgV 2 (g + 1))) np)
          have b2 : But d H (upd (upd H T (.tup [.int ((n + 1 : Nat) : Int), .int ((L : Nat) : Int)])) p (.lst (rgV 2 (g + 1)))) := (But.of (same_new nT)).trans (But.of (same_new np))
          have hp2 : upd (upd H T (.tup [.int ((n + 1 : Nat) : Int), .int ((L : Nat) : Int)])) p (.lst (rgV 2 (g + 1))) p = some (.lst (rgV 2 (g + 1))) := upd_same
          generalize upd (upd H T (.tup [.int ((n + 1 : Nat) : Int), .int ((L : Nat) : Int)])) p (.lst (rgV 2 (g + 1))) = H2 at ch2 b2 hp2
          walk_at "sq go"
          intro D1 nD1
          have ch3 := ch2.same (same_new (o := .lst []) nD1)
          have gD1 : H D1 = none := b2.freeC ch2.hd nD1
          have fD := ch2.free nD1
          have npD : p ≠ D1 := fun z => by
            rw [← z, hp2] at nD1
            cases nD1
          have hp3 := upd_keep (o := .lst []) nD1 hp2
          have lrg : (rgV 2 (g + 1)).length = (g - 1).toNat := by
            rw [rgV_length]
            congr 1
            omega
          refine lc_list (K := K) (a := p) (xs := rgV 2 (g + 1)) (fun i H' => Keep (∃ kvs', But d H H' ∧ Ch1 C o dx l d g N H' kvs' ∧ H' p = some (.lst (rgV 2 (g + 1))) ∧ H' D1 = some (.lst (iv ((List.range i).map fun j => cntC g n (need (2 + (j : Nat)) L)))))) ⟨kvs, b2.trans (But.of (same_new nD1)), ch3, hp3, upd_same⟩ (fun i H' _ h => ?_) (fun i x H' hx h => ?_) (fun H' h => ?_)
          · obtain ⟨kvs', _, _, hp, _⟩ := h.o
            exact seqL_of hp
          · obtain ⟨kvs', bH, chH, hpH, hDH⟩ := h.o
            have li := (List.getElem?_eq_some_iff.mp hx).1
            rw [lrg] at li
            obtain rfl : x = .int (2 + ((i : Nat) : Int)) := by
              unfold rgV at hx
              rw [List.getElem?_map, List.getElem?_range (by omega)] at hx
              exact (Option.some.inj hx).symm
            have nDd : D1 ≠ d := fun z => by
              rw [z, chH.hd] at hDH
              cases hDH
            have npd : p ≠ d := fun z => by
              rw [z, chH.hd] at hpH
              cases hpH
            have hoH := chH.ho
            walk_at "sq go"
            refine ⟨⟨nM, by omega, N8, g2, g60, l2, by omega, by omega⟩, fun H4 kvs4 b4 ch4 => ?_⟩
            have hD4 := b4 _ _ nDd hDH
            have hp4 := b4 _ _ npd hpH
            have lacc : (iv ((List.range i).map fun j => cntC g n (need (2 + (j : Nat)) L))).length < sizeLine := by
              rw [iv_len, List.length_map, List.length_range]
              exact small1000 (by omega)
            walk_at "sq go"
            refine ⟨kvs4, (bH.trans b4).offC gD1, ch4.put fD.1 fD.2.1 fD.2.2, upd_off npD hp4, ?_⟩
            · rw [upd_same, List.range_succ, List.map_append]
              exact congrArg (fun z => some (HO.lst z)) (iv_app _ _)
          · obtain ⟨kvs', bH, chH, hpH, hDH⟩ := h.o
            rw [lrg] at hDH
            have hoH := chH.ho
            walk_at "sq go"
            intro T3 nT3
            have ch4 := chH.same (same_new (o := .tup [.int ((n + 1 : Nat) : Int), .int ((L : Nat) : Int)]) nT3)
            have ho4 := ch4.ho
            have hd4 := ch4.hd
            have esum : ((List.range (g - 1).toNat).map fun j => cntC g n (need (2 + (j : Nat)) L)).sum = cntC g (n + 1) L := (if_neg c).symm
            have mp := ch4.me.put (n := n + 1) (L := L) (by omega) l2
            walk_at "sq go"
            rw [esum]
            refine ⟨DPut.t (k := keyC ((n + 1 : Nat) : Int) ((L : Nat) : Int)) hd4 upd_same ch4.me.len, ?_⟩
            have ch5 : Ch1 C o dx l d g N (upd (upd H' T3 (.tup [.int ((n + 1 : Nat) : Int), .int ((L : Nat) : Int)])) d (.dT (putK kvs' (keyC ((n + 1 : Nat) : Int) ((L : Nat) : Int)) (.int (cntC g (n + 1) L))))) (putK kvs' (keyC ((n + 1 : Nat) : Int) ((L : Nat) : Int)) (.int (cntC g (n + 1) L))) := ch4.but But.put upd_same mp.1
            have b5 := (bH.trans (But.of (same_new (o := .tup [.int ((n + 1 : Nat) : Int), .int ((L : Nat) : Int)]) nT3))).trans (But.put (u := .dT (putK kvs' (keyC ((n + 1 : Nat) : Int) ((L : Nat) : Int)) (.int (cntC g (n + 1) L)))))
            generalize upd (upd H' T3 (.tup [.int ((n + 1 : Nat) : Int), .int ((L : Nat) : Int)])) d (.dT (putK kvs' (keyC ((n + 1 : Nat) : Int) ((L : Nat) : Int)) (.int (cntC g (n + 1) L)))) = H5 at ch5 b5
            have ho5 := ch5.ho
            walk_at "sq go"
            intro T4 nT4
            have ch6 := ch5.same (same_new (o := .tup [.int ((n + 1 : Nat) : Int), .int ((L : Nat) : Int)]) nT4)
            have ho6 := ch6.ho
            have hd6 := ch6.hd
            walk_at "sq go"
            refine ⟨by rw [← mp.2]; exact DGet.t (k := keyC ((n + 1 : Nat) : Int) ((L : Nat) : Int)) hd6 upd_same, ?_⟩
            exact q _ _ (b5.trans (But.of (same_new nT4))) ch6
/-- count for each number of steps -/
theorem met_count {C : Addr} (D : MetAt K C "count" "Choices.count" s_Choices_count ["self", "steps", "length"]) (D2 : MetAt K C "count_behind" "Choices.count_behind" s_Choices_count_behind ["self", "first", "steps", "length"]) (hi : Cho K C) (B : Bt mg) (c1 : Cal P w K mg base 1 "needed_reach" spNeed []) (c2 : Met P w K mg base 1 C "firsts" (spFirsts C)) : ∀ M : Nat, Met P w K mg base (2 * M + 2) C "count" (spCount C M)
  | 0 => met_count0 D hi B 0 1 (by decide) c2 (D2.met hi.cl sc_Choices_count_behind (fun vs H Q E h => by
      obtain ⟨n, o, dx, l, d, g, N, k, L, kvs, rfl, _⟩ := h
      rfl) (fun _ _ _ _ _ _ _ _ _ _ h => by
      obtain ⟨n, o, dx, l, d, g, N, k, L, kvs, rfl, ch, ⟨nM, _⟩, _⟩ := h
      exact absurd nM (by omega)))
  | M + 1 => met_count0 D hi B (M + 1) (2 * M + 3) (by omega) c2 (met_behind D2 hi B c1 (by omega) (met_count D D2 hi B c1 c2 M))
abbrev s_check_arguments : Stmt := topS 8
theorem sc_check_arguments : FnScope ["steps", "greatest", "length"] ["steps", "greatest", "length"] (defScope s_check_arguments) := ⟨rfl, rfl, rfl, by decide +kernel, rfl, by decide +kernel, by decide +kernel⟩

def spArgs (CN : Addr) : Sp := fun vs H Q E => ∃ a g L : Int, vs = [.int a, .int g, .int L] ∧ Keep ((0 ≤ a → 2 ≤ g → 0 ≤ L → Q .non H) ∧ (∀ v : Int, (a < 0 ∧ v = a ∨ 0 ≤ a ∧ g < 2 ∧ v = g ∨ 0 ≤ a ∧ 2 ≤ g ∧ L < 0 ∧ v = L) → ∀ d H', Same H H' → H' d = some (.xd [("value", .int v)]) → E (.ref CN) (some d) H'))
theorem cal_args {CN : Addr} (D : DefAt K mg "check_arguments" s_check_arguments ["steps", "greatest", "length"]) (B : Bt mg) (c_InvalidNumber : Rai P w K mg base 1 "InvalidNumber" CN) : CalX P w K mg base 3 "check_arguments" (spArgs CN) := by
  refine D.calX sc_check_arguments (fun vs H Q E h => ?_) (fun f cdv A outer s H vs Q E hr h tk => ?_)
  · obtain ⟨a, g, L, rfl, _⟩ := h
    rfl
  · obtain ⟨a, g, L, rfl, ⟨q, qe⟩⟩ := h
    refine ⟨_, (pss_cons (ps_if (pt_cmpR op_lt (pv 0) pe_int (nomark _)) (pss_one (ps_rx c_InvalidNumber hr (by first | decide | omega) (by rfl) tk (pv 0))) pss_nil)
  (pss_cons (ps_if (pt_cmpR op_lt (pv 1) pe_int (nomark _)) (pss_one (ps_rx c_InvalidNumber hr (by first | decide | omega) (by rfl) tk (pv 1))) pss_nil)
  (pss_one (ps_if (pt_cmpR op_lt (pv 2) pe_int (nomark _)) (pss_one (ps_rx c_InvalidNumber hr (by first | decide | omega) (by rfl) tk (pv 2))) pss_nil)))), ?_⟩
    walk_at "sq go"
    refine ifD (fun c => ?_) (fun c => ?_)
    · walk_at "sq go"
      intro d nd
      exact qe a (.inl ⟨c, rfl⟩) d _ (same_new nd) upd_same
    · walk_at "sq go"
      refine ifD (fun c2 => ?_) (fun c2 => ?_)
      · walk_at "sq go"
        intro d nd
        exact qe g (.inr (.inl ⟨by omega, c2, rfl⟩)) d _ (same_new nd) upd_same
      · walk_at "sq go"
        refine ifD (fun c3 => ?_) (fun c3 => ?_)
        · walk_at "sq go"
          intro d nd
          exact qe L (.inr (.inr ⟨by omega, by omega, c3, rfl⟩)) d _ (same_new nd) upd_same
        · exact q (by omega) (by omega) (by omega)
abbrev s_count_lists : Stmt := topS 9
theorem sc_count_lists : FnScope ["steps", "greatest", "length"] ["steps", "greatest", "length"] (defScope s_count_lists) := ⟨rfl, rfl, rfl, by decide +kernel, rfl, by decide +kernel, by decide +kernel⟩

/-- the errors of three numbers -/
def Bad3 (a g L v : Int) : Prop := a < 0 ∧ v = a ∨ 0 ≤ a ∧ g < 2 ∧ v = g ∨ 0 ≤ a ∧ 2 ≤ g ∧ L < 0 ∧ v = L
def spCountL (CN : Addr) : Sp := fun vs H Q E => ∃ a g L : Int, vs = [.int a, .int g, .int L] ∧ Keep ((0 ≤ a → 2 ≤ g → 0 ≤ L → a ≤ 8 ∧ g ≤ 60 ∧ L ≤ 20000 ∧ ∀ H', Same H H' → Q (.int (cntC g a.toNat L)) H') ∧ (∀ v : Int, Bad3 a g L v → ∀ d H', Same H H' → H' d = some (.xd [("value", .int v)]) → E (.ref CN) (some d) H'))
theorem two_countL {C CN : Addr} (D : DefAt K mg "count_lists" s_count_lists ["steps", "greatest", "length"]) (B : Bt mg) (c_check_argumentsX : CalX P w K mg base 3 "check_arguments" (spArgs CN)) (c_Choices : Mak P w K mg base 2 "Choices" C (spCInit C)) (c_count : Met P w K mg base 18 C "count" (spCount C 8)) :
    Def2X P w K mg base 20 "count_lists" s_count_lists ["steps", "greatest", "length"] (spCountL CN) := by
  refine D.twoX sc_count_lists (fun vs H Q E h => ?_) (fun f cdv A outer s H vs Q E hr h tk => ?_)
  · obtain ⟨a, g, L, rfl, _⟩ := h
    rfl
  · obtain ⟨a, g, L, rfl, ⟨q, qe⟩⟩ := h
    refine ⟨_, (pss_cons (ps_expr (pe_cx c_check_argumentsX hr (by first | decide | omega) tk (by rfl) (pa_cons (pv 0) (pa_cons (pv 1) (pa_cons (pv 2) pa_nil)))))
  (pss_one (ps_ret (pe_m c_count hr (by first | decide | omega) (pe_mk c_Choices hr (by first | decide | omega) (by rfl) (pa_cons (pv 0) (pa_cons (pv 1) pa_nil))) (pa_cons (pv 0) (pa_cons (pv 2) pa_nil)))))), ?_⟩
    walk_at "sq go"
    refine ⟨fun a0 g2 L0 => ?_, fun v hv d H1 s1 hd => qe v hv d H1 s1 hd⟩
    obtain ⟨a8, g60, L2, q⟩ := q a0 g2 L0
    obtain ⟨n, rfl⟩ := Int.eq_ofNat_of_zero_le a0
    obtain ⟨l, rfl⟩ := Int.eq_ofNat_of_zero_le L0
    walk_at "sq go"
    intro x dx nx ndx ne
    have nx1 : upd H dx (.own x) x = none := by
      rw [upd_ne (Ne.symm ne)]
      exact nx
    have s1 : Same H (upd (upd H dx (.own x)) x (.ins C dx [])) := (same_new ndx).trans (same_new nx1)
    walk_at "sq go"
    refine ⟨⟨by omega, g2, g60⟩, fun l1 d1 H1 b1 gd1 ch => ?_⟩
    have s2 := b1.same s1 nx
    have ho1 := ch.ho
    walk_at "sq go"
    refine ⟨⟨by omega, Nat.le_refl _, by omega, g2, g60, by omega⟩, fun H2 kvs2 b2 ch2 => ?_⟩
    exact q _ (b2.same s2 (s1.free gd1))
abbrev s_nth_list : Stmt := topS 10
theorem sc_nth_list : FnScope ["steps", "greatest", "length", "number", "choices", "found", "left", "first", "ways"] ["steps", "greatest", "length", "number"] (defScope s_nth_list) := ⟨rfl, rfl, rfl, by decide +kernel, rfl, by decide +kernel, by decide +kernel⟩

def spNth (CN : Addr) : Sp := fun vs H Q E => ∃ a g L x : Int, vs = [.int a, .int g, .int L, .int x] ∧ Keep ((0 ≤ a → 2 ≤ g → 0 ≤ L → a ≤ 8 ∧ g ≤ 60 ∧ L ≤ 20000 ∧ (0 ≤ x → x < cntC g a.toNat L → ∀ ns p H', nthC g a.toNat L x = some ns → ns.length = a.toNat → Same H H' → H p = none → H' p = some (.lst (iv ns)) → Q (.ref p) H')) ∧
  (∀ v : Int, (Bad3 a g L v ∨ (0 ≤ a ∧ 2 ≤ g ∧ 0 ≤ L ∧ ¬ (0 ≤ x ∧ x < cntC g a.toNat L) ∧ v = x)) → ∀ d H', Same H H' → H' d = some (.xd [("value", .int v)]) → E (.ref CN) (some d) H'))
theorem two_nth {C CN : Addr} (D : DefAt K mg "nth_list" s_nth_list ["steps", "greatest", "length", "number"]) (B : Bt mg) (c_check_argumentsX : CalX P w K mg base 3 "check_arguments" (spArgs CN)) (c_Choices : Mak P w K mg base 2 "Choices" C (spCInit C)) (c_count : Met P w K mg base 18 C "count" (spCount C 8))
    (c_count_behind : Met P w K mg base 19 C "count_behind" (spBehind C 9)) (c_firsts : Met P w K mg base 1 C "firsts" (spFirsts C)) (c_needed_reach : Cal P w K mg base 1 "needed_reach" spNeed []) (c_InvalidNumber : Rai P w K mg base 1 "InvalidNumber" CN) :
    Def2X P w K mg base 20 "nth_list" s_nth_list ["steps", "greatest", "length", "number"] (spNth CN) := by
  refine D.twoX sc_nth_list (fun vs H Q E h => ?_) (fun f cdv A outer s H vs Q E hr h tk => ?_)
  · obtain ⟨a, g, L, x, rfl, _⟩ := h
    rfl
  · obtain ⟨a, g, L, x, rfl, ⟨q, qe⟩⟩ := h
    refine ⟨_, (pss_cons (ps_expr (pe_cx c_check_argumentsX hr (by first | decide | omega) tk (by rfl) (pa_cons (pv 0) (pa_cons (pv 1) (pa_cons (pv 2) pa_nil)))))
  (pss_cons (ps_set (i := 4) sc_nth_list.nd rfl (Or.inl rfl) (pe_mk c_Choices hr (by first | decide | omega) (by rfl) (pa_cons (pv 0) (pa_cons (pv 1) pa_nil))))
  (pss_cons (ps_if (pt_not (pt_chain op_le op_lt pe_int (pv 3) (pe_m c_count hr (by first | decide | omega) (pv 4) (pa_cons (pv 0) (pa_cons (pv 2) pa_nil))))) (pss_one (ps_rx c_InvalidNumber hr (by first | decide | omega) (by rfl) tk (pv 3))) pss_nil)
  (pss_cons (ps_set (i := 5) sc_nth_list.nd rfl (Or.inl rfl) (pe_lst pa_nil))
  (pss_cons (ps_while PassesOwn.leaving (pt_cmpR op_lt (pe_callB (len_seqK (K := K)) (by rfl) B.len boot_len (pa_cons (pv 5) pa_nil)) (pv 0) (nomark _))
   (pss_cons (ps_set (i := 6) sc_nth_list.nd rfl (Or.inl rfl) (pe_op op_sub (pv 0) (pe_callB (len_seqK (K := K)) (by rfl) B.len boot_len (pa_cons (pv 5) pa_nil))))
  (pss_one (ps_for PassesOwn.leaving rfl (pi_listK (K := K) (pe_m0 c_firsts hr (by first | decide | omega) (pv 4))) (pg_name (i := 7) sc_nth_list.nd rfl (Or.inl rfl))
   (pss_cons (ps_set (i := 8) sc_nth_list.nd rfl (Or.inl rfl) (pe_m c_count_behind hr (by first | decide | omega) (pv 4) (pa_cons (pv 7) (pa_cons (pv 6) (pa_cons (pv 2) pa_nil)))))
  (pss_cons (ps_if (pt_cmpR op_lt (pv 3) (pv 8) (nomark _)) (pss_cons (ps_expr (pe_bm PySem.F.plainAttrs_list PySem.F.slot_list_append PySem.F.type_list_append mt_append (pv 5) (pa_cons (pv 7) pa_nil)))
  (pss_cons (ps_set (i := 2) sc_nth_list.nd rfl (Or.inl rfl) (pe_c c_needed_reach hr (by first | decide | omega) (by rfl) (pa_cons (pv 7) (pa_cons (pv 2) pa_nil))))
  (pss_one ps_break))) pss_nil)
  (pss_one (ps_aug (i := 3) sc_nth_list.nd rfl (Or.inl rfl) (pv 8) ip_sub))))))))
  (pss_one (ps_ret (pv 5)))))))), ?_⟩
    walk_at "sq go"
    refine ⟨fun a0 g2 L0 => ?_, fun v hv d H1 s1 hd => qe v (.inl hv) d H1 s1 hd⟩
    obtain ⟨a8, g60, L2, q⟩ := q a0 g2 L0
    obtain ⟨n, rfl⟩ := Int.eq_ofNat_of_zero_le a0
    obtain ⟨l, rfl⟩ := Int.eq_ofNat_of_zero_le L0
    rw [Int.toNat_natCast] at q qe
    walk_at "sq go"
    intro xo dx nx ndx ne
    have nx1 : upd H dx (.own xo) xo = none := by
      rw [upd_ne (Ne.symm ne)]
      exact nx
    have s1 : Same H (upd (upd H dx (.own xo)) xo (.ins C dx [])) := (same_new ndx).trans (same_new nx1)
    walk_at "sq go"
    refine ⟨⟨by omega, g2, g60⟩, fun l1 d1 H1 b1 gd1 ch => ?_⟩
    have s2 := b1.same s1 nx
    have gd := s1.free gd1
    have ho1 := ch.ho
    walk_at "sq go"
    refine ifD (fun x0 => ?_) (fun x0 => ?_)
    case refine_2 =>
      walk_at "sq go"
      intro d nd
      exact qe x (.inr ⟨a0, g2, L0, fun z => x0 z.1, rfl⟩) d _ (s2.trans (same_new nd)) upd_same
    walk_at "sq go"
    refine ⟨⟨by omega, Nat.le_refl _, by omega, g2, g60, by omega⟩, fun H2 kvs2 b2 ch2 => ?_⟩
    have s3 := b2.same s2 gd
    walk_at "sq go"
    refine ifN (fun xc => ?_) (fun xc => ?_)
    · walk_at "sq go"
      intro d nd
      exact qe x (.inr ⟨a0, g2, L0, fun z => xc z.2, rfl⟩) d _ (s3.trans (same_new nd)) upd_same
    replace q := q x0 xc
    walk_at "sq go"
    intro F nF
    have fF := ch2.free nF
    have gF := s3.free nF
    refine ⟨fun k σ H' => Keep (∃ (fs : List Int) (lc : Nat) (xc : Int) (kvs : List (List Key × V)) (y1 y2 y3 : Option V), σ = [some (.int (n : Nat)), some (.int g), some (.int (lc : Nat)), some (.int xc), some (.ref xo), some (.ref F), y1, y2, y3] ∧ n = fs.length + k ∧ lc ≤ 20000 ∧ 0 ≤ xc ∧ xc < cntC g k lc ∧
        nthC g n l x = (nthC g k lc xc).map (fun t => fs ++ t) ∧ Same H H' ∧ Ch1 C xo dx l1 d1 g n H' kvs ∧ H' F = some (.lst (iv fs))), ⟨n, [], l, x, kvs2, _, _, _, rfl, by simp, by omega, x0, xc, by simp, s3.trans (same_new nF), ch2.same (same_new nF), upd_same⟩, fun k σ H' h => ?_⟩
    obtain ⟨fs, lc, x1, kvs3, y1, y2, y3, rfl, en, lc2, x10, x1c, eq, sH, chH, hF⟩ := h.o
    clear h
    have lf : (iv fs).length = fs.length := iv_len _
    walk_at "sq go"
    refine ifD (fun c => ?_) (fun c => ?_)
    · obtain ⟨k, rfl⟩ : ∃ m, k = m + 1 := ⟨k - 1, by omega⟩
      refine ⟨fun σ H' => Keep (∃ (fs : List Int) (lc : Nat) (xc : Int) (kvs : List (List Key × V)) (y1 y2 y3 : Option V), σ = [some (.int (n : Nat)), some (.int g), some (.int (lc : Nat)), some (.int xc), some (.ref xo), some (.ref F), y1, y2, y3] ∧ n = fs.length + k ∧ lc ≤ 20000 ∧ 0 ≤ xc ∧ xc < cntC g k lc ∧
        nthC g n l x = (nthC g k lc xc).map (fun t => fs ++ t) ∧ Same H H' ∧ Ch1 C xo dx l1 d1 g n H' kvs ∧ H' F = some (.lst (iv fs))), fun σ' H3 h3 => ⟨k, by omega, h3⟩, ?_⟩
      have hoH := chH.ho
      walk_at "sq go"
      refine ⟨⟨g2, g60⟩, fun p np => ?_⟩
      have eleft : ((n : Nat) : Int) - (((iv fs).length : Nat) : Int) = ((k + 1 : Nat) : Int) := by omega
      have ch4 := chH.same (same_new (o := .lst (rgV 2 (g + 1))) np)
      have hF4 := upd_keep (o := .lst (rgV 2 (g + 1))) np hF
      have hp4 : upd H' p (.lst (rgV 2 (g + 1))) p = some (.lst (rgV 2 (g + 1))) := upd_same
      have s4 := sH.trans (same_new (o := .lst (rgV 2 (g + 1))) np)
      have npF : p ≠ F := fun z => by
        rw [z, hF] at np
        cases np
      generalize upd H' p (.lst (rgV 2 (g + 1))) = H4 at ch4 hF4 hp4 s4
      have lrg : (rgV 2 (g + 1)).length = (g - 1).toNat := by
        rw [rgV_length]
        congr 1
        omega
      walk_at "sq go"
      refine for_list (K := K) (a := p) (xs := rgV 2 (g + 1)) (fun i σ' H'' => Keep (∃ (x2 : Int) (kvs' : List (List Key × V)) (y2 y3 : Option V), σ' = [some (.int (n : Nat)), some (.int g), some (.int (lc : Nat)), some (.int x2), some (.ref xo), some (.ref F), some (.int ((k + 1 : Nat) : Int)), y2, y3] ∧ Same H H'' ∧ Ch1 C xo dx l1 d1 g n H'' kvs' ∧ H'' F = some (.lst (iv fs)) ∧ H'' p = some (.lst (rgV 2 (g + 1))) ∧ 0 ≤ x2 ∧
          x2 < ((((List.range (g - 1).toNat).drop i).map fun j => cntC g k (need (2 + (j : Nat)) lc))).sum ∧ nthG (fun j => cntC g k (need (2 + (j : Nat)) lc)) (fun j x => nthC g k (need (2 + (j : Nat)) lc) x) ((List.range (g - 1).toNat).drop i) x2 = nthC g (k + 1) lc x1)) ⟨x1, kvs3, y2, y3, (by
        show [some (V.int (n : Nat)), some (V.int g), some (V.int (lc : Nat)), some (V.int x1), some (V.ref xo), some (V.ref F), some (V.int (((n : Nat) : Int) - (((iv fs).length : Nat) : Int))), y2, y3] = _
        rw [eleft]), s4, ch4, hF4, hp4, x10, ?_, rfl⟩ (fun i σ' H'' _ h => ?_) (fun i v σ' H'' hx h => ?_) (fun σ' H'' h => ?_)
      · rw [List.drop_zero, ← cntC_succ x10 x1c]
        exact x1c
      · obtain ⟨x2, kvs', y2, y3, _, _, _, _, hp, _⟩ := h.o
        exact seqL_of hp
      · obtain ⟨x2, kvs', y2, y3, rfl, s5, ch5, hF5, hp5, x20, x2c, e2⟩ := h.o
        have li := (List.getElem?_eq_some_iff.mp hx).1
        rw [lrg] at li
        obtain rfl : v = .int (2 + ((i : Nat) : Int)) := by
          unfold rgV at hx
          rw [List.getElem?_map, List.getElem?_range (by omega)] at hx
          exact (Option.some.inj hx).symm
        have dr : (List.range (g - 1).toNat).drop i = i :: (List.range (g - 1).toNat).drop (i + 1) := by
          rw [List.drop_eq_getElem_cons (by rw [List.length_range]; exact li), List.getElem_range]
        rw [dr] at x2c e2
        have ho5 := ch5.ho
        walk_at "sq go"
        refine ⟨⟨by omega, by omega, by omega, g2, g60, lc2, by omega, by omega⟩, fun H6 kvs6 b6 ch6 => ?_⟩
        have gd1' := gd
        have s6 := b6.same s5 gd
        have nFd : F ≠ d1 := fF.2.2
        have npd : p ≠ d1 := fun z => by
          rw [z, ch5.hd] at hp5
          cases hp5
        have hF6 := b6 _ _ nFd hF5
        have hp6 := b6 _ _ npd hp5
        walk_at "sq go"
        refine ifD (fun c6 => ?_) (fun c6 => ?_)
        · have lfz : (iv fs).length < sizeLine := by
            rw [lf]
            exact small1000 (by omega)
          walk_at "sq go"
          refine ⟨⟨by omega, by omega⟩, ?_⟩
          obtain ⟨nb0, nb1⟩ := need_bd (k := 2 + ((i : Nat) : Int)) (L := ((lc : Nat) : Int)) (by omega) (by omega)
          obtain ⟨m, em⟩ := Int.eq_ofNat_of_zero_le nb0
          refine ⟨fs ++ [2 + ((i : Nat) : Int)], m, x2, kvs6, some (.int ((k + 1 : Nat) : Int)), some (.int (2 + ((i : Nat) : Int))), some (.int (cntC g k (need (2 + ((i : Nat) : Int)) ((lc : Nat) : Int)))), ?_, by simp; omega, by omega, x20, by rw [← em]; exact c6, ?_, fun b u e => upd_off (fun z => by rw [z, gF] at e; cases e) (s6 b u e), ch6.put fF.1 fF.2.1 fF.2.2, by rw [upd_same, iv_app]⟩
          · rw [← em]
            rfl
          · rw [eq, ← e2]
            show ((if x2 < cntC g k (need (2 + ((i : Nat) : Int)) lc) then (nthC g k (need (2 + ((i : Nat) : Int)) lc) x2).map (fun s => (2 + ((i : Nat) : Int)) :: s) else _).map _) = _
            rw [if_pos c6, map_map_app, em]
        · rw [List.map_cons, List.sum_cons] at x2c
          walk_at "sq go"
          refine ⟨x2 - cntC g k (need (2 + ((i : Nat) : Int)) ((lc : Nat) : Int)), kvs6, some (.int (2 + ((i : Nat) : Int))), some (.int (cntC g k (need (2 + ((i : Nat) : Int)) ((lc : Nat) : Int)))), rfl, s6, ch6, hF6, hp6, by omega, by omega, ?_⟩
          rw [← e2]
          exact (if_neg c6).symm
      · obtain ⟨x2, kvs', y2, y3, rfl, s5, ch5, hF5, hp5, x20, x2c, e2⟩ := h.o
        rw [lrg, List.drop_of_length_le (by simp)] at x2c
        exact absurd x2c (by simp; omega)
    · have k0 : k = 0 := by omega
      subst k0
      walk_at "sq go"
      refine q fs F H' ?_ (by omega) sH gF hF
      rw [eq]
      show some (fs ++ []) = some fs
      rw [List.append_nil]

/-! ### the bag of draws (a dict: great cells, what is left, a count, a blend) -/
def bagK (d : Addr) (a t m : Int) : List (Key × V) := [(.inr "great", .ref d), (.inr "left", .int a), (.inr "turn", .int t), (.inr "blend", .int m)]
theorem bag_g (d : Addr) (a t m : Int) : valV (bagK d a t m) (.inr ("great" : Str)) = some (.ref d) := rfl
theorem bag_l (d : Addr) (a t m : Int) : valV (bagK d a t m) (.inr ("left" : Str)) = some (.int a) := rfl
theorem bag_t (d : Addr) (a t m : Int) : valV (bagK d a t m) (.inr ("turn" : Str)) = some (.int t) := rfl
theorem bag_b (d : Addr) (a t m : Int) : valV (bagK d a t m) (.inr ("blend" : Str)) = some (.int m) := rfl
theorem bag_pl (d : Addr) (a t m a' : Int) : putK (bagK d a t m) (.inr ("left" : Str)) (.int a') = bagK d a' t m := rfl
theorem bag_pt (d : Addr) (a t m t' : Int) : putK (bagK d a t m) (.inr ("turn" : Str)) (.int t') = bagK d a t' m := rfl
def RD (r d : Addr) (N : Int) (ds : List Int) (a t m : Int) (H : Hp) : Prop :=
  H r = some (.dK (bagK d a t m)) ∧ H d = some (.lst (iv ds)) ∧ d ≠ r ∧ 0 ≤ m ∧ m < 2305843009213693952 ∧ 0 ≤ t ∧ t ≤ N
def rgD (r d : Addr) (N : Int) : Rg where
  I := fun H => ∃ ds a t m, RD r d N ds a t m H
  S := fun x => x = r ∨ x = d
  loc := fun H H' e ⟨ds, a, t, m, h1, h2, h3⟩ => ⟨ds, a, t, m, (e r (.inl rfl)).trans h1, (e d (.inr rfl)).trans h2, h3⟩
  has := fun H x ⟨ds, a, t, m, h1, h2, _⟩ hx => by
    rcases hx with rfl | rfl
    · rw [h1]; exact fun z => nomatch z
    · rw [h2]; exact fun z => nomatch z
theorem SepD.redo {r d : Addr} {N N' : Int} {G H H' : Hp} (s : Sep (rgD r d N) G H) (e : ∀ b o, b ≠ r → b ≠ d → H b = some o → H' b = some o) (h : ∃ ds a t m, RD r d N' ds a t m H') : Sep (rgD r d N') G H' := by
  refine ⟨h, fun b o q => ?_, s.off⟩
  have nr : b ≠ r := fun z => by
    have := s.off b (.inl z)
    rw [q] at this
    cases this
  have nd : b ≠ d := fun z => by
    have := s.off b (.inr z)
    rw [q] at this
    cases this
  exact e b o nr nd (s.same b o q)
theorem SepD.mono {r d : Addr} {N N' : Int} {G H : Hp} (s : Sep (rgD r d N) G H) (h : N ≤ N') : Sep (rgD r d N') G H := by
  obtain ⟨ds, a, t, m, h1, h2, h3, h4, h5, h6, h7⟩ := s.inv
  exact SepD.redo s (fun _ _ _ _ z => z) ⟨ds, a, t, m, h1, h2, h3, h4, h5, h6, by omega⟩
abbrev s_law_bag : Stmt := topS 20
theorem sc_law_bag : FnScope ["script", "blend", "great", "cell"] ["script"] (defScope s_law_bag) := ⟨rfl, rfl, rfl, by decide +kernel, rfl, by decide +kernel, by decide +kernel⟩

def spBag (K : PySem.W.Frag) : Sp := fun vs H Q _ => ∃ (p : Addr) (ns : List Int), vs = [.ref p] ∧ SqL K H p (iv ns) ∧ ns.length ≤ 63 ∧ ∀ r d H', Same H H' → Sep (rgD r d 0) H H' → Q (.ref r) H'
theorem cal_bag (D : DefAt K mg "_law_bag" s_law_bag ["script"]) (B : Bt mg) : Cal P w K mg base 1 "_law_bag" (spBag K) [] := by
  refine D.cal sc_law_bag (fun vs H Q E h => ?_) (fun f cdv A outer s H vs Q E hr h => ?_)
  · obtain ⟨p, ns, rfl, _⟩ := h
    rfl
  · obtain ⟨p, ns, rfl, hS, hl, q⟩ := h
    refine ⟨_, (pss_cons (ps_par (i := 1) (j := 2) rfl sc_law_bag.nd rfl rfl (by decide) rfl rfl (pa_cons pe_int (pa_cons (pe_lst pa_nil) pa_nil)) (by rfl))
  (pss_cons (ps_for PassesOwn.never rfl (pi_listK (K := K) (pv 0)) (pg_name (i := 3) sc_law_bag.nd rfl (Or.inl rfl))
   (pss_cons (ps_set (i := 1) sc_law_bag.nd rfl (Or.inl rfl) (pe_op op_mod (pe_op op_add (pe_op op_mulW (pv 1) pe_int) (pv 3)) pe_int))
  (pss_one (ps_if (pt_cmpR op_ge (pe_callB call_abs (by rfl) B.abs (by decide +kernel) (pa_cons (pv 3) pa_nil)) (pe_op op_powW pe_int pe_int) (nomark _)) (pss_one (ps_expr (pe_bm PySem.F.plainAttrs_list PySem.F.slot_list_append PySem.F.type_list_append mt_append (pv 2) (pa_cons (pe_callB call_abs (by rfl) B.abs (by decide +kernel) (pa_cons (pv 3) pa_nil)) pa_nil)))) pss_nil))))
  (pss_one (ps_ret (pe_disp (pps_cons pe_str (pv 2) (pps_cons pe_str pe_int (pps_cons pe_str pe_int (pps_cons pe_str (pv 1) pps_nil)))) rfl rfl (List.cons_ne_nil _ _) (by decide)))))), ?_⟩
    walk_at "sq go"
    intro d nd
    have s1 : Same H (upd H d (.lst [])) := same_new nd
    have npd : ∀ H' : Hp, Same H H' → SqL K H' p (iv ns) := fun H' s => s.seq hS
    walk_at "sq go"
    refine for_list (K := K) (a := p) (xs := iv ns) (fun i σ H' => Keep (∃ ds m z, σ = [some (.ref p), some (.int m), some (.ref d), z] ∧ H' = upd H d (.lst (iv ds)) ∧ 0 ≤ m ∧ m < 2305843009213693952 ∧ ds.length ≤ i)) ⟨[], 11, none, rfl, rfl, by decide, by decide, Nat.le_refl _⟩ (fun i σ H' _ h => ?_) (fun i x σ H' hx h => ?_) (fun σ H' h => ?_)
    · obtain ⟨ds, m, z, _, rfl, _⟩ := h.o
      exact npd _ (same_new nd)
    · obtain ⟨ds, m, z, rfl, rfl, m0, m1, hds⟩ := h.o
      obtain ⟨n, hn, rfl⟩ := iv_get hx
      have hi : i < ns.length := (List.getElem?_eq_some_iff.mp hn).1
      have hm : CMulW m 1000003 := Sm.wide (a := 61) (b := 20) (by unfold Sm; omega) (by unfold Sm; decide) (by decide) (by decide) (by decide)
      have r0 : ∀ y : Int, 0 ≤ y % 2305843009213693951 := fun y => Int.emod_nonneg y (by decide)
      have r1 : ∀ y : Int, y % 2305843009213693951 < 2305843009213693951 := fun y => Int.emod_lt_of_pos y (by decide)
      have lds : (iv ds).length < sizeLine := by
        rw [iv_len]
        exact small1000 (by omega)
      walk_at "sq go"
      refine ifD (fun c => ?_) (fun c => ?_)
      · walk_at "sq go"
        refine ⟨ds ++ [if n < 0 then -n else n], _, _, rfl, ?_, r0 _, Int.lt_trans (r1 _) (by decide), ?_⟩
        · rw [upd_upd, iv_app]
        · rw [List.length_append, List.length_singleton]
          omega
      · exact ⟨ds, _, _, rfl, rfl, r0 _, Int.lt_trans (r1 _) (by decide), by omega⟩
    · obtain ⟨ds, m, z, rfl, rfl, m0, m1, hds⟩ := h.o
      walk_at "sq go"
      intro r nr
      have ndr : d ≠ r := fun e => by
        rw [← e, upd_same] at nr
        cases nr
      have s2 : Same H (upd H d (.lst (iv ds))) := same_new nd
      walk_at "sq go"
      refine ⟨(rfl : _ = (bagK d 0 0 m).map (fun kv => (kV kv.1, kv.2))), (by decide : 4 ≤ 15), ?_⟩
      have em : mergeK [] (bagK d 0 0 m) = bagK d 0 0 m := rfl
      rw [upd_upd, em]
      refine q r d _ (s2.trans (same_new nr)) ⟨⟨ds, 0, 0, m, upd_same, by rw [upd_ne ndr, upd_same], ndr, m0, m1, by decide, by decide⟩, s2.trans (same_new nr), fun a ha => ?_⟩
      rcases ha with rfl | rfl
      · exact s2.free nr
      · exact nd
theorem dg_g {H : Hp} {r d : Addr} {a t m : Int} (h : H r = some (.dK (bagK d a t m))) : DGet H r (.str ("great" : Str)) (some (.ref d)) := DGet.k (kvs := bagK d a t m) (k := .inr ("great" : Str)) h
theorem dg_l {H : Hp} {r d : Addr} {a t m : Int} (h : H r = some (.dK (bagK d a t m))) : DGet H r (.str ("left" : Str)) (some (.int a)) := DGet.k (kvs := bagK d a t m) (k := .inr ("left" : Str)) h
theorem dg_t {H : Hp} {r d : Addr} {a t m : Int} (h : H r = some (.dK (bagK d a t m))) : DGet H r (.str ("turn" : Str)) (some (.int t)) := DGet.k (kvs := bagK d a t m) (k := .inr ("turn" : Str)) h
theorem dg_b {H : Hp} {r d : Addr} {a t m : Int} (h : H r = some (.dK (bagK d a t m))) : DGet H r (.str ("blend" : Str)) (some (.int m)) := DGet.k (kvs := bagK d a t m) (k := .inr ("blend" : Str)) h
theorem dp_l {H : Hp} {r d : Addr} {a t m a' : Int} (h : H r = some (.dK (bagK d a t m))) : DPut H r (.str ("left" : Str)) (.int a') (upd H r (.dK (bagK d a' t m))) := DPut.k (kvs := bagK d a t m) (k := .inr ("left" : Str)) (v := .int a') h (Nat.le_of_ble_eq_true rfl)
theorem dp_t {H : Hp} {r d : Addr} {a t m t' : Int} (h : H r = some (.dK (bagK d a t m))) : DPut H r (.str ("turn" : Str)) (.int t') (upd H r (.dK (bagK d a t' m))) := DPut.k (kvs := bagK d a t m) (k := .inr ("turn" : Str)) (v := .int t') h (Nat.le_of_ble_eq_true rfl)
local macro_rules | `(tactic| walk_at "sq side") => `(tactic| first
  | ((with_reducible show DGet _ _ _ _); first | exact dg_l (by first | assumption | exact upd_same) | exact dg_t (by first | assumption | exact upd_same) | exact dg_b (by first | assumption | exact upd_same) | exact dg_g (by first | assumption | exact upd_same))
  | ((with_reducible show DPut _ _ _ _ _); first | exact dp_l (by first | assumption | exact upd_same) | exact dp_t (by first | assumption | exact upd_same)))
abbrev s_law_draw : Stmt := topS 21
theorem sc_law_draw : FnScope ["bag", "many", "drawn", "turn", "mixed"] ["bag", "many"] (defScope s_law_draw) := ⟨rfl, rfl, rfl, by decide +kernel, rfl, by decide +kernel, by decide +kernel⟩

def spDrawD : Sp := fun vs H Q _ => ∃ (r d : Addr) (m N : Int) (G : Hp), vs = [.ref r, .int m] ∧ Sep (rgD r d N) G H ∧ Keep (0 < m ∧ m < 2 ^ 240 ∧ N < 2 ^ 60) ∧ ∀ v H', 0 ≤ v → v < m → Sep (rgD r d (N + 1)) G H' → Q (.int v) H'
theorem cal_drawD (D : DefAt K mg "_law_draw" s_law_draw ["bag", "many"]) (B : Bt mg) : Cal P w K mg base 1 "_law_draw" spDrawD [] := by
  refine D.cal sc_law_draw (fun vs H Q E h => ?_) (fun f cdv A outer s H vs Q E hr h => ?_)
  · obtain ⟨r, d, m, N, G, rfl, _⟩ := h
    rfl
  · obtain ⟨r, d, m, N, G, rfl, hS, ⟨hm, hmb, hN⟩, q⟩ := h
    have hmz : m.natAbs.log2 < 9000 := Nat.lt_trans ((show Sm 240 m by unfold Sm; omega).lg (by decide)) (by decide)
    obtain ⟨ds, a, t, b, hr0, hd0, ndr, b0, b1, t0, t1⟩ := id hS.inv
    refine ⟨_, (pss_cons (ps_if (PW.pt (pw_and (pt_cmpR op_lt (pe_dget (hu_of hr) (pv 0) pe_str (fun _ _ => rfl)) (pv 1) (nomark _)) (pw_and1 (pt_cmpR op_gt (pe_callB (len_seqK (K := K)) (by rfl) B.len boot_len (pa_cons (pe_dget (hu_of hr) (pv 0) pe_str (fun _ _ => rfl)) pa_nil)) pe_int (nomark _))))) (pss_one (ps_dput (hu_of hr) (pv 0) pe_str (pe_bm PySem.F.plainAttrs_list PySem.F.slot_list_pop PySem.F.type_list_pop mt_popAt (pe_dget (hu_of hr) (pv 0) pe_str (fun _ _ => rfl)) (pa_cons pe_int pa_nil)) rfl)) pss_nil)
  (pss_cons (ps_if (pt_cmpR op_ge (pe_dget (hu_of hr) (pv 0) pe_str (fun _ _ => rfl)) (pv 1) (nomark _)) (pss_cons (ps_set (i := 2) sc_law_draw.nd rfl (Or.inl rfl) (pe_op op_mod (pe_dget (hu_of hr) (pv 0) pe_str (fun _ _ => rfl)) (pv 1)))
  (pss_cons (ps_dput (hu_of hr) (pv 0) pe_str (pe_op op_fdivW (pe_dget (hu_of hr) (pv 0) pe_str (fun _ _ => rfl)) (pv 1)) rfl)
  (pss_one (ps_ret (pv 2))))) pss_nil)
  (pss_cons (ps_daug (hu_of hr) (pv 0) pe_str pe_int in_add (fun _ _ _ => rfl))
  (pss_cons (ps_set (i := 3) sc_law_draw.nd rfl (Or.inl rfl) (pe_dget (hu_of hr) (pv 0) pe_str (fun _ _ => rfl)))
  (pss_cons (ps_set (i := 4) sc_law_draw.nd rfl (Or.inl rfl) (pe_op op_add (pe_op op_mulW (pe_op op_add (pe_dget (hu_of hr) (pv 0) pe_str (fun _ _ => rfl)) (pe_op op_mulW pe_int (pv 3))) (pe_op op_powW (pe_op op_add (pv 3) pe_int) pe_int)) (pe_op op_mulW pe_int (pv 3))))
  (pss_one (ps_ret (pe_op op_mod (pe_op op_fdivW (pe_op op_mod (pe_op op_powW (pe_op op_mod (pv 4) pe_int) pe_int) (pe_op op_add (pe_op op_powW pe_int pe_int) pe_int)) pe_int) (pv 1))))))))), ?_⟩
    have p3 : CPowW (((b + 17 * (t + 1)) * (t + 1 + 29) ^ (2 : Int).toNat + 7919 * (t + 1)) % 2305843009213693951) 3 := by
      generalize (b + 17 * (t + 1)) * (t + 1 + 29) ^ (2 : Int).toNat + 7919 * (t + 1) = y
      exact ⟨by decide, by decide, Nat.lt_trans ((show Sm 61 (y % 2305843009213693951) by unfold Sm; omega).lg (by decide)) (by decide)⟩
    have p2 : CPowW (t + 1 + 29) 2 := ⟨by decide, by decide, Nat.lt_trans ((show Sm 61 (t + 1 + 29) by unfold Sm; omega).lg (by decide)) (by decide)⟩
    have m1 : CMulW 17 (t + 1) := Sm.wide (a := 20) (b := 61) (by unfold Sm; decide) (by unfold Sm; omega) (by decide) (by decide) (by decide)
    have m2 : CMulW 7919 (t + 1) := Sm.wide (a := 20) (b := 61) (by unfold Sm; decide) (by unfold Sm; omega) (by decide) (by decide) (by decide)
    have m3 : CMulW (b + 17 * (t + 1)) ((t + 1 + 29) ^ (2 : Int).toNat) := by
      have e1 : Sm 70 (b + 17 * (t + 1)) := by unfold Sm; omega
      have e2 : Sm 61 (t + 1 + 29) := by unfold Sm; omega
      have e3 : (t + 1 + 29) ^ (2 : Int).toNat = (t + 1 + 29) * (t + 1 + 29) := by
        show (t + 1 + 29) ^ 2 = _
        rw [Int.pow_succ, Int.pow_succ, Int.pow_zero, Int.one_mul]
      rw [e3]
      exact e1.wide (e2.mul e2) (by decide) (by decide) (by decide)
    have d64 : ∀ y, CDivW y 64 := fun y => div_ok (by decide) (by decide)
    have v0 : ∀ y : Int, 0 ≤ y % m := fun y => Int.emod_nonneg y (show m ≠ 0 by omega)
    have v1 : ∀ y : Int, y % m < m := fun y => Int.emod_lt_of_pos y hm
    walk_at "sq go"
    refine ifD (fun c1 => ?_) (fun c1 => ?_)
    · walk_at "sq go"
      refine ifD (fun c2 => ?_) (fun c2 => ?_)
      · obtain ⟨x, rest, rfl⟩ : ∃ x rest, ds = x :: rest := by
          cases ds with
          | nil => exact absurd c2 (by decide)
          | cons x rest => exact ⟨x, rest, rfl⟩
        have hr1 : upd H d (.lst (iv rest)) r = some (.dK (bagK d a t b)) := by
          rw [upd_ne (Ne.symm ndr)]
          exact hr0
        walk_at "sq go"
        refine ⟨seqIx0 (by simp), ?_⟩
        walk_at "sq go"
        have gr : upd (upd H d (.lst (iv rest))) r (.dK (bagK d x t b)) r = some (.dK (bagK d x t b)) := upd_same
        have gd : upd (upd H d (.lst (iv rest))) r (.dK (bagK d x t b)) d = some (.lst (iv rest)) := by
          rw [upd_ne ndr, upd_same]
        have ge : ∀ b' o, b' ≠ r → b' ≠ d → H b' = some o → upd (upd H d (.lst (iv rest))) r (.dK (bagK d x t b)) b' = some o := fun b' o h1 h2 z => upd_off h1 (upd_off h2 z)
        walk_at "sq go"
        refine ifD (fun c4 => ?_) (fun c4 => ?_)
        · walk_at "sq go"
          try refine ⟨⟨hm, hmz⟩, ?_⟩
          try walk_at "sq go"
          exact q _ _ (v0 _) (v1 _) (SepD.redo hS (fun b' o k1 k2 z => upd_off k1 (ge b' o k1 k2 z)) ⟨_, _, _, _, upd_same, by rw [upd_ne ndr]; exact gd, ndr, b0, b1, t0, by omega⟩)
        · walk_at "sq go"
          exact q _ _ (v0 _) (v1 _) (SepD.redo hS (fun b' o k1 k2 z => upd_off k1 (ge b' o k1 k2 z)) ⟨_, _, _, _, upd_same, by rw [upd_ne ndr]; exact gd, ndr, b0, b1, by omega, by omega⟩)
      · have gr := hr0
        have gd := hd0
        have ge : ∀ b o, b ≠ r → b ≠ d → H b = some o → H b = some o := fun _ _ _ _ z => z
        walk_at "sq go"
        refine ifD (fun c4 => ?_) (fun c4 => ?_)
        · walk_at "sq go"
          try refine ⟨⟨hm, hmz⟩, ?_⟩
          try walk_at "sq go"
          exact q _ _ (v0 _) (v1 _) (SepD.redo hS (fun b' o k1 k2 z => upd_off k1 (ge b' o k1 k2 z)) ⟨_, _, _, _, upd_same, by rw [upd_ne ndr]; exact gd, ndr, b0, b1, t0, by omega⟩)
        · walk_at "sq go"
          exact q _ _ (v0 _) (v1 _) (SepD.redo hS (fun b' o k1 k2 z => upd_off k1 (ge b' o k1 k2 z)) ⟨_, _, _, _, upd_same, by rw [upd_ne ndr]; exact gd, ndr, b0, b1, by omega, by omega⟩)
    · have gr := hr0
      have gd := hd0
      have ge : ∀ b o, b ≠ r → b ≠ d → H b = some o → H b = some o := fun _ _ _ _ z => z
      walk_at "sq go"
      refine ifD (fun c4 => ?_) (fun c4 => ?_)
      · walk_at "sq go"
        try refine ⟨⟨hm, hmz⟩, ?_⟩
        try walk_at "sq go"
        exact q _ _ (v0 _) (v1 _) (SepD.redo hS (fun b' o k1 k2 z => upd_off k1 (ge b' o k1 k2 z)) ⟨_, _, _, _, upd_same, by rw [upd_ne ndr]; exact gd, ndr, b0, b1, t0, by omega⟩)
      · walk_at "sq go"
        exact q _ _ (v0 _) (v1 _) (SepD.redo hS (fun b' o k1 k2 z => upd_off k1 (ge b' o k1 k2 z)) ⟨_, _, _, _, upd_same, by rw [upd_ne ndr]; exact gd, ndr, b0, b1, by omega, by omega⟩)

/-! ### check_list, of valid lists -/
abbrev s_check_list : Stmt := topS 12
theorem sc_check_list : FnScope ["replacements", "index", "replacement"] ["replacements"] (defScope s_check_list) := ⟨rfl, rfl, rfl, by decide +kernel, rfl, by decide +kernel, by decide +kernel⟩

def spCheckList (K : PySem.W.Frag) : Sp := fun vs H Q _ => ∃ (a : Addr) (ns : List Int), vs = [.ref a] ∧ SqL K H a (iv ns) ∧ Keep (Two ns) ∧ ∀ H', Same H H' → Q .non H'
theorem cal_check_list (D : DefAt K mg "check_list" s_check_list ["replacements"]) (B : Bt mg) : Cal P w K mg base 1 "check_list" (spCheckList K) [] := by
  refine D.cal sc_check_list (fun vs H Q E h => ?_) (fun f cdv A outer s H vs Q E hr h => ?_)
  · obtain ⟨a, ns, rfl, _⟩ := h
    rfl
  · obtain ⟨a, ns, rfl, hS, ⟨h2⟩, q⟩ := h
    refine ⟨_, (pss_one (ps_for PassesOwn.never rfl (pi_enumK (K := K) (by rfl) B.enumerate (pa_cons (pv 0) pa_nil)) (pg_tupK (K := K) (n := 2) rfl (pgs_cons (pg_name (i := 1) sc_check_list.nd rfl (Or.inl rfl)) (pgs_cons (pg_name (i := 2) sc_check_list.nd rfl (Or.inl rfl)) pgs_nil)))
   (pss_one (ps_if (pt_cmpR op_lt (pv 2) pe_int (nomark _)) (pss_one ps_never) pss_nil)))), ?_⟩
    walk_at "sq go"
    refine for_enum (K := K) (a := a) (xs := iv ns) (fun i σ H' => Keep (∃ x y, σ = [some (.ref a), x, y] ∧ Same H H')) ⟨none, none, rfl, .refl H⟩ (fun i σ H' h => ?_) (fun i x T σ H' hx h nT => ?_) (fun σ H' h => ?_)
    · obtain ⟨_, _, _, s⟩ := h.o
      exact s.seq hS
    · obtain ⟨y1, y2, rfl, s⟩ := h.o
      obtain ⟨n, hn, rfl⟩ := iv_get hx
      have hn2 := h2 n (List.mem_of_getElem? hn)
      walk_at "sq go"
      refine ifD (fun c => absurd c (by omega)) (fun c => ?_)
      exact ⟨_, _, rfl, s.trans (same_new nT)⟩
    · obtain ⟨y1, y2, rfl, s⟩ := h.o
      exact q H' s

/-! ### reaches, of valid arguments -/
abbrev s_check_most : Stmt := topS 15
theorem sc_check_most : FnScope ["most"] ["most"] (defScope s_check_most) := ⟨rfl, rfl, rfl, by decide +kernel, rfl, by decide +kernel, by decide +kernel⟩

def spCheckMost : Sp := fun vs H Q _ => ∃ m : Int, vs = [.int m] ∧ Keep (1 ≤ m) ∧ Q .non H
theorem cal_check_most (D : DefAt K mg "check_most" s_check_most ["most"]) (B : Bt mg) : Cal P w K mg base 1 "check_most" spCheckMost [] := by
  refine D.cal sc_check_most (fun vs H Q E h => ?_) (fun f cdv A outer s H vs Q E hr h => ?_)
  · obtain ⟨m, rfl, _⟩ := h
    rfl
  · obtain ⟨m, rfl, ⟨h1⟩, q⟩ := h
    refine ⟨_, (pss_one (ps_if (pt_cmpR op_lt (pv 0) pe_int (nomark _)) (pss_one ps_never) pss_nil)), ?_⟩
    walk_at "sq go"
    exact ifD (fun c => absurd c (by omega)) (fun c => q)
abbrev s_reach_before : Stmt := topS 16
theorem sc_reach_before : FnScope ["reached", "replacement"] ["reached", "replacement"] (defScope s_reach_before) := ⟨rfl, rfl, rfl, by decide +kernel, rfl, by decide +kernel, by decide +kernel⟩

theorem rb_Sm {a b : Nat} {R k : Int} (hR : Sm a R) (hk : Sm b k) (hb : 10 ≤ b) (hk2 : 2 ≤ k) (hR1 : 1 ≤ R) : Sm (a + b) (rb R k) := by
  unfold rb
  split
  · exact hR.mono (by omega)
  · rename_i c
    have h1 : 0 ≤ (R + 3 - k) * k - 2 := by
      have := Int.mul_le_mul (show (2 : Int) ≤ R + 3 - k by omega) hk2 (by decide) (by omega)
      omega
    have h2 : (R + 3 - k) * k - 2 ≤ (R + 1) * k := by
      have := Int.mul_le_mul_of_nonneg_right (show R + 3 - k ≤ R + 1 by omega) (show 0 ≤ k by omega)
      omega
    unfold Sm at *
    have e1 : (R + 1).natAbs ≤ 2 ^ a := by omega
    have e2 : ((R + 1) * k).natAbs < 2 ^ (a + b) := by
      rw [Int.natAbs_mul, Nat.pow_add]
      calc (R + 1).natAbs * k.natAbs ≤ 2 ^ a * k.natAbs := Nat.mul_le_mul_right _ e1
        _ < 2 ^ a * 2 ^ b := Nat.mul_lt_mul_of_pos_left hk (Nat.pow_pos (by decide))
    omega
def spReachBefore : Sp := fun vs H Q _ => ∃ R k : Int, vs = [.int R, .int k] ∧ Keep (∃ a b : Nat, 1 ≤ R ∧ 2 ≤ k ∧ Sm a R ∧ Sm b k ∧ 10 ≤ a ∧ 10 ≤ b ∧ a + b ≤ 900000) ∧ Q (.int (rb R k)) H
theorem cal_reach_before (D : DefAt K mg "reach_before" s_reach_before ["reached", "replacement"]) (B : Bt mg) : Cal P w K mg base 1 "reach_before" spReachBefore [] := by
  refine D.cal sc_reach_before (fun vs H Q E h => ?_) (fun f cdv A outer s H vs Q E hr h => ?_)
  · obtain ⟨R, k, rfl, _⟩ := h
    rfl
  · obtain ⟨R, k, rfl, ⟨a, b, hR1, hk2, hR, hk, ha, hb, hab⟩, q⟩ := h
    refine ⟨_, (pss_cons (ps_if (pt_cmpR op_gt (pv 1) (pe_op op_add (pv 0) pe_int) (nomark _)) (pss_one (ps_ret (pv 0))) pss_nil)
  (pss_one (ps_ret (pe_op op_sub (pe_op op_mulW (pe_op op_sub (pe_op op_add (pv 0) pe_int) (pv 1)) (pv 1)) pe_int)))), ?_⟩
    walk_at "sq go"
    refine ifD (fun c => ?_) (fun c => ?_)
    · have e : rb R k = R := if_pos c
      rw [e] at q
      walk_at "sq go"
      exact q
    · have e : rb R k = (R + 3 - k) * k - 2 := if_neg c
      rw [e] at q
      have wd : CMulW (R + 3 - k) k := Sm.wide (a := a + 1) (b := b) (Sm.le (hR.add (Sm.of (i := 1) (by decide) ha)) (by omega) (by omega)) hk (by omega) (by omega) (by omega)
      walk_at "sq go"
      exact q
abbrev s_reach_of : Stmt := topS 17
theorem sc_reach_of : FnScope ["replacements", "most", "reached", "replacement"] ["replacements", "most"] (defScope s_reach_of) := ⟨rfl, rfl, rfl, by decide +kernel, rfl, by decide +kernel, by decide +kernel⟩

/-- numbers of a list and a length of a bounded size -/
def Fit (ns : List Int) (m : Int) : Prop := ∃ b c : Nat, (∀ k ∈ ns, Sm b k) ∧ Sm c m ∧ 10 ≤ b ∧ 10 ≤ c ∧ c + (ns.length + 1) * b ≤ 900000
theorem reachOf_snoc (a : List Int) (k m : Int) : reachOf (a ++ [k]) m = reachOf a (rb m k) := by
  unfold reachOf
  rw [List.foldr_append]
  rfl
theorem foldr_take_rev {row : List Int} {m k : Int} {i : Nat} (h : row.reverse[i]? = some k) : (row.reverse.take (i + 1)).foldl rb m = rb ((row.reverse.take i).foldl rb m) k := by
  rw [List.take_add_one, h, List.foldl_append]
  rfl
theorem reachOf_rev (row : List Int) (m : Int) : row.reverse.foldl rb m = reachOf row m := by
  unfold reachOf
  rw [List.foldl_reverse]
theorem rbs_pos : ∀ {row : List Int} {m : Int}, 1 ≤ m → Two row → m ≤ row.foldl rb m
  | [], m, _, _ => Int.le_refl m
  | k :: r, m, h, t => by
    have p := rb_pos h (t k (List.mem_cons_self ..))
    exact Int.le_trans p (rbs_pos (row := r) (by omega) fun j hj => t j (List.mem_cons_of_mem _ hj))
theorem rbs_Sm : ∀ {row : List Int} {m : Int} {b c : Nat}, 1 ≤ m → Two row → (∀ k ∈ row, Sm b k) → Sm c m → 10 ≤ b → Sm (c + row.length * b) (row.foldl rb m)
  | [], m, b, c, _, _, _, h, _ => by simpa using h
  | k :: r, m, b, c, h1, t, hb, hc, h10 => by
    have hk := t k (List.mem_cons_self ..)
    have p := rb_pos h1 hk
    have ih := rbs_Sm (row := r) (m := rb m k) (b := b) (c := c + b) (by omega) (fun j hj => t j (List.mem_cons_of_mem _ hj)) (fun j hj => hb j (List.mem_cons_of_mem _ hj)) (rb_Sm hc (hb k (List.mem_cons_self ..)) h10 hk h1) h10
    have e : c + b + r.length * b = c + (k :: r).length * b := by
      rw [List.length_cons, Nat.add_mul]
      omega
    rw [e] at ih
    exact ih
def spReachOf (K : PySem.W.Frag) : Sp := fun vs H Q _ => ∃ (p : Addr) (ns : List Int) (m : Int), vs = [.ref p, .int m] ∧ SqL K H p (iv ns) ∧ Keep (Two ns ∧ 1 ≤ m ∧ Fit ns m) ∧ ∀ H', Same H H' → Q (.int (reachOf ns m)) H'
theorem cal_reach_of (D : DefAt K mg "reach_of" s_reach_of ["replacements", "most"]) (B : Bt mg) (c_reach_before : Cal P w K mg base 1 "reach_before" spReachBefore []) : Cal P w K mg base 2 "reach_of" (spReachOf K) [] := by
  refine D.cal sc_reach_of (fun vs H Q E h => ?_) (fun f cdv A outer s H vs Q E hr h => ?_)
  · obtain ⟨p, ns, m, rfl, _⟩ := h
    rfl
  · obtain ⟨p, ns, m, rfl, hS, ⟨h2, hm, b, c, hb, hc, h10, hc10, hz⟩, q⟩ := h
    refine ⟨_, (pss_cons (ps_set (i := 2) sc_reach_of.nd rfl (Or.inl rfl) (pv 1))
  (pss_cons (ps_for PassesOwn.never rfl (pi_listK (K := K) (pe_revLK (K := K) (pv 0))) (pg_name (i := 3) sc_reach_of.nd rfl (Or.inl rfl))
   (pss_one (ps_set (i := 2) sc_reach_of.nd rfl (Or.inl rfl) (pe_c c_reach_before hr (by first | decide | omega) (by rfl) (pa_cons (pv 2) (pa_cons (pv 3) pa_nil))))))
  (pss_one (ps_ret (pv 2))))), ?_⟩
    walk_at "sq go"
    intro t nt
    have sm := same_new (o := .lst (iv ns).reverse) nt
    have ht : SqL K (upd H t (.lst (iv ns).reverse)) t (iv ns.reverse) := by
      have e : iv ns.reverse = (iv ns).reverse := List.map_reverse ..
      rw [e]
      exact seqL_of upd_same
    walk_at "sq go"
    refine for_list (K := K) (a := t) (xs := iv ns.reverse) (fun i σ H' => Keep (∃ y, σ = [some (.ref p), some (.int m), some (.int ((ns.reverse.take i).foldl rb m)), y] ∧ H' = upd H t (.lst (iv ns).reverse))) ⟨none, rfl, rfl⟩ (fun i σ H' _ h => ?_) (fun i x σ H' hx h => ?_) (fun σ H' h => ?_)
    · obtain ⟨_, _, rfl⟩ := h.o
      exact ht
    · obtain ⟨y, rfl, rfl⟩ := h.o
      obtain ⟨k, hk, rfl⟩ := iv_get hx
      have mk : k ∈ ns := List.mem_reverse.mp (List.mem_of_getElem? hk)
      have tk : Two (ns.reverse.take i) := fun j hj => h2 j (List.mem_reverse.mp (List.mem_of_mem_take hj))
      have len : (ns.reverse.take i).length ≤ ns.length := by
        rw [List.length_take, List.length_reverse]
        omega
      have sR := rbs_Sm hm tk (fun j hj => hb j (List.mem_reverse.mp (List.mem_of_mem_take hj))) hc h10
      have sz : c + (ns.reverse.take i).length * b + b ≤ 900000 := by
        have := Nat.mul_le_mul_right b len
        rw [Nat.add_mul] at hz
        omega
      walk_at "sq go"
      refine ⟨⟨_, b, by have := rbs_pos hm tk; omega, h2 k mk, sR, hb k mk, by omega, h10, sz⟩, ?_⟩
      exact ⟨_, by rw [foldr_take_rev hk]; rfl, rfl⟩
    · obtain ⟨y, rfl, rfl⟩ := h.o
      have e : (iv ns.reverse).length = ns.reverse.length := iv_len _
      rw [e, List.take_length, reachOf_rev]
      walk_at "sq go"
      exact q _ sm
abbrev s_reach : Stmt := topS 18
theorem sc_reach : FnScope ["replacements", "most"] ["replacements", "most"] (defScope s_reach) := ⟨rfl, rfl, rfl, by decide +kernel, rfl, by decide +kernel, by decide +kernel⟩

def spReach (K : PySem.W.Frag) : Sp := fun vs H Q _ => ∃ (p : Addr) (ns : List Int) (m : Int), vs = [.ref p, .int m] ∧ SqL K H p (iv ns) ∧ Keep (Two ns ∧ 1 ≤ m ∧ Fit ns m) ∧ ∀ H', Same H H' → Q (.int (reachOf ns m)) H'
theorem ok_reach {f : Addr} {fd : FuncData} (F : FunD K "reach" "reach" (defArgs s_reach) (defBody s_reach) (defScope s_reach) [.int 1] [] f fd) (B : Bt mg) (c_check_list : Cal P w K mg base 1 "check_list" (spCheckList K) [])
    (c_check_most : Cal P w K mg base 1 "check_most" spCheckMost []) (c_reach_of : Cal P w K mg base 2 "reach_of" (spReachOf K) []) : FnOk P w K mg base CX0 3 f fd ["replacements", "most"] (spReach K) := by
  refine F.ok sc_reach (fun vs H Q E h => ?_) (fun cdv A outer s H vs Q E hr h => ?_)
  · obtain ⟨p, ns, m, rfl, _⟩ := h
    rfl
  · obtain ⟨p, ns, m, rfl, hS, ⟨h2, hm, hf⟩, q⟩ := h
    refine ⟨_, (PSs.nox (pss_cons (ps_expr (pe_c c_check_list hr (by first | decide | omega) (by rfl) (pa_cons (pv 0) pa_nil)))
  (pss_cons (ps_expr (pe_c c_check_most hr (by first | decide | omega) (by rfl) (pa_cons (pv 1) pa_nil)))
  (pss_one (ps_ret (pe_c c_reach_of hr (by first | decide | omega) (by rfl) (pa_cons (pv 0) (pa_cons (pv 1) pa_nil)))))))), ?_⟩
    walk_at "sq go"
    refine ⟨⟨h2⟩, fun H1 s1 => ?_⟩
    walk_at "sq go"
    refine ⟨⟨hm⟩, ?_⟩
    walk_at "sq go"
    exact ⟨⟨h2, hm, hf⟩, fun H2 s2 => q H2 (s1.trans s2)⟩

/-! ### the quiet part grows -/
theorem Sep.box {R : Rg} {G H : Hp} {p : Addr} (s : Sep R G H) (h : H p = none) (o : HO) : ∃ G2 H2, upd H p o = H2 ∧ Same G G2 ∧ G2 p = some o ∧ H2 p = some o ∧ Sep R G2 H2 := ⟨_, _, rfl, same_new (s.free h), upd_same, upd_same, s.new h o⟩
theorem Sep.took {R : Rg} {G H : Hp} {p : Addr} {o : HO} (s : Sep R (upd G p o) H) (h : G p = none) : ∃ G2, Same G G2 ∧ G2 p = some o ∧ H p = some o ∧ Sep R G2 H := ⟨_, same_new h, upd_same, s.get upd_same, s⟩
theorem sep_add {R : Rg} {G H H2 : Hp} {L : Addr} {o : HO} (s : Sep R G H) (sm : Same H H2) (n : H L = none) (e : H2 L = some o) : Sep R (upd G L o) H2 := by
  have s2 := s.on sm
  refine ⟨s2.inv, fun b u hb => ?_, fun a ha => ?_⟩
  · by_cases z : b = L
    · rw [z, upd_same] at hb
      cases hb
      rw [z]
      exact e
    · rw [upd_ne z] at hb
      exact s2.same b u hb
  · have na : a ≠ L := fun z => R.has H a s.inv ha (by rw [z]; exact n)
    rw [upd_ne na]
    exact s2.off a ha

/-- small lists -/
def Sml (ns : List Int) : Prop := (∀ k ∈ ns, 2 ≤ k ∧ k ≤ 60) ∧ ns.length ≤ 8
theorem Sml.mid {ns : List Int} (h : Sml ns) : Mid ns := fun k hk => ⟨(h.1 k hk).1, Int.lt_of_le_of_lt (h.1 k hk).2 (by decide)⟩
structure Xv1 (K : PySem.W.Frag) (C : Addr) : Prop where
  xf : XfC K C
  nv : PySem.W.findIn K (.ref C) "value" = some none
theorem xv_mk {h : Heap} {C : Addr} {y : Str} (_ : K.In h) (_ : mg y = some (.ref C)) (hg : PySem.W.findIn K (.ref C) "__getattribute__" = some (some (.builtin "BaseException.__getattribute__"))) (hk : PySem.W.findIn K (.ref C) "__getattr__" = some none) (hs : PySem.W.subIn K (.ref C) (.type "BaseException") = some true) (hd : PySem.W.hasDictIn K C = true)
    (nv : PySem.W.findIn K (.ref C) "value" = some none) : Xv1 K C := ⟨⟨hg, hk, hs, hd⟩, nv⟩
local macro_rules | `(tactic| walk_at "sq side") => `(tactic| first
  | ((with_reducible show XfC _ _); assumption)
  | ((with_reducible show Kept _ _ _ _); assumption)
  | ((with_reducible show PySem.W.exmOne _ _ _ = some _); assumption)
  | ((with_reducible show PySem.W.findIn _ _ _ = some _); assumption))
/-- arguments of these laws -/
def Ok3 (n : Nat) (g : Int) (L : Nat) : Prop := n ≤ 8 ∧ 2 ≤ g ∧ g ≤ 60 ∧ L ≤ 20000
abbrev s_law_reach : Stmt := topS 22
theorem sc_law_reach : FnScope ["steps_now", "found", "k"] ["steps_now"] (defScope s_law_reach) := ⟨rfl, rfl, rfl, by decide +kernel, rfl, by decide +kernel, by decide +kernel⟩

def spLReach (K : PySem.W.Frag) : Sp := fun vs H Q _ => ∃ (p : Addr) (ns : List Int), vs = [.ref p] ∧ SqL K H p (iv ns) ∧ Keep (Sml ns) ∧ ∀ H', Same H H' → Q (.int (reachOf ns 1)) H'
theorem cal_lreach (D : DefAt K mg "_law_reach" s_law_reach ["steps_now"]) (B : Bt mg) : Cal P w K mg base 1 "_law_reach" (spLReach K) [] := by
  refine D.cal sc_law_reach (fun vs H Q E h => ?_) (fun f cdv A outer s H vs Q E hr h => ?_)
  · obtain ⟨p, ns, rfl, _⟩ := h
    rfl
  · obtain ⟨p, ns, rfl, hS, ⟨sml⟩, q⟩ := h
    have h2 : Two ns := sml.mid.two
    refine ⟨_, (pss_cons (ps_set (i := 1) sc_law_reach.nd rfl (Or.inl rfl) pe_int)
  (pss_cons (ps_for PassesOwn.never rfl (pi_listK (K := K) (pe_revLK (K := K) (pv 0))) (pg_name (i := 2) sc_law_reach.nd rfl (Or.inl rfl))
   (pss_one (ps_if (pt_cmpR op_le (pv 2) (pe_op op_add (pv 1) pe_int) (nomark _)) (pss_one (ps_set (i := 1) sc_law_reach.nd rfl (Or.inl rfl) (pe_op op_sub (pe_op op_mulW (pe_op op_sub (pe_op op_add (pv 1) pe_int) (pv 2)) (pv 2)) pe_int))) pss_nil)))
  (pss_one (ps_ret (pv 1))))), ?_⟩
    walk_at "sq go"
    intro t nt
    have sm := same_new (o := .lst (iv ns).reverse) nt
    have ht : SqL K (upd H t (.lst (iv ns).reverse)) t (iv ns.reverse) := by
      have e : iv ns.reverse = (iv ns).reverse := List.map_reverse ..
      rw [e]
      exact seqL_of upd_same
    walk_at "sq go"
    refine for_list (K := K) (a := t) (xs := iv ns.reverse) (fun i σ H' => Keep (∃ z, σ = [some (.ref p), some (.int ((ns.reverse.take i).foldl rb 1)), z] ∧ H' = upd H t (.lst (iv ns).reverse))) ⟨none, rfl, rfl⟩ (fun i σ H' _ h => ?_) (fun i x σ H' hx h => ?_) (fun σ H' h => ?_)
    · obtain ⟨_, _, rfl⟩ := h.o
      exact ht
    · obtain ⟨z, rfl, rfl⟩ := h.o
      obtain ⟨k, hk, rfl⟩ := iv_get hx
      have mk : k ∈ ns := List.mem_reverse.mp (List.mem_of_getElem? hk)
      have tk : Two (ns.reverse.take i) := fun j hj => h2 j (List.mem_reverse.mp (List.mem_of_mem_take hj))
      have len : (ns.reverse.take i).length ≤ ns.length := by
        rw [List.length_take, List.length_reverse]
        omega
      have sR := rbs_SmC (row := ns.reverse.take i) (m := 1) (b := 10) (c := 10) (by decide) tk (fun j hj => by
        have := sml.1 j (List.mem_reverse.mp (List.mem_of_mem_take hj))
        unfold Sm
        omega) (by unfold Sm; decide) (by decide)
      have pR := rbs_posC (m := 1) (by decide) tk
      have e2 := foldr_take_revC (m := 1) hk
      have l8 := sml.2
      have sR2 : Sm 90 ((ns.reverse.take i).foldl rb 1) := sR.mono (by omega)
      generalize (ns.reverse.take i).foldl rb 1 = R at sR2 pR e2 ⊢
      have k2 := sml.1 k mk
      walk_at "sq go"
      refine ifD (fun c => ?_) (fun c => ?_)
      · have wm : CMulW (R + 3 - k) k := Sm.wide (a := 91) (b := 10) (Sm.le (j := R + 3) (Sm.add sR2 (Sm.of (by decide) (by decide))) (by omega) (by omega)) (by unfold Sm; omega) (by decide) (by decide) (by decide)
        walk_at "sq go"
        refine ⟨_, by rw [e2]; unfold rb; rw [if_neg (by omega)]; rfl, rfl⟩
      · refine ⟨_, by rw [e2]; unfold rb; rw [if_pos (by omega)]; rfl, rfl⟩
    · obtain ⟨z, rfl, rfl⟩ := h.o
      have e : (iv ns.reverse).length = ns.reverse.length := iv_len _
      rw [e, List.take_length, reachOf_revC]
      walk_at "sq go"
      exact q _ sm
abbrev s_law_is_refused : Stmt := topS 27
theorem sc_law_is_refused : FnScope ["many", "largest", "far", "spot", "e"] ["many", "largest", "far", "spot"] (defScope s_law_is_refused) := ⟨rfl, rfl, rfl, by decide +kernel, rfl, by decide +kernel, by decide +kernel⟩

def spRefused : Sp := fun vs H Q _ => ∃ (n : Nat) (g : Int) (L : Nat) (x : Int), vs = [.int (n : Nat), .int g, .int (L : Nat), .int x] ∧ Keep (Ok3 n g L ∧ ¬ (0 ≤ x ∧ x < cntC g n L)) ∧ ∀ H', Same H H' → Q (.bl true) H'
theorem cal_refused {CN : Addr} (D : DefAt K mg "_law_is_refused" s_law_is_refused ["many", "largest", "far", "spot"]) (B : Bt mg) (m_InvalidNumber : mg "InvalidNumber" = some (.ref CN)) (ex : PySem.W.exmOne K (.ref CN) (.ref CN) = some true) (kn : Xv1 K CN)
    (c_nth_listX : CalX P w K mg base 20 "nth_list" (spNth CN)) : Cal P w K mg base 22 "_law_is_refused" spRefused [] := by
  refine D.cal sc_law_is_refused (fun vs H Q E h => ?_) (fun f cdv A outer s H vs Q E hr h => ?_)
  · obtain ⟨n, g, L, x, rfl, _⟩ := h
    rfl
  · obtain ⟨n, g, L, x, rfl, ⟨⟨n8, g2, g60, l2⟩, no⟩, q⟩ := h
    have xf := kn.xf
    have nv := kn.nv
    refine ⟨_, (pss_cons (ps_try_keep (i := 4) rfl rfl sc_law_is_refused.nd rfl rfl rfl ⟨rfl, by decide, .inl m_InvalidNumber⟩ takes0
   (fun W pn xe tk po => (pss_one (ps_expr (pe_cx c_nth_listX hr (by first | decide | omega) tk (by rfl) (pa_cons (pv 0) (pa_cons (pv 1) (pa_cons (pv 2) (pa_cons (pv 3) pa_nil))))))))
   (fun a cls d pn => (pss_one (ps_ret (pe_cmpR op_eq (pe_xv (K := K) (pv 4)) (pv 3) (nomark _))))))
  (pss_one (ps_ret pe_bl))), ?_⟩
    walk_at "sq go"
    refine ⟨⟨fun a0 g2 L0 => ⟨by omega, g60, by omega, fun x0 x1 => absurd ⟨x0, x1⟩ no⟩, fun v hv d H1 s1 hd => ⟨true, ex, fun _ ax na => ?_, fun z => nomatch z⟩⟩⟩
    have ev : v = x := by
      rcases hv with (⟨h1, _⟩ | ⟨_, h2, _⟩ | ⟨_, _, h3, _⟩) | ⟨_, _, _, _, e⟩
      · omega
      · omega
      · omega
      · exact e
    subst ev
    have s3 := s1.trans (same_new (o := Xo ax (.ref CN) (some d)) na)
    have ka := kept_new (C := CN) na hd
    walk_at "sq go"
    have z := q _ s3
    rw [show decide (V.int v = V.int v) = true from decide_eq_true rfl]
    exact z
theorem all_single {one : List Int} {L : Nat} (h : Two one) : (((List.range L).map fun i => decide (V.int (sqz (1 + ((i : Nat) : Int)) one) = V.int 1))).all id = decide (((L : Nat) : Int) ≤ reachOf one 1) := by
  rw [Bool.eq_iff_iff, List.all_eq_true, decide_eq_true_eq]
  constructor
  · intro a
    refine Int.not_lt.mp fun c => ?_
    have p := reach_pos (m := 1) (by decide) h
    obtain ⟨j, ej⟩ := Int.eq_ofNat_of_zero_le (show 0 ≤ reachOf one 1 by omega)
    have m := a _ (List.mem_map.mpr ⟨j, by rw [List.mem_range]; omega, rfl⟩)
    have e : V.int (sqz (1 + ((j : Nat) : Int)) one) = V.int 1 := of_decide_eq_true m
    have n := reach_next (m := 1) (by decide) h
    rw [ej, Int.add_comm] at n
    rw [n] at e
    exact absurd (V.int.inj e) (by decide)
  · intro c b hb
    obtain ⟨j, hj, rfl⟩ := List.mem_map.mp hb
    rw [List.mem_range] at hj
    have u := reach_all (m := 1) (n := 1 + ((j : Nat) : Int)) (by decide) h (by omega) (by omega)
    have l := sqz_pos (n := 1 + ((j : Nat) : Int)) (by omega) h
    exact decide_eq_true (congrArg V.int (by omega))
theorem r_reprN {H : Hp} {n : Int} {Q : VK} (h0 : 0 ≤ n) (h : n < 10 ^ 200) (q : Q (.str (PyData.int n).shown) H) : rReprV K [.int n] H Q := by
  have lg : n.natAbs.log2 < 1920 := Nat.lt_trans ((show Sm 700 n by unfold Sm; omega).lg (by decide)) (by decide)
  refine rReprV_of (.int n) ?_ ?_ ?_ ?_ q
  · simp only [PyData.showable]
    exact decide_eq_true lg
  · simp [PyData.hasDict]
  · simp [PyData.depth]
  · have e := int_text_length_le (k := 1920) (by decide) lg
    show (Str.ofString (toString n)).length ≤ _
    rw [PySem.ofString_length, sizeLine_eq]
    omega
def spCount3 : Sp := fun vs H Q _ => ∃ (n : Nat) (g : Int) (L : Nat), vs = [.int (n : Nat), .int g, .int (L : Nat)] ∧ Keep (Ok3 n g L) ∧ ∀ H', Same H H' → Q (.int (cntC g n L)) H'
def spCount3K : Sp := fun zs H Q E => ∃ a b c, zs = [c, b, a] ∧ spCount3 [a, b, c] H Q E
def spNth4 : Sp := fun vs H Q _ => ∃ (n : Nat) (g : Int) (L : Nat) (x : Int), vs = [.int (n : Nat), .int g, .int (L : Nat), .int x] ∧ Keep (Ok3 n g L ∧ 0 ≤ x ∧ x < cntC g n L) ∧ ∀ ns p H', nthC g n L x = some ns → ns.length = n → Same H H' → H p = none → H' p = some (.lst (iv ns)) → Q (.ref p) H'
def spNth4K : Sp := fun zs H Q E => ∃ a b c d, zs = [d, c, b, a] ∧ spNth4 [a, b, c, d] H Q E
theorem count_calm {CN : Addr} (c : Def2X P w K mg base 20 "count_lists" s_count_lists ["steps", "greatest", "length"] (spCountL CN)) : Def2 P w K mg base 20 "count_lists" s_count_lists ["steps", "greatest", "length"] spCount3 := c.calm fun vs H Q E h => by
  obtain ⟨n, g, L, rfl, ⟨n8, g2, g60, l2⟩, q⟩ := h
  refine ⟨_, _, _, rfl, ⟨fun a0 g2 L0 => ⟨by omega, g60, by omega, fun H' s => q H' s⟩, fun v hv => ?_⟩⟩
  rcases hv with ⟨h1, _⟩ | ⟨_, h2, _⟩ | ⟨_, _, h3, _⟩ <;> omega
theorem nth_calm {CN : Addr} (c : Def2X P w K mg base 20 "nth_list" s_nth_list ["steps", "greatest", "length", "number"] (spNth CN)) : Def2 P w K mg base 20 "nth_list" s_nth_list ["steps", "greatest", "length", "number"] spNth4 := c.calm fun vs H Q E h => by
  obtain ⟨n, g, L, x, rfl, ⟨⟨n8, g2, g60, l2⟩, x0, x1⟩, q⟩ := h
  refine ⟨_, _, _, _, rfl, ⟨fun a0 g2 L0 => ⟨by omega, g60, by omega, fun _ _ ns p H' e l s np hp => q ns p H' e l s np hp⟩, fun v hv => ?_⟩⟩
  rcases hv with (⟨h1, _⟩ | ⟨_, h2, _⟩ | ⟨_, _, h3, _⟩) | ⟨_, _, _, h4, _⟩
  · omega
  · omega
  · omega
  · exact absurd ⟨x0, x1⟩ h4

/-! ### the law's own counting -/
abbrev s_law_least : Stmt := topS 25
theorem sc_law_least : FnScope ["k", "far", "low", "high", "middle"] ["k", "far"] (defScope s_law_least) := ⟨rfl, rfl, rfl, by decide +kernel, rfl, by decide +kernel, by decide +kernel⟩

def spLeast : Sp := fun vs H Q _ => ∃ (k L : Int), vs = [.int k, .int L] ∧ Keep (2 ≤ k ∧ k ≤ 60 ∧ 0 ≤ L ∧ L ≤ 20000) ∧ Q (.int (lst k L)) H
theorem cal_least (D : DefAt K mg "_law_least" s_law_least ["k", "far"]) (B : Bt mg) : Cal P w K mg base 1 "_law_least" spLeast [] := by
  refine D.cal sc_law_least (fun vs H Q E h => ?_) (fun f cdv A outer s H vs Q E hr h => ?_)
  · obtain ⟨k, L, rfl, _⟩ := h
    rfl
  · obtain ⟨k, L, rfl, ⟨k2, k60, l0, l2⟩, q⟩ := h
    refine ⟨_, (pss_cons (ps_par (i := 2) (j := 3) rfl sc_law_least.nd rfl rfl (by decide) rfl rfl (pa_cons pe_int (pa_cons (pe_callB (call_max2 rfl) (by rfl) B.max (by decide +kernel) (pa_cons pe_int (pa_cons (pv 1) pa_nil))) pa_nil)) (by rfl))
  (pss_cons (ps_while PassesOwn.never (pt_cmpR op_lt (pv 2) (pv 3) (nomark _))
   (pss_cons (ps_set (i := 4) sc_law_least.nd rfl (Or.inl rfl) (pe_op op_fdivW (pe_op op_add (pv 2) (pv 3)) pe_int))
  (pss_one (ps_if (pt_cmpR op_lt (pe_ifExp (pt_cmpR op_gt (pv 0) (pe_op op_add (pv 4) pe_int) (nomark _)) (pv 4) (pe_op op_sub (pe_op op_mulW (pe_op op_sub (pe_op op_add (pv 4) pe_int) (pv 0)) (pv 0)) pe_int)) (pv 1) (nomark _)) (pss_one (ps_set (i := 2) sc_law_least.nd rfl (Or.inl rfl) (pe_op op_add (pv 4) pe_int))) (pss_one (ps_set (i := 3) sc_law_least.nd rfl (Or.inl rfl) (pv 4)))))))
  (pss_one (ps_ret (pv 2))))), ?_⟩
    have bd := lst_bd (k := k) (L := L) k2 (by omega)
    have cd : ∀ i : Int, CDivW i 2 := fun i => div_ok (by decide) (by decide)
    walk_at "sq go"
    have ehi : (if L > 1 then L else 1) = if L < 1 then 1 else L := by
      split <;> split <;> omega
    rw [ehi]
    have t2 : (if L < 1 then (1 : Int) else L) ≤ 20000 := by split <;> omega
    generalize (if L < 1 then (1 : Int) else L) = top at bd t2
    refine ⟨fun t σ H' => Keep (∃ (lo hi : Int) (x : Option V), σ = [some (.int k), some (.int L), some (.int lo), some (.int hi), x] ∧ t = (hi - lo).toNat ∧ 1 ≤ lo ∧ lo ≤ lst k L ∧ lst k L ≤ hi ∧ hi ≤ 20000 ∧ H' = H), ⟨_, 1, top, none, rfl, rfl, by decide, bd.1, bd.2, t2, rfl⟩, fun t σ H' h => ?_⟩
    obtain ⟨lo, hi, x, rfl, rfl, l1, l2', l3, l4, rfl⟩ := h.o
    have cm := cd (lo + hi)
    walk_at "sq go"
    refine ifD (fun c => ?_) (fun c => ?_)
    · have m0 : lo ≤ (lo + hi) / 2 ∧ (lo + hi) / 2 < hi := by omega
      have key := lst_iff (R := (lo + hi) / 2) (k := k) (L := L) (by omega) k2 (by omega)
      refine ⟨fun σ' H3 => Keep (∃ (lo2 hi2 : Int), σ' = [some (.int k), some (.int L), some (.int lo2), some (.int hi2), some (.int ((lo + hi) / 2))] ∧ lo ≤ lo2 ∧ lo2 ≤ lst k L ∧ lst k L ≤ hi2 ∧ hi2 - lo2 < hi - lo ∧ hi2 ≤ 20000 ∧ H3 = H'), fun σ' H3 h3 => ?_, ?_⟩
      · obtain ⟨lo2, hi2, rfl, a1, a2, a3, a4, a5, rfl⟩ := h3.o
        exact ⟨_, by omega, lo2, hi2, _, rfl, rfl, by omega, a2, a3, a5, rfl⟩
      · walk_at "sq go"
        refine ifD (fun c1 => ?_) (fun c1 => ?_)
        · have e : rb ((lo + hi) / 2) k = (lo + hi) / 2 := if_pos (by omega)
          rw [e] at key
          walk_at "sq go"
          refine ifD (fun c2 => ?_) (fun c2 => ?_)
          · walk_at "sq go"
            exact ⟨_, _, rfl, by omega, by omega, l3, by omega, l4, rfl⟩
          · walk_at "sq go"
            exact ⟨_, _, rfl, by omega, l2', by omega, by omega, by omega, rfl⟩
        · have e : rb ((lo + hi) / 2) k = ((lo + hi) / 2 + 3 - k) * k - 2 := if_neg (by omega)
          rw [e] at key
          have wm : CMulW ((lo + hi) / 2 + 3 - k) k := Sm.wide (a := 20) (b := 10) (by unfold Sm; omega) (by unfold Sm; omega) (by decide) (by decide) (by decide)
          walk_at "sq go"
          refine ifD (fun c2 => ?_) (fun c2 => ?_)
          · walk_at "sq go"
            exact ⟨_, _, rfl, by omega, by omega, l3, by omega, l4, rfl⟩
          · walk_at "sq go"
            exact ⟨_, _, rfl, by omega, l2', by omega, by omega, by omega, rfl⟩
    · walk_at "sq go"
      rw [show lo = lst k L by omega]
      exact q
abbrev s_law_most : Stmt := topS 23
theorem sc_law_most : FnScope ["many", "largest", "found", "number", "now", "k"] ["many", "largest"] (defScope s_law_most) := ⟨rfl, rfl, rfl, by decide +kernel, rfl, by decide +kernel, by decide +kernel⟩

def spMost25 : Sp := fun vs H Q _ => ∃ (n : Nat) (g : Int), vs = [.int (n : Nat), .int g] ∧ Keep (n ≤ 8 ∧ 2 ≤ g ∧ g ≤ 60) ∧ ∀ l H', Same H H' → H l = none → H' l = some (.lst (iv (grs g n))) → Q (.ref l) H'
theorem cal_most25 (D : DefAt K mg "_law_most" s_law_most ["many", "largest"]) (B : Bt mg) : Cal P w K mg base 1 "_law_most" spMost25 [] := by
  refine D.cal sc_law_most (fun vs H Q E h => ?_) (fun f cdv A outer s H vs Q E hr h => ?_)
  · obtain ⟨n, g, rfl, _⟩ := h
    rfl
  · obtain ⟨n, g, rfl, ⟨n8, g2, g60⟩, q⟩ := h
    refine ⟨_, (pss_cons (ps_set (i := 2) sc_law_most.nd rfl (Or.inl rfl) (pe_lst (pa_cons pe_int pa_nil)))
  (pss_cons (ps_for PassesOwn.never rfl (pi_range1 (by rfl) B.range (pa_cons (pv 0) pa_nil)) (pg_name (i := 3) sc_law_most.nd rfl (Or.inl rfl))
   (pss_cons (ps_set (i := 4) sc_law_most.nd rfl (Or.inr rfl) (pe_ix (ix_listK (K := K)) (pv 2) (pe_un un_neg pe_int) (fun _ _ => rfl)))
  (pss_one (ps_expr (pe_bm PySem.F.plainAttrs_list PySem.F.slot_list_append PySem.F.type_list_append mt_append (pv 2) (pa_cons (pe_callB (cr_maxK (K := K) rfl) (by rfl) B.max (by decide +kernel) (pa_cons (pe_op op_cat (pe_lst (pa_cons (pv 4) pa_nil)) (pe_lc (own := [("k", 5)]) (g := gName 5) (by rfl) sc_law_most.nd (pi_range2 (by rfl) B.range (pa_cons pe_int (pa_cons (pe_op op_add (pe_callB (call_min2 rfl) (by rfl) B.min (by decide +kernel) (pa_cons (pv 1) (pa_cons (pe_op op_add (pv 4) pe_int) pa_nil))) pe_int) pa_nil))) (blkOk_by (own := [("k", 5)]) (N := ["many", "largest", "found", "number", "now", "k"]) (sc := defScope s_law_most) (by decide +kernel)) (fun _ _ _ _ _ => (pg_name (i := 5) sc_law_most.nd rfl (Or.inl rfl))) (fun _ _ _ _ _ => pts_nil) (fun _ _ _ _ _ => (pe_op op_sub (pe_op op_mulW (pe_op op_sub (pe_op op_add (pv 4) pe_int) (pv 5)) (pv 5)) pe_int)))) pa_nil)) pa_nil))))))
  (pss_one (ps_ret (pv 2))))), ?_⟩
    walk_at "sq go"
    intro l nl
    walk_at "sq go"
    refine for_range (lo := 0) (n := n) (fun i σ H' => Keep (∃ x3 x4 x5, σ = [some (.int (n : Nat)), some (.int g), some (.ref l), x3, x4, x5] ∧ Same H H' ∧ H' l = some (.lst (iv (grs g i))))) ⟨none, none, none, rfl, same_new nl, upd_same⟩ (fun i σ H' hi h => ?_) (fun σ H' h => ?_)
    · obtain ⟨x3, x4, x5, rfl, s1, gl⟩ := h.o
      have at1 : atI (iv (grs g i)) (-1) = some (.int (gr g i)) := by
        unfold atI ixN
        rw [iv_len, grs_len, if_neg (by decide), if_pos (by omega)]
        show (iv (grs g i))[(-1 + ((i + 1 : Nat) : Int)).toNat]? = _
        rw [show (-1 + ((i + 1 : Nat) : Int)).toNat = i by omega, List.getElem?_map, grs_get (Nat.le_refl _)]
        rfl
      have R1 := gr_pos g2 g60 i
      have Rs := gr_sm g2 g60 (n := i) (by omega)
      walk_at "sq go"
      intro e1 ne1
      have sE := same_new (o := .lst [.int (gr g i)]) ne1
      have gl1 := sE _ _ gl
      have ge1 : upd H' e1 (.lst [.int (gr g i)]) e1 = some (.lst [.int (gr g i)]) := upd_same
      have s2 := s1.trans sE
      generalize upd H' e1 (.lst [.int (gr g i)]) = H2 at *
      generalize hR : gr g i = R at *
      walk_at "sq go"
      intro D nD
      have nK : ∀ t : Nat, t < ((if R + 1 < g then R + 1 else g) + 1 - 2).toNat → 2 + (t : Int) ≤ g ∧ 2 + (t : Int) ≤ R + 1 := fun t ht => by
        split at ht <;> omega
      refine lc_range (lo := 2) (n := ((if R + 1 < g then R + 1 else g) + 1 - 2).toNat) (fun t H3 => Keep (Same H2 H3 ∧ H3 D = some (.lst (iv ((List.range t).map fun j => (R + 3 - (2 + (j : Nat))) * (2 + (j : Nat)) - 2))))) ⟨same_new nD, upd_same⟩ (fun t H3 ht h => ?_) (fun H3 h => ?_)
      · obtain ⟨s3, gD⟩ := h.o
        have kt := nK t ht
        have wm : CMulW (R + 3 - (2 + (t : Nat))) (2 + (t : Nat)) := Sm.wide (a := 1001) (b := 10) (Sm.le (j := R + 3) (Sm.add Rs (Sm.of (by decide) (by decide))) (by omega) (by omega)) (by unfold Sm; omega) (by decide) (by decide) (by decide)
        have lz : (iv ((List.range t).map fun j => (R + 3 - (2 + (j : Nat))) * (2 + (j : Nat)) - 2)).length < sizeLine := by
          rw [iv_len, List.length_map, List.length_range]
          exact small1000 (by omega)
        walk_at "sq go"
        refine ⟨same_put s3 nD, ?_⟩
        rw [upd_same, iv_app, List.range_succ, List.map_append]
        rfl
      · obtain ⟨s3, gD⟩ := h.o
        have ge3 := s3 _ _ ge1
        have gl3 := s3 _ _ gl1
        have lz : [V.int R].length + (iv ((List.range ((if R + 1 < g then R + 1 else g) + 1 - 2).toNat).map fun j => (R + 3 - (2 + (j : Nat))) * (2 + (j : Nat)) - 2)).length ≤ sizeLine := by
          rw [iv_len, List.length_map, List.length_range, sizeLine_eq]
          simp only [List.length_singleton]
          split <;> omega
        walk_at "sq go"
        intro e2 ne2
        have e12 : ([V.int R] ++ iv ((List.range ((if R + 1 < g then R + 1 else g) + 1 - 2).toNat).map fun j => (R + 3 - (2 + (j : Nat))) * (2 + (j : Nat)) - 2)) = iv (R :: (List.range ((if R + 1 < g then R + 1 else g) + 1 - 2).toNat).map fun j => (R + 3 - (2 + (j : Nat))) * (2 + (j : Nat)) - 2) := rfl
        rw [e12]
        have sF := s3.trans (same_new (o := .lst (iv (R :: (List.range ((if R + 1 < g then R + 1 else g) + 1 - 2).toNat).map fun j => (R + 3 - (2 + (j : Nat))) * (2 + (j : Nat)) - 2))) ne2)
        have glF := sF _ _ gl1
        have lzl : (iv (grs g i)).length < sizeLine := by
          rw [iv_len, grs_len]
          exact small1000 (by omega)
        refine ⟨e2, _, rfl, seqL_of upd_same, by simp, fun m hm ge => ?_⟩
        obtain ⟨b2, bR, bg, bu, bmax⟩ := most_is (g := g) (R := R) g2 R1 rfl
        have em : m = gr g (i + 1) := by
          show m = (gr g i + 3 - (if (gr g i + 3) / 2 < g then (gr g i + 3) / 2 else g)) * (if (gr g i + 3) / 2 < g then (gr g i + 3) / 2 else g) - 2
          rw [hR]
          generalize (if (R + 3) / 2 < g then (R + 3) / 2 else g) = b at b2 bR bg bu bmax
          refine Int.le_antisymm ?_ ?_
          · rcases List.mem_cons.mp hm with z | z
            · rw [z]
              exact bu
            · obtain ⟨j, hj, rfl⟩ := List.mem_map.mp z
              have kt := nK j (List.mem_range.mp hj)
              exact bmax _ (by omega) kt.1 kt.2
          · refine ge _ (List.mem_cons_of_mem _ (List.mem_map.mpr ⟨(b - 2).toNat, List.mem_range.mpr (by split <;> omega), ?_⟩))
            rw [show (2 : Int) + ((b - 2).toNat : Nat) = b by omega]
        rw [em]
        walk_at "sq go"
        refine ⟨_, _, _, rfl, same_put (s2.trans sF) nl, ?_⟩
        rw [upd_same, iv_app]
        exact congrArg (fun z => some (HO.lst (iv z))) (grs_succ g i)
    · obtain ⟨x3, x4, x5, rfl, s1, gl⟩ := h.o
      walk_at "sq go"
      exact q l _ s1 nl gl
abbrev s_law_count : Stmt := topS 24
theorem sc_law_count : FnScope ["known", "many", "largest", "far", "found", "k"] ["known", "many", "largest", "far"] (defScope s_law_count) := ⟨rfl, rfl, rfl, by decide +kernel, rfl, by decide +kernel, by decide +kernel⟩

theorem cnt_gt {g : Int} {n : Nat} {L : Int} (h : L > gr g n) : cntC g n L = 0 := by
  cases n with
  | zero =>
    show (if L > 1 then (0 : Int) else 1) = 0
    exact if_pos h
  | succ n =>
    rw [cntC_eq]
    exact if_pos h
theorem cnt_le1 {g : Int} {n : Nat} {L : Int} (hg : 2 ≤ g) (g60 : g ≤ 60) (hL : 0 ≤ L) (h : ¬ L > gr g (n + 1)) : cntC g (n + 1) L = ((List.range (g - 1).toNat).map fun j => cntC g n (lst (2 + (j : Nat)) L)).sum := by
  rw [cntC_eq, if_neg h]
  congr 1
  exact List.map_congr_left fun j _ => (cnt_lst hg g60 (by omega) hL).symm
def spLCount (w : World) (dep : Nat) : Sp := fun vs H Q _ => ∃ (d gl : Addr) (n g L : Int) (N : Nat) (ps : List (Nat × Nat)), vs = [.ref d, .int n, .int g, .int L] ∧ DN w H d (kvsN gl g ps) ∧ H gl = some (.lst (iv (grs g N))) ∧ Keep (0 ≤ n ∧ n < dep ∧ n ≤ N ∧ N ≤ 8 ∧ 2 ≤ g ∧ g ≤ 60 ∧ 0 ≤ L ∧ L ≤ 20000 ∧ PsOk ps) ∧
  ∀ H' ps', But d H H' → DN w H' d (kvsN gl g ps') → PsOk ps' → Q (.int (cntC g n.toNat L)) H'
theorem DN.ne {w : World} {H : Hp} {d a : Addr} {kvs : List (KP × V)} {xs : List V} (h : DN w H d kvs) (e : H a = some (.lst xs)) : a ≠ d := fun z => by
  obtain ⟨ys, q, _⟩ := h
  rw [z, q] at e
  cases e
local macro_rules | `(tactic| walk_at "sq side") => `(tactic| first
  | ((with_reducible show KeyV _ _ _); assumption)
  | ((with_reducible show valV _ _ = some _); assumption)
  | ((with_reducible show DN _ _ _ _); assumption)
  | ((with_reducible show _[_]? = some _); assumption))
theorem cal_lcount (D : DefAt K mg "_law_count" s_law_count ["known", "many", "largest", "far"]) (B : Bt mg) (c_law_least : Cal P w K mg base 1 "_law_least" spLeast []) : ∀ dep : Nat, Cal P w K mg base (dep + 1) "_law_count" (spLCount w dep) []
  | 0 => by
    refine D.cal sc_law_count (fun vs H Q E h => ?_) (fun f cdv A outer s H vs Q E hr h => ?_)
    · obtain ⟨d, gl, n, g, L, N, ps, rfl, _⟩ := h
      rfl
    · obtain ⟨d, gl, n, g, L, N, ps, rfl, _, _, ⟨h0, h, _⟩, _⟩ := h
      omega
  | dep + 1 => by
    have c_law_count := cal_lcount D B c_law_least dep
    refine D.cal sc_law_count (fun vs H Q E h => ?_) (fun f cdv A outer s H vs Q E hr h => ?_)
    · obtain ⟨d, gl, n, g, L, N, ps, rfl, _⟩ := h
      rfl
    · obtain ⟨d, gl, n, g, L, N, ps, rfl, hd, hg, ⟨n0, hn, nN, N8, g2, g60, L0, l2, po⟩, q⟩ := h
      obtain ⟨n, rfl⟩ := Int.eq_ofNat_of_zero_le n0
      obtain ⟨L, rfl⟩ := Int.eq_ofNat_of_zero_le L0
      rw [Int.toNat_natCast] at q
      refine ⟨_, (pss_cons (ps_if (pt_cmpR op_gt (pv 3) (pe_ix (ix_listK (K := K)) (pe_dgetN (w := w) rfl (hu9 hr) (pv 0) pe_non (fun _ _ => rfl)) (pv 1) (fun _ _ => rfl)) (nomark _)) (pss_one (ps_ret pe_int)) pss_nil)
  (pss_cons (ps_if (pt_cmpR op_eq (pv 1) pe_int (nomark _)) (pss_one (ps_ret pe_int)) pss_nil)
  (pss_cons (ps_if (pt_cmp (pc_dnotinN (w := w) rfl (hu9 hr) (pe_tup (pa_cons (pv 1) (pa_cons (pv 3) pa_nil))) (pv 0)) (by rfl)) (pss_cons (ps_set (i := 4) sc_law_count.nd rfl (Or.inl rfl) pe_int)
  (pss_cons (ps_for PassesOwn.never rfl (pi_range2 (by rfl) B.range (pa_cons pe_int (pa_cons (pe_op op_add (pv 2) pe_int) pa_nil))) (pg_name (i := 5) sc_law_count.nd rfl (Or.inl rfl))
   (pss_one (ps_aug (i := 4) sc_law_count.nd rfl (Or.inl rfl) (pe_c c_law_count hr (by first | decide | omega) (by rfl) (pa_cons (pv 0) (pa_cons (pe_op op_sub (pv 1) pe_int) (pa_cons (pv 2) (pa_cons (pe_c c_law_least hr (by first | decide | omega) (by rfl) (pa_cons (pv 5) (pa_cons (pv 3) pa_nil))) pa_nil))))) ip_add)))
  (pss_one (ps_dputN (w := w) rfl (hu9 hr) (pv 0) (pe_tup (pa_cons (pv 1) (pa_cons (pv 3) pa_nil))) (pv 4) rfl)))) pss_nil)
  (pss_one (ps_ret (pe_dgetN (w := w) rfl (hu9 hr) (pv 0) (pe_tup (pa_cons (pv 1) (pa_cons (pv 3) pa_nil))) (fun _ _ => rfl))))))), ?_⟩
      have ngl := hd.ne hg
      have kn : KeyV H none .non := rfl
      have vn := kvsN_none (gl := gl) (g := g) (ps := ps)
      have a1 : atI (iv (grs g N)) ((n : Nat) : Int) = some (.int (gr g n)) := atI_nat (by rw [List.getElem?_map, grs_get (by omega)]; rfl)
      walk_at "sq go"
      refine ifD (fun c => ?_) (fun c => ?_)
      · walk_at "sq go"
        have e := cnt_gt (g := g) (n := n) (L := (L : Int)) c
        rw [e] at q
        exact q _ _ (.refl _ _) hd po
      · walk_at "sq go"
        refine ifI (fun c0 => ?_) (fun c0 => ?_)
        · have n0 : n = 0 := by omega
          subst n0
          have e : cntC g 0 (L : Int) = 1 := if_neg c
          rw [e] at q
          walk_at "sq go"
          exact q _ _ (.refl _ _) hd po
        · obtain ⟨m, rfl⟩ : ∃ m, n = m + 1 := ⟨n - 1, by omega⟩
          clear kn vn
          walk_at "sq go"
          intro T nT
          have sT := same_new (o := .tup [.int ((m + 1 : Nat) : Int), .int (L : Nat)]) nT
          have hd1 := hd.same sT
          have hg1 := sT _ _ hg
          have nTd : T ≠ d := fun z => by
            obtain ⟨ys, e, _⟩ := hd
            rw [z, e] at nT
            cases nT
          have kt : KeyV (upd H T (.tup [.int ((m + 1 : Nat) : Int), .int (L : Nat)])) (some (((m + 1 : Nat) : Int), (L : Int))) (.ref T) := ⟨T, rfl, upd_same⟩
          generalize upd H T (.tup [.int ((m + 1 : Nat) : Int), .int (L : Nat)]) = H1 at sT hd1 hg1 kt ⊢
          walk_at "sq go"
          have ev := kvsN_get (gl := gl) (g := g) (ps := ps) (n := m + 1) (L := L)
          by_cases c2 : (m + 1, L) ∈ ps
          · rw [ev, if_pos c2]
            walk_at "sq go"
            intro T2 nT2
            have sT2 := same_new (o := .tup [.int ((m + 1 : Nat) : Int), .int (L : Nat)]) nT2
            have hdy := hd1.same sT2
            have kt2 : KeyV (upd H1 T2 (.tup [.int ((m + 1 : Nat) : Int), .int (L : Nat)])) (some (((m + 1 : Nat) : Int), (L : Int))) (.ref T2) := ⟨T2, rfl, upd_same⟩
            have vy : valV (kvsN gl g ps) (some (((m + 1 : Nat) : Int), (L : Int))) = some (.int (cntC g (m + 1) L)) := by rw [kvsN_get, if_pos c2]
            walk_at "sq go"
            exact q _ _ ((But.of (o := d) sT).trans (.of sT2)) hdy po
          · rw [ev, if_neg c2]
            walk_at "sq go"
            refine for_range (lo := 2) (n := (g + 1 - 2).toNat) (fun i σ H' => Keep (∃ (x : Option V) (ps' : List (Nat × Nat)), σ = [some (.ref d), some (.int ((m + 1 : Nat) : Int)), some (.int g), some (.int (L : Nat)), some (.int (((List.range i).map fun j => cntC g m (lst (2 + (j : Nat)) (L : Int))).sum)), x] ∧ But d H H' ∧ DN w H' d (kvsN gl g ps') ∧ PsOk ps')) ⟨none, ps, rfl, .of sT, hd1, po⟩ (fun i σ H' hi h => ?_) (fun σ H' h => ?_)
            · obtain ⟨x, ps', rfl, bt, hd2, po2⟩ := h.o
              have hg2 := bt _ _ ngl hg
              have lb := lst_bd (k := 2 + ((i : Nat) : Int)) (L := (L : Int)) (by omega) (by omega)
              have lb2 : lst (2 + ((i : Nat) : Int)) (L : Int) ≤ 20000 := Int.le_trans lb.2 (by split <;> omega)
              walk_at "sq go"
              refine ⟨⟨by omega, by omega, by omega, by omega⟩, ?_⟩
              walk_at "sq go"
              refine ⟨⟨by omega, by omega, by omega, N8, g2, g60, by omega, lb2, po2⟩, fun H2 ps2 b2 d2 p2 => ?_⟩
              rw [show (((m + 1 : Nat) : Int) - 1).toNat = m by omega]
              walk_at "sq go"
              have es : ((List.range (i + 1)).map fun j => cntC g m (lst (2 + (j : Nat)) (L : Int))).sum = ((List.range i).map fun j => cntC g m (lst (2 + (j : Nat)) (L : Int))).sum + cntC g m (lst (2 + (i : Nat)) (L : Int)) := by
                rw [List.range_succ, List.map_append, List.sum_append]
                simp
              refine ⟨some (.int (2 + ((i : Nat) : Int))), ps2, ?_, bt.trans b2, d2, p2⟩
              rw [es]
              rfl
            · obtain ⟨x, ps', rfl, bt, hd2, po2⟩ := h.o
              rw [show (g + 1 - 2).toNat = (g - 1).toNat by omega, ← cnt_le1 g2 g60 (by omega) c]
              walk_at "sq go"
              intro T3 nT3
              have sT3 := same_new (o := .tup [.int ((m + 1 : Nat) : Int), .int (L : Nat)]) nT3
              have hd4 := hd2.same sT3
              have kt3 : KeyV (upd H' T3 (.tup [.int ((m + 1 : Nat) : Int), .int (L : Nat)])) (some (((m + 1 : Nat) : Int), (L : Int))) (.ref T3) := ⟨T3, rfl, upd_same⟩
              have lz := kvsN_len (gl := gl) (g := g) po2
              obtain ⟨ps2, ep, po3, mem3⟩ := kvsN_put (gl := gl) (g := g) po2 (n := m + 1) (L := L) (by omega) (by omega)
              walk_at "sq go"
              intro o hdo nt
              rw [ep] at hdo
              have bt3 := bt.trans ((But.of sT3).trans (.put (u := o)))
              have hd3 := hdo
              generalize upd (upd H' T3 (.tup [.int ((m + 1 : Nat) : Int), .int (L : Nat)])) d o = H3 at hd3 bt3 ⊢
              walk_at "sq go"
              intro T2 nT2
              have sT2 := same_new (o := .tup [.int ((m + 1 : Nat) : Int), .int (L : Nat)]) nT2
              have hdy := hd3.same sT2
              have kt2 : KeyV (upd H3 T2 (.tup [.int ((m + 1 : Nat) : Int), .int (L : Nat)])) (some (((m + 1 : Nat) : Int), (L : Int))) (.ref T2) := ⟨T2, rfl, upd_same⟩
              have vy : valV (kvsN gl g ps2) (some (((m + 1 : Nat) : Int), (L : Int))) = some (.int (cntC g (m + 1) L)) := by rw [kvsN_get, if_pos mem3]
              walk_at "sq go"
              exact q _ _ ((bt3).trans (.of sT2)) hdy po3
abbrev s_law_before : Stmt := topS 26
theorem sc_law_before : FnScope ["known", "one", "largest", "far", "found", "place", "k"] ["known", "one", "largest", "far"] (defScope s_law_before) := ⟨rfl, rfl, rfl, by decide +kernel, rfl, by decide +kernel, by decide +kernel⟩

def spBefore25 (w : World) : Sp := fun vs H Q _ => ∃ (d gl p : Addr) (ns : List Int) (g L : Int) (N : Nat) (ps : List (Nat × Nat)), vs = [.ref d, .ref p, .int g, .int L] ∧ DN w H d (kvsN gl g ps) ∧ H gl = some (.lst (iv (grs g N))) ∧ H p = some (.lst (iv ns)) ∧ Keep (ns.length ≤ N ∧ N ≤ 8 ∧ 2 ≤ g ∧ g ≤ 60 ∧ (∀ k ∈ ns, 2 ≤ k ∧ k ≤ g) ∧ 0 ≤ L ∧ L ≤ 20000 ∧ PsOk ps) ∧
  ∀ H' ps', But d H H' → DN w H' d (kvsN gl g ps') → PsOk ps' → Q (.int (befL g ns L)) H'
/-- what is left, what is needed behind i replacements -/
def farL (ns : List Int) (L : Int) (i : Nat) : Int := (ns.take i).foldl (fun l k => lst k l) L
theorem farL_succ {ns : List Int} {L : Int} {i : Nat} {k : Int} (h : ns[i]? = some k) : farL ns L (i + 1) = lst k (farL ns L i) := by
  unfold farL
  rw [List.take_add_one, h, List.foldl_append]
  rfl
theorem farL_bd {ns : List Int} {L : Int} (h : Two ns) (h0 : 0 ≤ L) (h1 : L ≤ 20000) : ∀ i, i ≤ ns.length → 0 ≤ farL ns L i ∧ farL ns L i ≤ 20000
  | 0, _ => ⟨h0, h1⟩
  | i + 1, hi => by
    have ih := farL_bd h h0 h1 i (by omega)
    have e := List.getElem?_eq_getElem (l := ns) (i := i) (by omega)
    rw [farL_succ e]
    have b := lst_bd (k := ns[i]) (h _ (List.getElem_mem _)) ih.1
    refine ⟨by omega, Int.le_trans b.2 ?_⟩
    split <;> omega
theorem befL_at {g : Int} {ns : List Int} {L : Int} {i : Nat} {k : Int} (h : ns[i]? = some k) : befL g (ns.drop i) (farL ns L i) = ((List.range (k - 2).toNat).map fun j => cntC g (ns.length - (i + 1)) (lst (2 + (j : Nat)) (farL ns L i))).sum + befL g (ns.drop (i + 1)) (farL ns L (i + 1)) := by
  have hi := (List.getElem?_eq_some_iff.mp h).1
  have e : ns.drop i = k :: ns.drop (i + 1) := by
    rw [List.drop_eq_getElem_cons hi]
    congr 1
    exact (List.getElem?_eq_some_iff.mp h).2
  rw [e, farL_succ h]
  show ((List.range (k - 2).toNat).map fun j => cntC g (ns.drop (i + 1)).length (lst (2 + (j : Nat)) (farL ns L i))).sum + _ = _
  rw [List.length_drop]
local macro_rules | `(tactic| walk_at "sq side") => `(tactic| first
  | ((with_reducible show KeyV _ _ _); assumption)
  | ((with_reducible show valV _ _ = some _); assumption)
  | ((with_reducible show DN _ _ _ _); assumption)
  | ((with_reducible show _[_]? = some _); assumption))
theorem cal_before25 (D : DefAt K mg "_law_before" s_law_before ["known", "one", "largest", "far"]) (B : Bt mg) (c_law_least : Cal P w K mg base 1 "_law_least" spLeast []) (c_law_count : Cal P w K mg base 10 "_law_count" (spLCount w 9) []) : Cal P w K mg base 11 "_law_before" (spBefore25 w) [] := by
  refine D.cal sc_law_before (fun vs H Q E h => ?_) (fun f cdv A outer s H vs Q E hr h => ?_)
  · obtain ⟨d, gl, p, ns, g, L, N, ps, rfl, _⟩ := h
    rfl
  · obtain ⟨d, gl, p, ns, g, L, N, ps, rfl, hd, hg, hp, ⟨nN, N8, g2, g60, hk, L0, l2, po⟩, q⟩ := h
    refine ⟨_, (pss_cons (ps_set (i := 4) sc_law_before.nd rfl (Or.inl rfl) pe_int)
  (pss_cons (ps_for PassesOwn.never rfl (pi_range1 (by rfl) B.range (pa_cons (pe_callB (len_seqK (K := K)) (by rfl) B.len boot_len (pa_cons (pv 1) pa_nil)) pa_nil)) (pg_name (i := 5) sc_law_before.nd rfl (Or.inl rfl))
   (pss_cons (ps_for PassesOwn.never rfl (pi_range2 (by rfl) B.range (pa_cons pe_int (pa_cons (pe_ix (ix_listK (K := K)) (pv 1) (pv 5) (fun _ _ => rfl)) pa_nil))) (pg_name (i := 6) sc_law_before.nd rfl (Or.inl rfl))
   (pss_one (ps_aug (i := 4) sc_law_before.nd rfl (Or.inl rfl) (pe_c c_law_count hr (by first | decide | omega) (by rfl) (pa_cons (pv 0) (pa_cons (pe_op op_sub (pe_op op_sub (pe_callB (len_seqK (K := K)) (by rfl) B.len boot_len (pa_cons (pv 1) pa_nil)) (pv 5)) pe_int) (pa_cons (pv 2) (pa_cons (pe_c c_law_least hr (by first | decide | omega) (by rfl) (pa_cons (pv 6) (pa_cons (pv 3) pa_nil))) pa_nil))))) ip_add)))
  (pss_one (ps_set (i := 3) sc_law_before.nd rfl (Or.inl rfl) (pe_c c_law_least hr (by first | decide | omega) (by rfl) (pa_cons (pe_ix (ix_listK (K := K)) (pv 1) (pv 5) (fun _ _ => rfl)) (pa_cons (pv 3) pa_nil)))))))
  (pss_one (ps_ret (pv 4))))), ?_⟩
    have ngl := hd.ne hg
    have npd := hd.ne hp
    have two : Two ns := fun k h => (hk k h).1
    have el : (iv ns).length = ns.length := iv_len _
    walk_at "sq go"
    rw [show (((iv ns).length : Nat) : Int).toNat = ns.length by rw [el]; omega]
    refine for_range (lo := 0) (n := ns.length) (fun i σ H' => Keep (∃ (x y : Option V) (fo : Int) (ps' : List (Nat × Nat)), σ = [some (.ref d), some (.ref p), some (.int g), some (.int (farL ns L i)), some (.int fo), x, y] ∧ But d H H' ∧ DN w H' d (kvsN gl g ps') ∧ PsOk ps' ∧ fo + befL g (ns.drop i) (farL ns L i) = befL g ns L)) ⟨none, none, 0, ps, rfl, .refl _ _, hd, po, by rw [Int.zero_add]; rfl⟩ (fun i σ H' hi h => ?_) (fun σ H' h => ?_)
    · obtain ⟨x, y, fo, ps', rfl, bt, hd2, po2, eq⟩ := h.o
      have hp2 := bt _ _ npd hp
      obtain ⟨k, ek⟩ : ∃ k, ns[i]? = some k := ⟨_, List.getElem?_eq_getElem hi⟩
      have kb := hk k (List.mem_of_getElem? ek)
      have ak : atI (iv ns) ((i : Nat) : Int) = some (.int k) := atI_nat (by rw [List.getElem?_map, ek]; rfl)
      have ak0 : atI (iv ns) (0 + ((i : Nat) : Int)) = some (.int k) := by rw [Int.zero_add]; exact ak
      have fb := farL_bd two L0 l2 i (by omega)
      rw [befL_at ek] at eq
      walk_at "sq go"
      refine for_range (lo := 2) (n := (k - 2).toNat) (fun t σ H3 => Keep (∃ (y : Option V) (ps2 : List (Nat × Nat)), σ = [some (.ref d), some (.ref p), some (.int g), some (.int (farL ns L i)), some (.int (fo + ((List.range t).map fun j => cntC g (ns.length - (i + 1)) (lst (2 + (j : Nat)) (farL ns L i))).sum)), some (.int (0 + ((i : Nat) : Int))), y] ∧ But d H H3 ∧ DN w H3 d (kvsN gl g ps2) ∧ PsOk ps2)) ⟨y, ps', by simp [List.set], bt, hd2, po2⟩ (fun t σ H3 ht h => ?_) (fun σ H3 h => ?_)
      · obtain ⟨y, ps2, rfl, bt2, hd3, po3⟩ := h.o
        have hg3 := bt2 _ _ ngl hg
        have hp3 := bt2 _ _ npd hp
        have lb := lst_bd (k := 2 + ((t : Nat) : Int)) (L := farL ns L i) (by omega) fb.1
        have lb2 : lst (2 + ((t : Nat) : Int)) (farL ns L i) ≤ 20000 := Int.le_trans lb.2 (by split <;> omega)
        walk_at "sq go"
        refine ⟨⟨by omega, by omega, by omega, by omega⟩, ?_⟩
        walk_at "sq go"
        refine ⟨⟨by omega, by omega, by omega, N8, g2, g60, by omega, lb2, po3⟩, fun H2 ps4 b2 d2 p2 => ?_⟩
        rw [show (((iv ns).length : Nat) : Int) - (0 + ((i : Nat) : Int)) - 1 = ((ns.length - (i + 1) : Nat) : Int) by rw [el]; omega, Int.toNat_natCast]
        walk_at "sq go"
        have es : ((List.range (t + 1)).map fun j => cntC g (ns.length - (i + 1)) (lst (2 + (j : Nat)) (farL ns L i))).sum = ((List.range t).map fun j => cntC g (ns.length - (i + 1)) (lst (2 + (j : Nat)) (farL ns L i))).sum + cntC g (ns.length - (i + 1)) (lst (2 + (t : Nat)) (farL ns L i)) := by
          rw [List.range_succ, List.map_append, List.sum_append]
          simp
        refine ⟨some (.int (2 + ((t : Nat) : Int))), ps4, ?_, bt2.trans b2, d2, p2⟩
        rw [es, ← Int.add_assoc]
        rfl
      · obtain ⟨y, ps2, rfl, bt2, hd3, po3⟩ := h.o
        have hp3 := bt2 _ _ npd hp
        walk_at "sq go"
        refine ⟨⟨kb.1, by omega, fb.1, fb.2⟩, ?_⟩
        walk_at "sq go"
        refine ⟨_, _, fo + ((List.range (k - 2).toNat).map fun j => cntC g (ns.length - (i + 1)) (lst (2 + (j : Nat)) (farL ns L i))).sum, ps2, by rw [farL_succ ek]; rfl, bt2, hd3, po3, ?_⟩
        rw [← eq]
        omega
    · obtain ⟨x, y, fo, ps', rfl, bt, hd2, po2, eq⟩ := h.o
      rw [List.drop_length] at eq
      have e : befL g ns L = fo := by
        rw [← eq]
        show fo + 0 = fo
        omega
      rw [e] at q
      walk_at "sq go"
      exact q _ _ bt hd2 po2

/-- the law's dict is quiet -/
theorem dn_quiet {w : World} {r d0 dd : Addr} {N : Int} {G H : Hp} {kvs : List (KP × V)} (s : Sep (rgD r d0 N) G H) (h : DN w H dd kvs) : ∃ G', Same G G' ∧ Sep (rgD r d0 N) G' H ∧ DN w G' dd kvs ∧ ∀ a, ¬ (a = r ∨ a = d0) → G' a = H a := by
  obtain ⟨G', s1, s2, e⟩ := s.full
  obtain ⟨ds, a, t, m, h1, h2, _⟩ := id s.inv
  obtain ⟨xs, ex, rel⟩ := h
  have nd : ¬ (dd = r ∨ dd = d0) := fun z => by
    rcases z with rfl | rfl
    · rw [ex] at h1; cases h1
    · rw [ex] at h2; cases h2
  refine ⟨G', s1, s2, ⟨xs, by rw [e dd nd]; exact ex, rel.keep fun b ys z => ?_⟩, e⟩
  rw [e b fun y => ?_]
  · exact z
  · rcases y with rfl | rfl
    · rw [z] at h1; cases h1
    · rw [z] at h2; cases h2
theorem gr_up {g : Int} (hg : 2 ≤ g) (g60 : g ≤ 60) {n : Nat} (hn : n ≤ 8) : gr g n < 2 ^ 70 := by
  have a := gr_le hg g60 n
  refine Int.lt_of_le_of_lt a ?_
  rcases (show n = 0 ∨ n = 1 ∨ n = 2 ∨ n = 3 ∨ n = 4 ∨ n = 5 ∨ n = 6 ∨ n = 7 ∨ n = 8 by omega) with z | z | z | z | z | z | z | z | z <;> rw [z] <;> decide
theorem nth_mem {g : Int} (hg : 2 ≤ g) (g60 : g ≤ 60) {n : Nat} {L x : Int} {ns : List Int} (hL : 0 ≤ L) (h0 : 0 ≤ x) (h1 : x < cntC g n L) (e : nthC g n L x = some ns) : (∀ k ∈ ns, 2 ≤ k ∧ k ≤ g) ∧ L ≤ reachOf ns 1 ∧ befL g ns L = x := by
  have z := nth_due hg g60 hL h0 h1
  rw [e] at z
  have m := List.mem_of_getElem? z.symm
  unfold dueL at m
  obtain ⟨m1, m2⟩ := List.mem_filter.mp m
  obtain ⟨_, b⟩ := allL_mem m1
  have two : Two ns := fun k hk => (b k hk).1
  exact ⟨b, of_decide_eq_true m2, (befL_is hg g60 two hL).trans (nth_bef hg g60 hL h0 e h1).2⟩
abbrev s_law : Stmt := topS 28
theorem sc_law : FnScope ["script", "bag", "turn", "many", "largest", "drawn", "far", "known", "due", "spot", "told", "number", "k"] ["script"] (defScope s_law) := ⟨rfl, rfl, rfl, by decide +kernel, rfl, by decide +kernel, by decide +kernel⟩

def spLaw (K : PySem.W.Frag) : Sp := fun vs H Q _ => ∃ (a : Addr) (ns : List Int), vs = [.ref a] ∧ SqL K H a (iv ns) ∧ ns.length ≤ 63 ∧ ∀ H', Q (.bl true) H'
local macro_rules | `(tactic| walk_at "sq side") => `(tactic| first
  | ((with_reducible show DN _ _ _ _); assumption)
  | ((with_reducible show _[_]? = some _); assumption))
theorem ok_law {f : Addr} {fd : FuncData} (F : Fun K "law" "law" s_law f fd) (B : Bt mg) (c_law_bag : Cal P w K mg base 1 "_law_bag" (spBag K) []) (c_law_draw : Cal P w K mg base 1 "_law_draw" spDrawD []) (c_law_reach : Cal P w K mg base 1 "_law_reach" (spLReach K) []) (c_law_most : Cal P w K mg base 1 "_law_most" spMost25 [])
    (c_law_count : Cal P w K mg base 10 "_law_count" (spLCount w 9) []) (c_law_before : Cal P w K mg base 11 "_law_before" (spBefore25 w) []) (c_count_lists : Cal P w K mg base 20 "count_lists" spCount3 []) (c_nth_list : Cal P w K mg base 20 "nth_list" spNth4 []) (c_law_is_refused : Cal P w K mg base 22 "_law_is_refused" spRefused [])
    (c_reach1 : Cal P w K mg base 3 "reach" (spReach K) [.int 1]) : FnG P w K mg base CX0 24 f fd ["script"] (spLaw K) := by
  refine okG F sc_law (fun vs H Q E h => ?_) (fun cdv A outer s H vs Q E hG hr h => ?_)
  · obtain ⟨a, ns, rfl, _⟩ := h
    rfl
  · obtain ⟨p0, ns0, rfl, hP, hl, q⟩ := h
    refine ⟨_, (pss_cons (ps_set (i := 1) sc_law.nd rfl (Or.inr rfl) (pe_c c_law_bag hr (by first | decide | omega) (by rfl) (pa_cons (pv 0) pa_nil)))
  (pss_cons (ps_for PassesOwn.never rfl (pi_range1 (by rfl) B.range (pa_cons (pe_op op_add pe_int (pe_callB (call_min2 rfl) (by rfl) B.min (by decide +kernel) (pa_cons pe_int (pa_cons (pe_callB (len_seqK (K := K)) (by rfl) B.len boot_len (pa_cons (pv 0) pa_nil)) pa_nil)))) pa_nil)) (pg_name (i := 2) sc_law.nd rfl (Or.inl rfl))
   (pss_cons (ps_asg (pe_tup (pa_cons (pe_c c_law_draw hr (by first | decide | omega) (by rfl) (pa_cons (pv 1) (pa_cons pe_int pa_nil))) (pa_cons (pe_op op_add pe_int (pe_c c_law_draw hr (by first | decide | omega) (by rfl) (pa_cons (pv 1) (pa_cons (pe_ix (ix_tupK (K := K)) (pe_tup (pa_cons pe_int (pa_cons pe_int pa_nil))) (pe_c c_law_draw hr (by first | decide | omega) (by rfl) (pa_cons (pv 1) (pa_cons pe_int pa_nil))) (fun _ _ => rfl)) pa_nil)))) pa_nil))) (pg_tupK (K := K) (n := 2) rfl (pgs_cons (pg_name (i := 3) sc_law.nd rfl (Or.inl rfl)) (pgs_cons (pg_name (i := 4) sc_law.nd rfl (Or.inr rfl)) pgs_nil))))
  (pss_cons (ps_setLc (i := 5) (own := [("number", 11)]) (g := gName 11) (by rfl) sc_law.nd rfl rfl (sw_true rfl rfl rfl (by decide +kernel)) (pi_range1 (by rfl) B.range (pa_cons (pv 3) pa_nil)) (blkOk_by (own := [("number", 11)]) (N := ["script", "bag", "turn", "many", "largest", "drawn", "far", "known", "due", "spot", "told", "number", "k"]) (sc := defScope s_law) (by decide +kernel)) (fun _ _ _ _ _ => (pg_name (i := 11) sc_law.nd rfl (Or.inl rfl))) (fun _ _ _ _ _ => pts_nil) (fun _ _ _ _ _ => (pe_op op_add pe_int (pe_c c_law_draw hr (by first | decide | omega) (by rfl) (pa_cons (pv 1) (pa_cons (pe_op op_sub (pv 4) pe_int) pa_nil))))))
  (pss_cons (ps_set (i := 6) sc_law.nd rfl (Or.inl rfl) (pe_ix (ix_tupK (K := K)) (pe_tup (pa_cons (pe_c c_law_reach hr (by first | decide | omega) (by rfl) (pa_cons (pv 5) pa_nil)) (pa_cons (pe_c c_law_draw hr (by first | decide | omega) (by rfl) (pa_cons (pv 1) (pa_cons (pe_op op_add pe_int (pe_c c_law_reach hr (by first | decide | omega) (by rfl) (pa_cons (pv 5) pa_nil))) pa_nil))) (pa_cons pe_int pa_nil)))) (pe_op op_fdivW (pe_c c_law_draw hr (by first | decide | omega) (by rfl) (pa_cons (pv 1) (pa_cons pe_int pa_nil))) pe_int) (fun _ _ => rfl)))
  (pss_cons (ps_set (i := 6) sc_law.nd rfl (Or.inl rfl) (pe_callB (call_min2 rfl) (by rfl) B.min (by decide +kernel) (pa_cons pe_int (pa_cons (pv 6) pa_nil))))
  (pss_cons (ps_set (i := 7) sc_law.nd rfl (Or.inl rfl) (pe_dispN (w := w) rfl pe_non (pe_c c_law_most hr (by first | decide | omega) (by rfl) (pa_cons (pv 3) (pa_cons (pv 4) pa_nil)))))
  (pss_cons (ps_set (i := 8) sc_law.nd rfl (Or.inl rfl) (pe_c c_law_count hr (by first | decide | omega) (by rfl) (pa_cons (pv 7) (pa_cons (pv 3) (pa_cons (pv 4) (pa_cons (pv 6) pa_nil))))))
  (pss_cons (ps_if (pt_cmpR op_ne (pe_callB (call_reprVK (K := K) hG hr.units) (by rfl) B.repr (by decide +kernel) (pa_cons (pe_c c_count_lists hr (by first | decide | omega) (by rfl) (pa_cons (pv 3) (pa_cons (pv 4) (pa_cons (pv 6) pa_nil)))) pa_nil)) (pe_callB (call_reprVK (K := K) hG hr.units) (by rfl) B.repr (by decide +kernel) (pa_cons (pv 8) pa_nil)) (nomark _)) (pss_one (ps_ret pe_bl)) pss_nil)
  (pss_cons (ps_if (pt_not (pt_val (pe_c c_law_is_refused hr (by first | decide | omega) (by rfl) (pa_cons (pv 3) (pa_cons (pv 4) (pa_cons (pv 6) (pa_cons (pv 8) pa_nil))))))) (pss_one (ps_ret pe_bl)) pss_nil)
  (pss_one (ps_for PassesOwn.never rfl (pi_tup (pe_tup (pa_cons pe_int (pa_cons (pe_op op_sub (pv 8) pe_int) (pa_cons (pe_c c_law_draw hr (by first | decide | omega) (by rfl) (pa_cons (pv 1) (pa_cons (pe_callB (call_max2 rfl) (by rfl) B.max (by decide +kernel) (pa_cons pe_int (pa_cons (pv 8) pa_nil))) pa_nil))) (pa_cons (pe_c c_law_draw hr (by first | decide | omega) (by rfl) (pa_cons (pv 1) (pa_cons (pe_callB (call_max2 rfl) (by rfl) B.max (by decide +kernel) (pa_cons pe_int (pa_cons (pv 8) pa_nil))) pa_nil))) pa_nil)))))) (pg_name (i := 9) sc_law.nd rfl (Or.inl rfl))
   (pss_one (ps_if (pt_chain op_le op_lt pe_int (pv 9) (pv 8)) (pss_cons (ps_set (i := 10) sc_law.nd rfl (Or.inl rfl) (pe_c c_nth_list hr (by first | decide | omega) (by rfl) (pa_cons (pv 3) (pa_cons (pv 4) (pa_cons (pv 6) (pa_cons (pv 9) pa_nil))))))
  (pss_cons (ps_if (PW.pt (pw_or (pt_cmpR op_ne (pe_callB (len_seqK (K := K)) (by rfl) B.len boot_len (pa_cons (pv 10) pa_nil)) (pv 3) (nomark _)) (pw_or1 (pt_not (pt_val (pe_callB (cr_allK (K := K) rfl) (by rfl) B.all (by decide +kernel) (pa_cons (pe_lc (own := [("k", 12)]) (g := gName 12) (by rfl) sc_law.nd (pi_listK (K := K) (pv 10)) (blkOk_by (own := [("k", 12)]) (N := ["script", "bag", "turn", "many", "largest", "drawn", "far", "known", "due", "spot", "told", "number", "k"]) (sc := defScope s_law) (by decide +kernel)) (fun _ _ _ _ _ => (pg_name (i := 12) sc_law.nd rfl (Or.inl rfl))) (fun _ _ _ _ _ => pts_nil) (fun _ _ _ _ _ => (pe_chain op_le op_le pe_int (pv 12) (pv 4)))) pa_nil))))))) (pss_one (ps_ret pe_bl)) pss_nil)
  (pss_cons (ps_if (PW.pt (pw_or (pt_cmpR op_lt (pe_c c_reach1 hr (by first | decide | omega) (by rfl) (pa_cons (pv 10) pa_nil)) (pv 6) (nomark _)) (pw_or1 (pt_cmpR op_ne (pe_c c_law_before hr (by first | decide | omega) (by rfl) (pa_cons (pv 7) (pa_cons (pv 10) (pa_cons (pv 4) (pa_cons (pv 6) pa_nil))))) (pv 9) (nomark _))))) (pss_one (ps_ret pe_bl)) pss_nil)
  (pss_cons (ps_expr (pe_bm PySem.F.plainAttrs_list PySem.F.slot_list_append PySem.F.type_list_append mt_append (pv 10) (pa_cons pe_int pa_nil)))
  (pss_one (ps_if (pt_cmpR op_ne (pe_callB (len_seqK (K := K)) (by rfl) B.len boot_len (pa_cons (pe_c c_nth_list hr (by first | decide | omega) (by rfl) (pa_cons (pv 3) (pa_cons (pv 4) (pa_cons (pv 6) (pa_cons (pv 9) pa_nil))))) pa_nil)) (pv 3) (nomark _)) (pss_one (ps_ret pe_bl)) pss_nil)))))) pss_nil)))))))))))))
  (pss_one (ps_ret pe_bl)))), ?_⟩
    have el : (iv ns0).length = ns0.length := iv_len _
    walk_at "sq go"
    intro r d H1 s1 hS
    have hP1 := s1.seq hP
    walk_at "sq go"
    refine for_range (lo := 0) (n := _) (fun i σ H' => Keep (∃ x2 x3 x4 x5 x6 x7 x8 x9 x10 x11 x12, σ = [some (.ref p0), some (.ref r), x2, x3, x4, x5, x6, x7, x8, x9, x10, x11, x12] ∧ Sep (rgD r d (100 * i)) H H' ∧ i ≤ 6)) ⟨_, _, _, _, _, _, _, _, _, _, _, rfl, SepD.mono hS (by omega), by omega⟩ (fun i σ H' hi h => ?_) (fun σ H' h => ?_)
    · obtain ⟨x2, x3, x4, x5, x6, x7, x8, x9, x10, x11, x12, rfl, hs, hi8⟩ := h.o
      have hi9 : i + 1 ≤ 6 := by (repeat' split at hi) <;> omega
      walk_at "sq go"
      refine ⟨⟨by decide, by decide, by omega⟩, fun nv J1 n0 n9 hs1 => ?_⟩
      obtain ⟨n, rfl⟩ := Int.eq_ofNat_of_zero_le n0
      walk_at "sq go"
      intro T1 nT1
      obtain ⟨G1, J2, eqJ, t1, g1, h1, hs2⟩ := hs1.box nT1 (.tup [.int 8, .int 59])
      rw [show upd J1 T1 _ = J2 from eqJ]
      walk_at "sq go"
      refine ⟨⟨by decide, by decide, by omega⟩, fun y1 J3 y10 y12 hs3 => ?_⟩
      have h1' := hs3.get g1
      obtain ⟨top, et, t2, t59⟩ : ∃ top : Int, atI [V.int 8, V.int 59] y1 = some (.int top) ∧ 1 ≤ top ∧ top ≤ 59 := by
        rcases (show y1 = 0 ∨ y1 = 1 by omega) with z | z <;> rw [z]
        · exact ⟨8, atI_nat (j := 0) rfl, by decide, by decide⟩
        · exact ⟨59, atI_nat (j := 1) rfl, by decide, by decide⟩
      walk_at "sq go"
      refine ⟨⟨by omega, by omega, by omega⟩, fun gv J4 g0 gt hs4 => ?_⟩
      obtain ⟨g, eg⟩ : ∃ g : Int, g = 2 + gv := ⟨_, rfl⟩
      have g2 : 2 ≤ g := by omega
      have g60 : g ≤ 60 := by omega
      walk_at "sq go"
      intro T2 nT2
      obtain ⟨G2, J5, eqJ5, t3, g2', h2, hs5⟩ := hs4.box nT2 (.tup [.int (n : Nat), .int (2 + gv)])
      rw [show upd J4 T2 _ = J5 from eqJ5]
      have tG2 : Same H G2 := t1.trans t3
      clear hs1 hs2 hs3 hs4 eqJ eqJ5 h1 h1' g1 t1 t3
      walk_at "sq go"
      intro D nD
      have gD := hs5.free nD
      rw [← eg]
      refine lc_range (lo := 0) (n := n) (fun t H3 => Keep (∃ ms : List Int, Sep (rgD r d (100 * i + 3 + t)) (upd G2 D (.lst (iv ms))) H3 ∧ ms.length = t ∧ ∀ k ∈ ms, 2 ≤ k ∧ k ≤ g)) ⟨[], SepD.mono (hs5.new nD _) (by omega), rfl, fun k hk => by cases hk⟩ (fun t H3 ht h => ?_) (fun H3 h => ?_)
      · obtain ⟨ms, hs6, lm, bm⟩ := h.o
        walk_at "sq go"
        refine ⟨⟨by omega, by omega, by omega⟩, fun v H4 v0 v1 hs7 => ?_⟩
        have gD7 := hs7.get upd_same
        have lz : (iv ms).length < sizeLine := by
          rw [iv_len]
          exact small1000 (by omega)
        walk_at "sq go"
        refine ⟨ms ++ [2 + v], ?_, by simp [lm], fun k hk => ?_⟩
        · have z := hs7.put upd_same (.lst (iv ms ++ [.int (2 + v)]))
          rw [upd_upd, iv_app] at z
          rw [iv_app]
          exact SepD.mono z (by omega)
        · rcases List.mem_append.mp hk with z | z
          · exact bm k z
          · rw [List.mem_singleton.mp z]
            omega
      · obtain ⟨ms, hs6, lm, bm⟩ := h.o
        have gD6 := hs6.get upd_same
        have hD6 := seqL_of (K := K) gD6
        have sml : Sml ms := ⟨fun k hk => by have := bm k hk; omega, by omega⟩
        have R1 := reach_pos (m := 1) (row := ms) (by decide) sml.mid.two
        have Ru : reachOf ms 1 < 2 ^ 70 := Int.lt_of_le_of_lt (reach_gr g2 g60 lm bm) (gr_up g2 g60 (by omega))
        walk_at "sq go"
        refine ⟨⟨sml⟩, fun H4 s4 => ?_⟩
        have hs7 := hs6.on s4
        have hD7 := seqL_of (K := K) (hs7.get upd_same)
        walk_at "sq go"
        refine ⟨⟨sml⟩, fun H5 s5 => ?_⟩
        have hs8 := hs7.on s5
        walk_at "sq go"
        refine ⟨⟨by omega, by omega, by omega⟩, fun y2 H6 y20 y21 hs9 => ?_⟩
        walk_at "sq go"
        intro T3 nT3
        obtain ⟨G3, J6, eqJ6, t4, g3, h3, hs10⟩ := hs9.box nT3 (.tup [.int (reachOf ms 1), .int y2, .int 10000])
        rw [show upd H6 T3 _ = J6 from eqJ6]
        have tG3 : Same H G3 := (same_put tG2 (tG2.free gD)).trans t4
        clear hs5 hs6 hs7 hs8 hs9 eqJ6 gD6 hD6 hD7 h3
        walk_at "sq go"
        refine ⟨⟨by decide, by decide, by omega⟩, fun y3 J7 y30 y35 hs11 => ?_⟩
        have h3' := hs11.get g3
        have cd2 : CDivW y3 2 := div_ok (by decide) (by decide)
        obtain ⟨far, ef, far0⟩ : ∃ far : Int, atI [V.int (reachOf ms 1), V.int y2, V.int 10000] (y3 / 2) = some (.int far) ∧ 0 ≤ far := by
          rcases (show y3 / 2 = 0 ∨ y3 / 2 = 1 ∨ y3 / 2 = 2 by omega) with z | z | z <;> rw [z]
          · exact ⟨_, atI_nat (j := 0) rfl, by omega⟩
          · exact ⟨_, atI_nat (j := 1) rfl, y20⟩
          · exact ⟨_, atI_nat (j := 2) rfl, by decide⟩
        walk_at "sq go"
        obtain ⟨L, eL⟩ : ∃ L : Nat, ((L : Nat) : Int) = if far < 10000 then far else 10000 := by
          obtain ⟨a, ha⟩ := Int.eq_ofNat_of_zero_le (show 0 ≤ (if far < 10000 then far else (10000 : Int)) by split <;> omega)
          exact ⟨a, ha.symm⟩
        have L1 : L ≤ 10000 := by
          split at eL <;> omega
        rw [← eL]
        intro kd nkd
        have nk := hs11.free nkd
        walk_at "sq go"
        refine ⟨⟨by omega, g2, g60⟩, fun gl J8 s8 ngl ggl => ?_⟩
        have gkd := s8 _ _ upd_same
        refine ⟨gkd, fun o hdo nto => ?_⟩
        have nglk : gl ≠ kd := fun z => by
          rw [z, upd_same] at ngl
          cases ngl
        have sA : Same J7 (upd J8 kd o) := fun b u e => by
          have nb : b ≠ kd := fun z => by
            rw [z, nkd] at e
            cases e
          rw [upd_ne nb]
          exact s8 _ _ (by rw [upd_ne nb]; exact e)
        have hs12 := hs11.on sA
        have glA : upd J8 kd o gl = some (.lst (iv (grs g n))) := (upd_ne nglk).trans ggl
        have nsrc : ¬ (gl = r ∨ gl = d) := fun z => by
          rw [upd_ne nglk] at ngl
          exact (rgD r d (100 * i + 3 + n + 1 + 1)).has J7 gl (SepD.mono hs11 (by omega)).inv z ngl
        have hdA : DN w (upd J8 kd o) kd (kvsN gl g []) := hdo
        obtain ⟨G4, t5, hs13, dG4, eG4⟩ := dn_quiet hs12 hdA
        have gG4 : G4 gl = some (.lst (iv (grs g n))) := (eG4 gl nsrc).trans glA
        have tG4 : Same H G4 := tG3.trans t5
        clear hs10 hs11 hs12 s8 sA ggl gkd hdo nto h3' ef eG4 t5 g3
        generalize upd J8 kd o = J9 at glA hdA hs13 ⊢
        walk_at "sq go"
        refine ⟨⟨by omega, by omega, by omega, by omega, g2, g60, by omega, by omega, ps_nil⟩, fun J10 ps1 bt1 hd1 po1 => ?_⟩
        rw [Int.toNat_natCast]
        obtain ⟨xs0, ex0, _⟩ := id dG4
        obtain ⟨xs1, ex1, _⟩ := id hd1
        have hs14 := hs13.but ex0 bt1 ex1
        obtain ⟨G5, t6, hs15, dG5, _⟩ := dn_quiet hs14 hd1
        have gG5 : G5 gl = some (.lst (iv (grs g n))) := t6 _ _ ((upd_ne nglk).trans gG4)
        have Hkd : H kd = none := tG3.free nk
        have tG5 : Same H G5 := (same_put tG4 Hkd).trans t6
        clear hs13 hs14 t6 dG4 gG4 tG4 ex0 ex1 hdA glA bt1 hd1
        obtain ⟨due, edue⟩ : ∃ due : Int, due = cntC g n L := ⟨_, rfl⟩
        have cb := cntC_bd g60 n (L : Int)
        have p8 : (64 : Int) ^ n ≤ 281474976710656 := by
          rcases (show n = 0 ∨ n = 1 ∨ n = 2 ∨ n = 3 ∨ n = 4 ∨ n = 5 ∨ n = 6 ∨ n = 7 ∨ n = 8 by omega) with z | z | z | z | z | z | z | z | z <;> rw [z] <;> decide
        have d0 : 0 ≤ due := by omega
        have d1 : due ≤ 281474976710656 := by omega
        have ok3 : Ok3 n g L := ⟨by omega, g2, g60, by omega⟩
        rw [← edue]
        walk_at "sq go"
        refine ⟨⟨ok3⟩, fun J11 s11 => ?_⟩
        rw [← edue]
        have hs16 := hs15.on s11
        walk_at "sq go"
        refine r_reprN d0 (by omega) ?_
        walk_at "sq go"
        refine r_reprN d0 (by omega) ?_
        walk_at "sq go"
        refine ifN (fun c => absurd rfl c) (fun _ => ?_)
        walk_at "sq go"
        refine ⟨⟨ok3, by rw [← edue]; omega⟩, fun J12 s12 => ?_⟩
        have hs17 := hs16.on s12
        clear hs15 hs16 s11 s12
        walk_at "sq go"
        refine ⟨⟨by split <;> omega, by split <;> omega, by omega⟩, fun sp1 J13 a10 a11 hs18 => ?_⟩
        walk_at "sq go"
        refine ⟨⟨by split <;> omega, by split <;> omega, by omega⟩, fun sp2 J14 a20 a21 hs19 => ?_⟩
        walk_at "sq go"
        intro T4 nT4
        obtain ⟨G6, J15, eqJ15, t7, g6, h6, hs20⟩ := hs19.box nT4 (.tup [.int 0, .int (due - 1), .int sp1, .int sp2])
        rw [show upd J14 T4 _ = J15 from eqJ15]
        have dG6 := dG5.same t7
        have gG6 := t7 _ _ gG5
        have tG6 : Same H G6 := tG5.trans t7
        clear hs17 hs18 hs19 eqJ15 dG5 gG5 tG5 t7 h6
        walk_at "sq go"
        refine ⟨⟨_, SqT.of (K := K) (hs20.get g6)⟩, ?_⟩
        refine for_tup (K := K) (a := T4) (xs := [.int 0, .int (due - 1), .int sp1, .int sp2]) (fun j σ H' => Keep (∃ x9 x10 x11 x12 G7 ps2, σ = [some (.ref p0), some (.ref r), some (.int (0 + ((i : Nat) : Int))), some (.int (n : Nat)), some (.int g), some (.ref D), some (.int (L : Nat)), some (.ref kd), some (.int due), x9, x10, x11, x12] ∧ Sep (rgD r d (100 * i + 90)) G7 H' ∧ Same H G7 ∧ G7 T4 = some (.tup [.int 0, .int (due - 1), .int sp1, .int sp2]) ∧ DN w G7 kd (kvsN gl g ps2) ∧ G7 gl = some (.lst (iv (grs g n))) ∧ PsOk ps2))
          ⟨_, _, _, _, G6, ps1, rfl, SepD.mono hs20 (by omega), tG6, g6, dG6, gG6, po1⟩ (fun j σ H' _ h => ?_) (fun j x σ H' hx h => ?_) (fun σ H' h => ?_)
        · obtain ⟨_, _, _, _, G7, _, _, hs21, _, g7, _⟩ := h.o
          exact SqT.of (hs21.get g7)
        · obtain ⟨x9, x10, x11, x12, G7, ps2, rfl, hs21, tG7, g7, dG7, gG7, po2⟩ := h.o
          obtain ⟨v, rfl⟩ : ∃ v : Int, x = .int v := by
            match j, hx with
            | 0, e => cases e; exact ⟨_, rfl⟩
            | 1, e => cases e; exact ⟨_, rfl⟩
            | 2, e => cases e; exact ⟨_, rfl⟩
            | 3, e => cases e; exact ⟨_, rfl⟩
            | j + 4, e => cases e
          walk_at "sq go"
          refine ifD (fun c0 => ?_) (fun c0 => ?_)
          · walk_at "sq go"
            refine ifD (fun c1 => ?_) (fun c1 => ?_)
            · have c1' : v < cntC g n L := by rw [← edue]; exact c1
              walk_at "sq go"
              refine ⟨⟨ok3, c0, c1'⟩, fun ns p J16 en ln s16 np gp => ?_⟩
              obtain ⟨bk, rL, bef⟩ := nth_mem g2 g60 (by omega) c0 c1' en
              have two : Two ns := fun k hk => (bk k hk).1
              have hs22 := hs21.grow s16 np gp
              have nglp : gl ≠ p := fun z => by
                rw [← z, hs21.get gG7] at np
                cases np
              have nTp : T4 ≠ p := fun z => by
                rw [← z, hs21.get g7] at np
                cases np
              have Hp : H p = none := tG7.free (hs21.free np)
              have eln : (iv ns).length = ns.length := iv_len _
              have hp16 := seqL_of (K := K) gp
              have gGp : upd G7 p (.lst (iv ns)) p = some (.lst (iv ns)) := upd_same
              have tp : Same G7 (upd G7 p (.lst (iv ns))) := same_new (hs21.free np)
              have dG8 := dG7.same tp
              have gG8 := tp _ _ gG7
              have g8 := tp _ _ g7
              have tG8 := tG7.trans tp
              generalize upd G7 p (.lst (iv ns)) = G8 at hs22 gGp dG8 gG8 g8 tG8
              clear hs21 dG7 gG7 g7 tG7 tp
              walk_at "sq go"
              refine ifN (fun cl => absurd (by rw [eln, ln]) cl) (fun _ => ?_)
              walk_at "sq go"
              intro D3 nD3
              have gp1 := hs22.get gGp
              refine lc_list (K := K) (a := p) (xs := iv ns) (fun t H3 => Keep (Same J16 H3 ∧ H3 D3 = some (.lst (List.replicate t (.bl true))))) ⟨same_new nD3, upd_same⟩ (fun t H3 _ h => ?_) (fun t u H3 hu h => ?_) (fun H3 h => ?_)
              · obtain ⟨s3, _⟩ := h.o
                exact seqL_of (s3 _ _ gp1)
              · obtain ⟨s3, gD3⟩ := h.o
                obtain ⟨k, ek, rfl⟩ := iv_get hu
                have kb := bk k (List.mem_of_getElem? ek)
                have lt := (List.getElem?_eq_some_iff.mp ek).1
                have lz : (List.replicate t (V.bl true)).length < sizeLine := by
                  rw [List.length_replicate]
                  exact small1000 (by omega)
                walk_at "sq go"
                refine ifD (fun q1 => ?_) (fun q1 => absurd kb.1 q1)
                walk_at "sq go"
                refine ⟨same_put s3 nD3, ?_⟩
                rw [upd_same, List.replicate_succ']
                show some (HO.lst (List.replicate t (V.bl true) ++ [V.bl (decide (k ≤ g))])) = _
                rw [decide_eq_true kb.2]
              · obtain ⟨s3, gD3⟩ := h.o
                have hs23 := hs22.on s3
                have hb : SqL K H3 D3 ((List.replicate ns.length true).map V.bl) := by
                  rw [List.map_replicate, ← eln]
                  exact seqL_of gD3
                walk_at "sq go"
                rw [show (List.replicate ns.length true).all id = true by simp]
                have hp3 := seqL_of (K := K) (hs23.get gGp)
                walk_at "sq go"
                refine ⟨⟨two, by decide, 10, 10, fun k hk => (by have := bk k hk; unfold Sm; omega), by unfold Sm; decide, by decide, by decide, by omega⟩, fun J17 s17 => ?_⟩
                have hs24 := hs23.on s17
                walk_at "sq go"
                refine ifD (fun cr => absurd cr (by omega)) (fun _ => ?_)
                have hdB := dG8.same hs24.same
                have glB := hs24.get gG8
                have gpB := hs24.get gGp
                walk_at "sq go"
                refine ⟨⟨by omega, by omega, g2, g60, bk, by omega, by omega, po2⟩, fun J18 ps3 bt3 hd3 po3 => ?_⟩
                rw [bef]
                obtain ⟨xs0, ex0, _⟩ := id dG8
                obtain ⟨xs1, ex1, _⟩ := id hd3
                have npk : p ≠ kd := fun z => by
                  rw [z, ex0] at gGp
                  cases gGp
                have nTk : T4 ≠ kd := fun z => by
                  rw [z, ex0] at g8
                  cases g8
                have hs25 := hs24.but ex0 bt3 ex1
                obtain ⟨G9, t9, hs26, dG9, _⟩ := dn_quiet hs25 hd3
                have gG9p := t9 _ _ ((upd_ne npk).trans gGp)
                have gG9l := t9 _ _ ((upd_ne nglk).trans gG8)
                have gG9T := t9 _ _ ((upd_ne nTk).trans g8)
                have tG9 : Same H G9 := (same_put tG8 Hkd).trans t9
                have gp18 := hs26.get gG9p
                have hs27 := hs26.put gG9p (.lst (iv ns ++ [.int 2]))
                have lz : (iv ns).length < sizeLine := by
                  rw [eln]
                  exact small1000 (by omega)
                clear hs22 hs23 hs24 hs25 t9 ex0 ex1 bt3
                walk_at "sq go"
                refine ifN (fun cb2 => absurd rfl cb2) (fun _ => ?_)
                walk_at "sq go"
                refine ⟨⟨ok3, c0, c1'⟩, fun ns2 p2 J19 en2 ln2 s19 np2 gp2 => ?_⟩
                have hp19 := seqL_of (K := K) gp2
                have el2 : (iv ns2).length = ns2.length := iv_len _
                walk_at "sq go"
                refine ifN (fun cl => absurd (by rw [el2, ln2]) cl) (fun _ => ?_)
                exact ⟨_, _, _, _, upd G9 p (.lst (iv ns ++ [.int 2])), ps3, rfl, hs27.on s19, same_put tG9 Hp, (upd_ne nTp).trans gG9T, dG9.but npk.symm (fun ys z => by rw [gG9p] at z; cases z) .put, (upd_ne nglp).trans gG9l, po3⟩
            · exact ⟨_, _, _, _, G7, ps2, rfl, hs21, tG7, g7, dG7, gG7, po2⟩
          · walk_at "sq go"
            exact ⟨_, _, _, _, G7, ps2, rfl, hs21, tG7, g7, dG7, gG7, po2⟩
        · obtain ⟨x9, x10, x11, x12, G7, ps2, rfl, hs21, tG7, _⟩ := h.o
          exact ⟨_, _, _, _, _, _, _, _, _, _, _, rfl, SepD.mono (hs21.weak tG7) (by omega), hi9⟩
    · obtain ⟨x2, x3, x4, x5, x6, x7, x8, x9, x10, x11, x12, rfl, hs, hi8⟩ := h.o
      walk_at "sq go"
      exact q _

/-! ### a class is caught by itself -/
theorem exm_self {h : Heap} {C : Addr} {y : Str} (_ : K.In h) (_ : mg y = some (.ref C)) (x1 : PySem.W.subIn K (.ref C) (.type "BaseException") = some true) (x2 : PySem.W.isClsIn K C = true) (x3 : PySem.W.typeIn K (.ref C) = some (.type "type")) (x4 : PySem.W.subIn K (.ref C) (.ref C) = some true) : PySem.W.exmOne K (.ref C) (.ref C) = some true := exm_mk x1 x2 x3 x4
end
end Sq
open PySem PySem.W PyProof.Rows in
set_option maxRecDepth 100000 in
set_option maxHeartbeats 0 in
theorem PySem.Challenge.cw_squeezelists_k25_whole_longer_lists_numb_holds : PySem.Challenge.rw_squeezelists_k25_whole_longer_lists_numb.Holds := by
  w_on; o_law; k_head; (case hw => w_witness2)
  k_fill
  refine Sq.walk_ofG (l := PySem.Challenge.rw_squeezelists_k25_whole_longer_lists_numb) (n := 63) (k := 24) (x := "script") (sp := Sq.spLaw) rfl (by decide) rfl ⟨rfl, by decide, by decide⟩ (fun w h Y => PySem.W.kIn_of Y) ?F (fun K H a ns hl hS => ⟨a, ns, rfl, hS, hl, fun _ => rfl⟩)
  case F =>
    intro w mg fa h KX G hmg
    have B : Sq.Bt mg := by
      refine' ⟨PySem.W.mg_none_of KX G ?z0, PySem.W.mg_none_of KX G ?z1, PySem.W.mg_none_of KX G ?z2, PySem.W.mg_none_of KX G ?z3, PySem.W.mg_none_of KX G ?z4, PySem.W.mg_none_of KX G ?z5, PySem.W.mg_none_of KX G ?z6, PySem.W.mg_none_of KX G ?z7, PySem.W.mg_none_of KX G ?z8, PySem.W.mg_none_of KX G ?z9, PySem.W.mg_none_of KX G ?z10⟩
      (case z0 => k_is)
      (case z1 => k_is)
      (case z2 => k_is)
      (case z3 => k_is)
      (case z4 => k_is)
      (case z5 => k_is)
      (case z6 => k_is)
      (case z7 => k_is)
      (case z8 => k_is)
      (case z9 => k_is)
      (case z10 => k_is)
    refine' Sq.cutD (Sq.DefAt.mk1 (x := "check_list") (st := Sq.s_check_list) (ps := ["replacements"]) KX G ?a_check_list ?l_check_list ?c_check_list ?k_check_list (fun _ _ _ _ _ _ us hl => match us, hl with | [_], _ => rfl)) ?_
    (case a_check_list => k_is); (case l_check_list => k_is); (case c_check_list => k_is); (case k_check_list => k_is)
    intro D_check_list
    refine' Sq.cutD (Sq.DefAt.mk1 (x := "check_most") (st := Sq.s_check_most) (ps := ["most"]) KX G ?a_check_most ?l_check_most ?c_check_most ?k_check_most (fun _ _ _ _ _ _ us hl => match us, hl with | [_], _ => rfl)) ?_
    (case a_check_most => k_is); (case l_check_most => k_is); (case c_check_most => k_is); (case k_check_most => k_is)
    intro D_check_most
    refine' Sq.cutD (Sq.DefAt.mk1 (x := "reach_before") (st := Sq.s_reach_before) (ps := ["reached", "replacement"]) KX G ?a_reach_before ?l_reach_before ?c_reach_before ?k_reach_before (fun _ _ _ _ _ _ us hl => match us, hl with | [_, _], _ => rfl)) ?_
    (case a_reach_before => k_is); (case l_reach_before => k_is); (case c_reach_before => k_is); (case k_reach_before => k_is)
    intro D_reach_before
    refine' Sq.cutD (Sq.DefAt.mk1 (x := "reach_of") (st := Sq.s_reach_of) (ps := ["replacements", "most"]) KX G ?a_reach_of ?l_reach_of ?c_reach_of ?k_reach_of (fun _ _ _ _ _ _ us hl => match us, hl with | [_, _], _ => rfl)) ?_
    (case a_reach_of => k_is); (case l_reach_of => k_is); (case c_reach_of => k_is); (case k_reach_of => k_is)
    intro D_reach_of
    refine' Sq.cutD (Sq.DefAt.mk1 (x := "needed_reach") (st := Sq.s_needed_reach) (ps := ["replacement", "length"]) KX G ?a_needed_reach ?l_needed_reach ?c_needed_reach ?k_needed_reach (fun _ _ _ _ _ _ us hl => match us, hl with | [_, _], _ => rfl)) ?_
    (case a_needed_reach => k_is); (case l_needed_reach => k_is); (case c_needed_reach => k_is); (case k_needed_reach => k_is)
    intro D_needed_reach
    refine' Sq.cutD (Sq.DefAt.mk1 (x := "greatest_reaches") (st := Sq.s_greatest_reaches) (ps := ["steps", "greatest"]) KX G ?a_greatest_reaches ?l_greatest_reaches ?c_greatest_reaches ?k_greatest_reaches (fun _ _ _ _ _ _ us hl => match us, hl with | [_, _], _ => rfl)) ?_
    (case a_greatest_reaches => k_is); (case l_greatest_reaches => k_is); (case c_greatest_reaches => k_is); (case k_greatest_reaches => k_is)
    intro D_greatest_reaches
    refine' Sq.cutD (Sq.DefAt.mk1 (x := "check_arguments") (st := Sq.s_check_arguments) (ps := ["steps", "greatest", "length"]) KX G ?a_check_arguments ?l_check_arguments ?c_check_arguments ?k_check_arguments (fun _ _ _ _ _ _ us hl => match us, hl with | [_, _, _], _ => rfl)) ?_
    (case a_check_arguments => k_is); (case l_check_arguments => k_is); (case c_check_arguments => k_is); (case k_check_arguments => k_is)
    intro D_check_arguments
    refine' Sq.cutD (Sq.DefAt.mk1 (x := "count_lists") (st := Sq.s_count_lists) (ps := ["steps", "greatest", "length"]) KX G ?a_count_lists ?l_count_lists ?c_count_lists ?k_count_lists (fun _ _ _ _ _ _ us hl => match us, hl with | [_, _, _], _ => rfl)) ?_
    (case a_count_lists => k_is); (case l_count_lists => k_is); (case c_count_lists => k_is); (case k_count_lists => k_is)
    intro D_count_lists
    refine' Sq.cutD (Sq.DefAt.mk1 (x := "nth_list") (st := Sq.s_nth_list) (ps := ["steps", "greatest", "length", "number"]) KX G ?a_nth_list ?l_nth_list ?c_nth_list ?k_nth_list (fun _ _ _ _ _ _ us hl => match us, hl with | [_, _, _, _], _ => rfl)) ?_
    (case a_nth_list => k_is); (case l_nth_list => k_is); (case c_nth_list => k_is); (case k_nth_list => k_is)
    intro D_nth_list
    refine' Sq.cutD (Sq.DefAt.mk1 (x := "_law_bag") (st := Sq.s_law_bag) (ps := ["script"]) KX G ?a_law_bag ?l_law_bag ?c_law_bag ?k_law_bag (fun _ _ _ _ _ _ us hl => match us, hl with | [_], _ => rfl)) ?_
    (case a_law_bag => k_is); (case l_law_bag => k_is); (case c_law_bag => k_is); (case k_law_bag => k_is)
    intro D_law_bag
    refine' Sq.cutD (Sq.DefAt.mk1 (x := "_law_draw") (st := Sq.s_law_draw) (ps := ["bag", "many"]) KX G ?a_law_draw ?l_law_draw ?c_law_draw ?k_law_draw (fun _ _ _ _ _ _ us hl => match us, hl with | [_, _], _ => rfl)) ?_
    (case a_law_draw => k_is); (case l_law_draw => k_is); (case c_law_draw => k_is); (case k_law_draw => k_is)
    intro D_law_draw
    refine' Sq.cutD (Sq.DefAt.mk1 (x := "_law_reach") (st := Sq.s_law_reach) (ps := ["steps_now"]) KX G ?a_law_reach ?l_law_reach ?c_law_reach ?k_law_reach (fun _ _ _ _ _ _ us hl => match us, hl with | [_], _ => rfl)) ?_
    (case a_law_reach => k_is); (case l_law_reach => k_is); (case c_law_reach => k_is); (case k_law_reach => k_is)
    intro D_law_reach
    refine' Sq.cutD (Sq.DefAt.mk1 (x := "_law_most") (st := Sq.s_law_most) (ps := ["many", "largest"]) KX G ?a_law_most ?l_law_most ?c_law_most ?k_law_most (fun _ _ _ _ _ _ us hl => match us, hl with | [_, _], _ => rfl)) ?_
    (case a_law_most => k_is); (case l_law_most => k_is); (case c_law_most => k_is); (case k_law_most => k_is)
    intro D_law_most
    refine' Sq.cutD (Sq.DefAt.mk1 (x := "_law_count") (st := Sq.s_law_count) (ps := ["known", "many", "largest", "far"]) KX G ?a_law_count ?l_law_count ?c_law_count ?k_law_count (fun _ _ _ _ _ _ us hl => match us, hl with | [_, _, _, _], _ => rfl)) ?_
    (case a_law_count => k_is); (case l_law_count => k_is); (case c_law_count => k_is); (case k_law_count => k_is)
    intro D_law_count
    refine' Sq.cutD (Sq.DefAt.mk1 (x := "_law_least") (st := Sq.s_law_least) (ps := ["k", "far"]) KX G ?a_law_least ?l_law_least ?c_law_least ?k_law_least (fun _ _ _ _ _ _ us hl => match us, hl with | [_, _], _ => rfl)) ?_
    (case a_law_least => k_is); (case l_law_least => k_is); (case c_law_least => k_is); (case k_law_least => k_is)
    intro D_law_least
    refine' Sq.cutD (Sq.DefAt.mk1 (x := "_law_before") (st := Sq.s_law_before) (ps := ["known", "one", "largest", "far"]) KX G ?a_law_before ?l_law_before ?c_law_before ?k_law_before (fun _ _ _ _ _ _ us hl => match us, hl with | [_, _, _, _], _ => rfl)) ?_
    (case a_law_before => k_is); (case l_law_before => k_is); (case c_law_before => k_is); (case k_law_before => k_is)
    intro D_law_before
    refine' Sq.cutD (Sq.DefAt.mk1 (x := "_law_is_refused") (st := Sq.s_law_is_refused) (ps := ["many", "largest", "far", "spot"]) KX G ?a_law_is_refused ?l_law_is_refused ?c_law_is_refused ?k_law_is_refused (fun _ _ _ _ _ _ us hl => match us, hl with | [_, _, _, _], _ => rfl)) ?_
    (case a_law_is_refused => k_is); (case l_law_is_refused => k_is); (case c_law_is_refused => k_is); (case k_law_is_refused => k_is)
    intro D_law_is_refused
    refine' Sq.cutD (Sq.DefAt.mk1 (x := "law") (st := Sq.s_law) (ps := ["script"]) KX G ?a_law ?l_law ?c_law ?k_law (fun _ _ _ _ _ _ us hl => match us, hl with | [_], _ => rfl)) ?_
    (case a_law => k_is); (case l_law => k_is); (case c_law => k_is); (case k_law => k_is)
    intro D_law
    refine' Sq.cutD (Sq.glob_mk (x := "Choices") KX G ?aC_Choices) ?_
    (case aC_Choices => k_is)
    intro C_Choices
    refine' Sq.cutD (Sq.cls_mk KX C_Choices ?pg_Choices ?hd_Choices ?po_Choices ?sa_Choices) ?_
    (case pg_Choices => k_is); (case hd_Choices => k_is); (case po_Choices => k_is); (case sa_Choices => k_is)
    intro K_Choices
    refine' Sq.cutD (Sq.noat_mk (m := "greatest") KX C_Choices ?n_Choices_greatest) ?_
    (case n_Choices_greatest => k_is)
    intro N_Choices_greatest
    refine' Sq.cutD (Sq.noat_mk (m := "reaches") KX C_Choices ?n_Choices_reaches) ?_
    (case n_Choices_reaches => k_is)
    intro N_Choices_reaches
    refine' Sq.cutD (Sq.noat_mk (m := "known") KX C_Choices ?n_Choices_known) ?_
    (case n_Choices_known => k_is)
    intro N_Choices_known
    refine' Sq.cutD (Sq.IniAt.mk1 (x := "Choices") (qual := "Choices.__init__") (st := Sq.s_Choices___init__) (ps := ["self", "steps", "greatest"]) KX C_Choices ?a_Choices___init__ ?l_Choices___init__ ?c_Choices___init__ ?k_Choices___init__ ?mk_Choices___init__ ?i_Choices___init__ ?kc_Choices___init__ (fun _ _ _ _ _ _ us hl => match us, hl with | [_, _, _], _ => rfl)) ?_
    (case a_Choices___init__ => k_is); (case l_Choices___init__ => k_is); (case c_Choices___init__ => k_is); (case k_Choices___init__ => k_is); (case mk_Choices___init__ => k_is); (case i_Choices___init__ => k_is); (case kc_Choices___init__ => k_is)
    intro D_Choices___init__
    refine' Sq.cutD (Sq.MetAt.mk1 (m := "count") (qual := "Choices.count") (st := Sq.s_Choices_count) (ps := ["self", "steps", "length"]) KX C_Choices ?a_Choices_count ?l_Choices_count ?c_Choices_count ?k_Choices_count ?i_Choices_count (fun _ _ _ _ _ _ us hl => match us, hl with | [_, _, _], _ => rfl)) ?_
    (case a_Choices_count => k_is); (case l_Choices_count => k_is); (case c_Choices_count => k_is); (case k_Choices_count => k_is); (case i_Choices_count => k_is)
    intro D_Choices_count
    refine' Sq.cutD (Sq.MetAt.mk1 (m := "firsts") (qual := "Choices.firsts") (st := Sq.s_Choices_firsts) (ps := ["self"]) KX C_Choices ?a_Choices_firsts ?l_Choices_firsts ?c_Choices_firsts ?k_Choices_firsts ?i_Choices_firsts (fun _ _ _ _ _ _ us hl => match us, hl with | [_], _ => rfl)) ?_
    (case a_Choices_firsts => k_is); (case l_Choices_firsts => k_is); (case c_Choices_firsts => k_is); (case k_Choices_firsts => k_is); (case i_Choices_firsts => k_is)
    intro D_Choices_firsts
    refine' Sq.cutD (Sq.MetAt.mk1 (m := "count_behind") (qual := "Choices.count_behind") (st := Sq.s_Choices_count_behind) (ps := ["self", "first", "steps", "length"]) KX C_Choices ?a_Choices_count_behind ?l_Choices_count_behind ?c_Choices_count_behind ?k_Choices_count_behind ?i_Choices_count_behind (fun _ _ _ _ _ _ us hl => match us, hl with | [_, _, _, _], _ => rfl)) ?_
    (case a_Choices_count_behind => k_is); (case l_Choices_count_behind => k_is); (case c_Choices_count_behind => k_is); (case k_Choices_count_behind => k_is); (case i_Choices_count_behind => k_is)
    intro D_Choices_count_behind
    refine' Sq.cutD (Sq.glob_mk (x := "InvalidNumber") KX G ?aC_InvalidNumber) ?_
    (case aC_InvalidNumber => k_is)
    intro C_InvalidNumber
    refine' Sq.cutD (Sq.exm_self KX C_InvalidNumber ?e1_InvalidNumber ?e2_InvalidNumber ?e3_InvalidNumber ?e4_InvalidNumber) ?_
    (case e1_InvalidNumber => k_is)
    (case e2_InvalidNumber => k_is)
    (case e3_InvalidNumber => k_is)
    (case e4_InvalidNumber => k_is)
    intro S_InvalidNumber
    refine' Sq.cutD (Sq.xv_mk KX C_InvalidNumber ?x1_InvalidNumber ?x2_InvalidNumber ?x3_InvalidNumber ?x4_InvalidNumber ?x5_InvalidNumber) ?_
    (case x1_InvalidNumber => k_is)
    (case x2_InvalidNumber => k_is)
    (case x3_InvalidNumber => k_is)
    (case x4_InvalidNumber => k_is)
    (case x5_InvalidNumber => k_is)
    intro V_InvalidNumber
    have hi : Sq.Cho _ _ := ⟨K_Choices, N_Choices_greatest, N_Choices_reaches, N_Choices_known⟩
    refine' Sq.cutD (Sq.funD_mk (x := "reach") (st := Sq.s_reach) (dvs := [.int 1]) KX G ?a_r ?l_r ?c_r ?k_r ?t_r ?e_r ?v_r (by simp)) ?_
    (case a_r => k_is); (case l_r => k_is); (case c_r => k_is); (case k_r => k_is); (case t_r => k_is); (case e_r => rfl); (case v_r => exact .cons ⟨_, rfl⟩ .nil)
    rintro ⟨FR, mR⟩
    obtain ⟨d1, v1, b1⟩ := FR.binds1 (ps := ["replacements", "most"]) 1 0 (by simp) rfl (fun T kV doc pm an cdv ct us its h1 h2 => match us, its, h1, h2 with | [_], [_], _, _ => ⟨_, rfl, rfl⟩)
    obtain ⟨fd, F, hb⟩ := D_law.law hmg (fun _ _ _ _ _ _ us hl => match us, hl with | [_], _ => rfl)
    refine ⟨fd, hb, fun base _ _ => ?_⟩
    refine' Sq.cutD (Sq.rai_mk (P := PySem.Challenge.rw_squeezelists_k25_whole_longer_lists_numb.prog) (w := w) (base := base) KX G C_InvalidNumber ?lC_InvalidNumber ?rC_InvalidNumber ?sa_InvalidNumber ?ex_InvalidNumber ?ty_InvalidNumber ?kc_InvalidNumber ?ini_InvalidNumber ?tyf_InvalidNumber ?l_InvalidNumber ?co_InvalidNumber ?cell_InvalidNumber ?rec__InvalidNumber ?v2_InvalidNumber ?fl_InvalidNumber ?top_InvalidNumber ?opq_InvalidNumber ?sup_InvalidNumber ?veb_InvalidNumber ?slf_InvalidNumber ?val_InvalidNumber ?ms_InvalidNumber ?he_InvalidNumber ?hb_InvalidNumber) ?_
    (case lC_InvalidNumber => k_is)
    (case rC_InvalidNumber => decide +kernel)
    (case sa_InvalidNumber => k_is)
    (case ex_InvalidNumber => k_is)
    (case ty_InvalidNumber => k_is)
    (case kc_InvalidNumber => k_is)
    (case ini_InvalidNumber => k_is)
    (case tyf_InvalidNumber => k_is)
    (case l_InvalidNumber => k_is)
    (case co_InvalidNumber => k_is)
    (case cell_InvalidNumber => k_is)
    (case rec__InvalidNumber => k_is)
    (case v2_InvalidNumber => rfl)
    (case fl_InvalidNumber => rfl)
    (case top_InvalidNumber => rfl)
    (case opq_InvalidNumber => k_is)
    (case sup_InvalidNumber => ks_is)
    (case veb_InvalidNumber => k_is)
    (case slf_InvalidNumber => k_is)
    (case val_InvalidNumber => k_is)
    (case ms_InvalidNumber => k_is)
    (case he_InvalidNumber => exact fun _ => rfl)
    (case hb_InvalidNumber => exact fun us hl => match us, hl with | [_, _], _ => rfl)
    intro R_InvalidNumber
    have ca := Sq.cal_args (P := PySem.Challenge.rw_squeezelists_k25_whole_longer_lists_numb.prog) (w := w) (base := base) D_check_arguments B R_InvalidNumber
    have cn := Sq.cal_needed (P := PySem.Challenge.rw_squeezelists_k25_whole_longer_lists_numb.prog) (w := w) (base := base) D_needed_reach B
    have mk := Sq.mak_choices D_Choices___init__ hi B (Sq.cal_greatest (P := PySem.Challenge.rw_squeezelists_k25_whole_longer_lists_numb.prog) (w := w) (base := base) D_greatest_reaches B)
    have fi := Sq.met_firsts (P := PySem.Challenge.rw_squeezelists_k25_whole_longer_lists_numb.prog) (w := w) (base := base) D_Choices_firsts hi B
    have co := Sq.met_count D_Choices_count D_Choices_count_behind hi B cn fi 8
    have cb := Sq.met_behind D_Choices_count_behind hi B cn (by decide) co
    have cd := Sq.cal_drawD (P := PySem.Challenge.rw_squeezelists_k25_whole_longer_lists_numb.prog) (w := w) (base := base) D_law_draw B
    have cl := Sq.count_calm (Sq.two_countL D_count_lists B ca mk co)
    have nx := Sq.two_nth D_nth_list B ca mk co cb fi cn R_InvalidNumber
    have nl := Sq.nth_calm nx
    have GR := Sq.ok_reach (P := PySem.Challenge.rw_squeezelists_k25_whole_longer_lists_numb.prog) (w := w) (base := base) FR B (Sq.cal_check_list D_check_list B) (Sq.cal_check_most D_check_most B) (Sq.cal_reach_of D_reach_of B (Sq.cal_reach_before D_reach_before B))
    have r1 : Sq.Cal PySem.Challenge.rw_squeezelists_k25_whole_longer_lists_numb.prog w _ mg base 3 "reach" (Sq.spReach _) [.int 1] := ⟨_, _, _, d1, GR, mR, FR.kp, b1, v1⟩
    have le := Sq.cal_least (P := PySem.Challenge.rw_squeezelists_k25_whole_longer_lists_numb.prog) (w := w) (base := base) D_law_least B
    have lc := Sq.cal_lcount D_law_count B le 9
    refine Sq.ok_law F B (Sq.cal_bag D_law_bag B) cd (Sq.cal_lreach D_law_reach B) (Sq.cal_most25 D_law_most B) lc (Sq.cal_before25 D_law_before B le lc) cl.cal nl.cal (Sq.cal_refused D_law_is_refused B C_InvalidNumber S_InvalidNumber V_InvalidNumber nx.calX) r1
