import PyProof.Rows.All
import Wide.All
import OpenK.AllK
import Wide.FinOn
import HandS.ForMost
import HandS.Wide
import HandS.Style
import HandS.SortInts
import HandS.Deep
import HandS.Defaults
import HandS.Flow
import HandS.IsInst
import HandS.Codes
import HandS.NoneIn
import HandS.Property
import HandS.RaiseMore
import PyProof.ReprRoads
import PyProof.LongRange
import HandS.Exc
import HandS.ExcInit
import HandS.NestedK
import KE.KExcSuper
import HandS.ExcIs
import HandS.ExcField
import KE.KExcIs
import HandS.WordsExc
import HandS.MakeKwOnly
import HandS.SetFor
import KE.RegKIsAll
import HandS.Conv
import HandS.Dict
import PySem.Challenge.RW_squeezelists_k24_lists_counted_by_trying
set_option Elab.async false
set_option linter.all false
set_option maxRecDepth 100000
set_option maxHeartbeats 4000000
namespace Sq
open PySem PySem.Spec PyProof.Rows L2
/-! ## operators -/
/-- a power whose base has at most 100000 bits -/
def CPowW (i j : Int) : Prop := 0 ≤ j ∧ j ≤ 1000 ∧ i.natAbs.log2 < 100000
theorem bitsOf_le (i : Int) : Builtin.Int.intBits i ≤ i.natAbs.log2 + 1 := by
  unfold Builtin.Int.intBits
  split <;> omega
theorem op_powW {X : Cx} : OpR X (binaryOp .Pow) (rI CPowW fun i j => .int (i ^ j.toNat)) := opI fun i j _ _ _ _ _ hc q => by
  obtain ⟨h1, h2, h3⟩ := hc
  refine pow_int h1 ?_ q
  have hb := bitsOf_le i
  have h4 : ((Builtin.Int.intBits i : Nat) : Int) ≤ 100000 := by omega
  have h5 := Int.mul_le_mul h4 h2 h1 (by decide : (0 : Int) ≤ 100000)
  exact Int.le_trans h5 (by decide)
def ipIC (C : Int → Int → Prop) (f : Int → Int → Int) : TIp := fun x y H Q => ∃ i j, x = .int i ∧ y = .int j ∧ C i j ∧ Q (.int (f i j)) H
section
variable {X : Cx}
theorem ip_mulW : PIp X .Mult (ipIC CMulW fun i j => i * j) := by
  intro pins s σ H x y v u Q I r1 r2 h
  obtain ⟨i, j, e1, e2, c, q⟩ := h
  subst e1; subst e2
  obtain ⟨t, rfl⟩ := r1
  obtain ⟨t', rfl⟩ := r2
  exact imul_int ⟨.int _, H, I.tok _, ⟨_, rfl⟩, q⟩ c.ok
theorem ip_fdivW : PIp X .FloorDiv (ipIC CDivW fun i j => i / j) := by
  intro pins s σ H x y v u Q I r1 r2 h
  obtain ⟨i, j, e1, e2, c, q⟩ := h
  subst e1; subst e2
  obtain ⟨t, rfl⟩ := r1
  obtain ⟨t', rfl⟩ := r2
  have h1 : (0 : Int) < j := c.1
  refine ifloordiv_int (by omega) ?_ (.inl (PyProof.noPylong_of_log2 c.2))
  rw [Int.fdiv_eq_ediv_of_nonneg i (by omega)]
  exact ⟨.int _, H, I.tok _, ⟨_, rfl⟩, q⟩
end
/-- numbers below 2 ^ n have a small log2 -/
theorem lg_lt {i : Int} {n : Nat} (h : i.natAbs < 2 ^ n) (h0 : 0 < n) : i.natAbs.log2 < n := PySem.Flt.log2_lt_of h0 h

/-! ## sizes -/
/-- at most b bits -/
def Sm (b : Nat) (i : Int) : Prop := i.natAbs < 2 ^ b
theorem Sm.mono {a b : Nat} {i : Int} (h : Sm a i) (hab : a ≤ b) : Sm b i := Nat.lt_of_lt_of_le h (Nat.pow_le_pow_right (by decide) hab)
theorem Sm.lg {b : Nat} {i : Int} (h : Sm b i) (h0 : 0 < b) : i.natAbs.log2 < b := PySem.Flt.log2_lt_of h0 h
theorem Sm.add {b : Nat} {i j : Int} (h : Sm b i) (h' : Sm b j) : Sm (b + 1) (i + j) := by
  have e : 2 ^ (b + 1) = 2 ^ b + 2 ^ b := by rw [Nat.pow_succ]; omega
  unfold Sm at *
  omega
theorem Sm.neg {b : Nat} {i : Int} (h : Sm b i) : Sm b (-i) := by
  unfold Sm at *
  rw [Int.natAbs_neg]
  exact h
theorem Sm.sub {b : Nat} {i j : Int} (h : Sm b i) (h' : Sm b j) : Sm (b + 1) (i - j) := by
  rw [Int.sub_eq_add_neg]
  exact h.add h'.neg
theorem Sm.mul {a b : Nat} {i j : Int} (h : Sm a i) (h' : Sm b j) : Sm (a + b) (i * j) := by
  unfold Sm at *
  rw [Int.natAbs_mul, Nat.pow_add]
  exact Nat.mul_lt_mul'' h h'
theorem Sm.le {b : Nat} {i j : Int} (h : Sm b j) (h0 : 0 ≤ i) (hij : i ≤ j) : Sm b i := by
  unfold Sm at *
  omega
theorem Sm.wide {a b : Nat} {i j : Int} (h : Sm a i) (h' : Sm b j) (ha : 0 < a) (hb : 0 < b) (hab : a + b ≤ 1000000) : CMulW i j := by
  have h1 := h.lg ha
  have h2 := h'.lg hb
  unfold CMulW
  omega
/-- a small number -/
theorem Sm.of {b : Nat} {i : Int} (h : i.natAbs < 2 ^ 10) (hb : 10 ≤ b) : Sm b i := Sm.mono (a := 10) h hb
theorem div_ok {i k : Int} (h : 0 < k) (h2 : k < 2 ^ 240) : CDivW i k := ⟨h, Nat.lt_trans ((show Sm 240 k by unfold Sm; omega).lg (by decide)) (by decide)⟩
theorem pow_ok {b : Nat} {i j : Int} (h : Sm b i) (h0 : 0 < b) (hb : b ≤ 100000) (j0 : 0 ≤ j) (j1 : j ≤ 1000) : CPowW i j := ⟨j0, j1, Nat.lt_of_lt_of_le (h.lg h0) hb⟩
/-! ## rules whose reading speaks of the written part K itself (a comprehension's block has it too) -/
section
variable {X : Cx} {K : PySem.W.Frag}
theorem ix_listK (h : X.K = K := by rfl) : IxR X (rIxL K) := by subst h; exact ix_list
theorem ix_tupK (h : X.K = K := by rfl) : IxR X (rIxT K) := by subst h; exact ix_tup
theorem sl_listK (h : X.K = K := by rfl) : SlR X (rSlL K) := by subst h; exact sl_list
theorem sl_tupK (h : X.K = K := by rfl) : SlR X (rSlT K) := by subst h; exact sl_tup
def rLenQ (K : PySem.W.Frag) : List V → Hp → VK → Prop := fun xs H Q => ∃ p ys, xs = [.ref p] ∧ SqL K H p ys ∧ Q (.int ys.length) H
theorem len_seqK (h : X.K = K := by rfl) : CallR X (.builtin "len") (rLenQ K) := by
  subst h
  intro pins s σ H xs us Q I r q
  obtain ⟨p, ys, e, hs, q⟩ := q
  exact call_len_seq pins s σ H xs us Q I r ⟨p, ys, e, .inl hs, q⟩
/-- readings that are not to be opened by themselves -/
@[irreducible] def rEqQ (K : PySem.W.Frag) : R2 := rEqD K
@[irreducible] def rNeQ (K : PySem.W.Frag) : R2 := rNeD K
@[irreducible] def rInQ (K : PySem.W.Frag) : R2 := rInD K
@[irreducible] def rNotInQ (K : PySem.W.Frag) : R2 := rNotInD K
theorem rEqQ_of {H : Hp} {x y : V} {Q : VK} (h : rEqD K x y H Q) : rEqQ K x y H Q := by unfold rEqQ; exact h
theorem rNeQ_of {H : Hp} {x y : V} {Q : VK} (h : rNeD K x y H Q) : rNeQ K x y H Q := by unfold rNeQ; exact h
theorem rInQ_of {H : Hp} {x y : V} {Q : VK} (h : rInD K x y H Q) : rInQ K x y H Q := by unfold rInQ; exact h
theorem rNotInQ_of {H : Hp} {x y : V} {Q : VK} (h : rNotInD K x y H Q) : rNotInQ K x y H Q := by unfold rNotInQ; exact h
theorem op_eqDK (hu : X.A.units + 64 < cLine) (h : X.K = K := by rfl) : OpR X (compareOp .Eq) (rEqQ K) := by subst h; unfold rEqQ; exact op_eqD hu
theorem op_neDK (hu : X.A.units + 64 < cLine) (h : X.K = K := by rfl) : OpR X (compareOp .NotEq) (rNeQ K) := by subst h; unfold rNeQ; exact op_neD hu
theorem op_inDK (hu : X.A.units + 65 < cLine) (h : X.K = K := by rfl) : OpR X (compareOp .In) (rInQ K) := by subst h; unfold rInQ; exact op_inD hu
theorem op_notInDK (hu : X.A.units + 65 < cLine) (h : X.K = K := by rfl) : OpR X (compareOp .NotIn) (rNotInQ K) := by subst h; unfold rNotInQ; exact op_notInD hu
theorem isiK (h : X.K = K := by rfl) : CallR X (.builtin "isinstance") (rIsi K) := by subst h; exact call_isi
def rListOf (K : PySem.W.Frag) : List V → Hp → VK → Prop := fun xs H Q => ∃ p ys, xs = [.ref p] ∧ SqL K H p ys ∧ ∀ l, H l = none → Q (.ref l) (upd H l (.lst ys))
theorem list_ofK (h : X.K = K := by rfl) : CallR X (.type "list") (rListOf K) := by
  subst h
  intro pins s σ H xs us Q I r q
  obtain ⟨p, ys, e, hs, q⟩ := q
  exact call_list_of pins s σ H xs us Q I r ⟨p, ys, e, .inl hs, q⟩
theorem cr_sumK (hc : X.calm = true) (h : X.K = K := by rfl) : CallR X (.builtin "sum") (rSum K) := by subst h; exact cr_sum hc
theorem cr_maxK (hc : X.calm = true) (h : X.K = K := by rfl) : CallR X (.builtin "max") (rMax K) := by subst h; exact cr_max hc
theorem cr_minK (hc : X.calm = true) (h : X.K = K := by rfl) : CallR X (.builtin "min") (rMin K) := by subst h; exact cr_min hc
theorem cr_allK (hc : X.calm = true) (h : X.K = K := by rfl) : CallR X (.builtin "all") (rAll K) := by subst h; exact cr_all hc
theorem cr_anyK (hc : X.calm = true) (h : X.K = K := by rfl) : CallR X (.builtin "any") (rAny K) := by subst h; exact cr_any hc
theorem cr_sortedIK (h : X.K = K := by rfl) : CallR X (.builtin "sorted") (rSortedI K) := by subst h; exact cr_sortedI
variable {e a b : Expr} {te ta tb : TE} {es : List Expr} {t : TA} {tgs : TGs} {tg : Expr} {pos p q : Pos} {n : Nat}
theorem pi_listK (he : PE X e te) (h : X.K = K := by rfl) : PI X tg e (iList K te) := by subst h; exact pi_list he
theorem pg_tupK {k : Nat} (hc : X.calm = true) (hg : PGs X es tgs) (hn : (assignEach es X.env).length = n := by rfl) (hst : (assignEach es X.env).findIdx? (·.1) = none := by rfl) (h : X.K = K := by rfl) : PG X (.Tuple es k pos) (gTup K n tgs) := by
  subst h
  exact pg_tup hc hg hn hst
theorem pg_lstK {k : Nat} (hc : X.calm = true) (hg : PGs X es tgs) (hn : (assignEach es X.env).length = n := by rfl) (hst : (assignEach es X.env).findIdx? (·.1) = none := by rfl) (h : X.K = K := by rfl) : PG X (.Tuple es k pos) (gUnl K n tgs) := by
  subst h
  exact pg_unl hc hg hn hst
theorem pi_enumK {elts : List Expr} {kk : Nat} (hg : Gl X "enumerate") (hm : X.mg "enumerate" = none) (ha : PA X [e] t) (hs : starEach [e] X.env = [(false, eval e X.env)] := by rfl) (h : X.K = K := by rfl) :
    PI X (.Tuple elts kk p) (.Call (.Name "enumerate" q) [e] [] pos) (iEnum K t) := by
  subst h
  exact pi_enum hg hm ha hs
theorem pi_zipK {elts : List Expr} {kk : Nat} (hg : Gl X "zip") (hm : X.mg "zip" = none) (ha : PA X [a, b] t) (hs : starEach [a, b] X.env = (false, eval a X.env) :: starEach [b] X.env := by rfl)
    (hpl : (backTo pos (starEach [b] X.env)).any (·.1) = false := by rfl) (h : X.K = K := by rfl) : PI X (.Tuple elts kk p) (.Call (.Name "zip" q) [a, b] [] pos) (iZip K t) := by
  subst h
  exact pi_zip hg hm ha hs hpl
theorem pe_revLK {k : Nat} {p1 p2 p3 : Pos} (he : PE X e te) (h : X.K = K := by rfl) : PE X (.Subscript e (.Slice none none (some (.UnaryOp .USub (.Constant (.int 1) k p1) p2)) p3) pos) (tRevL K te) := by
  subst h
  exact pe_revL he
theorem pe_fldK {f : Str} (he : PE X e te) (hb : attributeBase e f X.env (eval e X.env) = eval e X.env := by rfl) (h : X.K = K := by rfl) : PE X (.Attribute e f pos) (tFld K te f) := by
  subst h
  exact pe_fld he hb
end

/-! ## heaps -/
/-- what holds between the turns of a loop (a wrapper: it is not taken apart by itself) -/
structure Keep (P : Prop) : Prop where
  o : P

theorem Same.get {H H' : Hp} {a : Addr} {o : HO} (s : Same H H') (h : H a = some o) : H' a = some o := s a o h
theorem same_new {H : Hp} {p : Addr} {o : HO} (h : H p = none) : Same H (upd H p o) := fun b u e => by
  rw [upd_ne (ne_of_none e h)]
  exact e
theorem upd_keep {H : Hp} {p a : Addr} {o u : HO} (n : H p = none) (h : H a = some u) : upd H p o a = some u := same_new n a u h
theorem upd_off {H : Hp} {p a : Addr} {o u : HO} (n : a ≠ p) (h : H a = some u) : upd H p o a = some u := by
  rw [upd_ne n]
  exact h
/-- a source of draws: what is true of it, where it stands -/
structure Rg where
  I : Hp → Prop
  S : Addr → Prop
  loc : ∀ H H' : Hp, (∀ a, S a → H' a = H a) → I H → I H'
  has : ∀ (H : Hp) (a : Addr), I H → S a → H a ≠ none
/-- the heap H is the quiet part G and the source -/
structure Sep (R : Rg) (G H : Hp) : Prop where
  inv : R.I H
  same : Same G H
  off : ∀ a, R.S a → G a = none
section
variable {R : Rg} {G G' H H' : Hp} {p a : Addr} {o u : HO}
theorem Sep.get (s : Sep R G H) (h : G a = some o) : H a = some o := s.same a o h
theorem Sep.free (s : Sep R G H) (h : H p = none) : G p = none := s.same.free h
theorem Sep.weak (s : Sep R G H) (h : Same G' G) : Sep R G' H := ⟨s.inv, h.trans s.same, fun a ha => by
  cases q : G' a with
  | none => rfl
  | some o =>
    have z := h a o q
    rw [s.off a ha] at z
    cases z⟩
theorem Sep.new (s : Sep R G H) (h : H p = none) (o : HO) : Sep R (upd G p o) (upd H p o) := by
  have np : ∀ a, R.S a → a ≠ p := fun a ha e => R.has H a s.inv ha (by rw [e]; exact h)
  refine ⟨R.loc H _ (fun a ha => upd_ne (np a ha)) s.inv, fun b x e => ?_, fun a ha => by rw [upd_ne (np a ha)]; exact s.off a ha⟩
  by_cases hb : b = p
  · rw [hb, upd_same] at e
    rw [hb, upd_same]
    exact e
  · rw [upd_ne hb] at e
    rw [upd_ne hb]
    exact s.same b x e
/-- a store into an object of the quiet part -/
theorem Sep.put (s : Sep R G H) (h : G p = some u) (o : HO) : Sep R (upd G p o) (upd H p o) := by
  have np : ∀ a, R.S a → a ≠ p := fun a ha e => by
    have z := s.off a ha
    rw [e, h] at z
    cases z
  refine ⟨R.loc H _ (fun a ha => upd_ne (np a ha)) s.inv, fun b x e => ?_, fun a ha => by rw [upd_ne (np a ha)]; exact s.off a ha⟩
  by_cases hb : b = p
  · rw [hb, upd_same] at e
    rw [hb, upd_same]
    exact e
  · rw [upd_ne hb] at e
    rw [upd_ne hb]
    exact s.same b x e
/-- behind something that only makes new things -/
theorem Sep.on (s : Sep R G H) (h : Same H H') : Sep R G H' := by
  refine ⟨R.loc H _ (fun a ha => ?_) s.inv, s.same.trans h, s.off⟩
  cases q : H a with
  | none => exact absurd q (R.has H a s.inv ha)
  | some o => exact h a o q
theorem Sep.grow (s : Sep R G H) (h : Same H H') (n : H p = none) (e : H' p = some o) : Sep R (upd G p o) H' := by
  have s' := s.on h
  have np : ∀ a, R.S a → a ≠ p := fun a ha z => R.has H a s.inv ha (by rw [z]; exact n)
  refine ⟨s'.inv, fun b x q => ?_, fun a ha => by rw [upd_ne (np a ha)]; exact s.off a ha⟩
  by_cases hb : b = p
  · rw [hb, upd_same] at q
    rw [hb, e]
    exact q
  · rw [upd_ne hb] at q
    exact s'.same b x q
end
/-- a source of draws that is a list of three ints: digits, a mix, a count that is at most N -/
def R3 (r : Addr) (N a b c : Int) (H : Hp) : Prop := H r = some (.lst [.int a, .int b, .int c]) ∧ 0 ≤ a ∧ 0 ≤ b ∧ b < 2 ^ 100 ∧ 0 ≤ c ∧ c ≤ N
def rg3 (r : Addr) (N : Int) : Rg where
  I := fun H => ∃ a b c, R3 r N a b c H
  S := fun x => x = r
  loc := fun H H' e ⟨a, b, c, h1, h2⟩ => ⟨a, b, c, (e r rfl).trans h1, h2⟩
  has := fun H x ⟨a, b, c, h1, _⟩ hx => by
    subst hx
    rw [h1]
    exact fun z => nomatch z
theorem Sep3.redo {r : Addr} {N N' : Int} {G H : Hp} {o : HO} (s : Sep (rg3 r N) G H) (h : ∃ a b c, R3 r N' a b c (upd H r o)) : Sep (rg3 r N') G (upd H r o) := by
  refine ⟨h, fun b u q => ?_, s.off⟩
  have nr : b ≠ r := fun z => by
    have := s.off b z
    rw [q] at this
    cases this
  rw [upd_ne nr]
  exact s.same b u q
theorem Sep3.mono {r : Addr} {N N' : Int} {G H : Hp} (s : Sep (rg3 r N) G H) (h : N ≤ N') : Sep (rg3 r N') G H := by
  obtain ⟨a, b, c, h1, h2, h3, h4, h5, h6⟩ := s.inv
  exact ⟨⟨a, b, c, h1, h2, h3, h4, h5, by omega⟩, s.same, s.off⟩
/-- a draw from it -/
def spDraw3 : Sp := fun vs H Q _ => ∃ (r : Addr) (m N : Int) (G : Hp), vs = [.ref r, .int m] ∧ Sep (rg3 r N) G H ∧ Keep (0 < m ∧ m < 2 ^ 240 ∧ N < 2 ^ 60) ∧ ∀ v H', 0 ≤ v → v < m → Sep (rg3 r (N + 1)) G H' → Q (.int v) H'
theorem seqL_of {K : PySem.W.Frag} {H : Hp} {a : Addr} {xs : List V} (h : H a = some (.lst xs)) : SqL K H a xs := .inl (.inl h)
/-- ints as values -/
abbrev iv (ns : List Int) : List V := ns.map V.int
theorem iv_app (ns : List Int) (x : Int) : iv ns ++ [V.int x] = iv (ns ++ [x]) := by simp
theorem iv_len (ns : List Int) : (iv ns).length = ns.length := List.length_map _
theorem iv_get {ns : List Int} {i : Nat} {x : V} (h : (iv ns)[i]? = some x) : ∃ n, ns[i]? = some n ∧ x = .int n := by
  rw [List.getElem?_map] at h
  cases e : ns[i]? with
  | none =>
    rw [e] at h
    cases h
  | some n =>
    rw [e] at h
    exact ⟨n, rfl, (Option.some.inj h).symm⟩

theorem atI_iv {ns : List Int} {i : Int} (h0 : 0 ≤ i) (h1 : i < ns.length) : ∃ n, atI (iv ns) i = some (.int n) := by
  obtain ⟨j, rfl⟩ := Int.eq_ofNat_of_zero_le h0
  have hj : j < ns.length := by omega
  exact ⟨ns[j], atI_nat (by rw [List.getElem?_map, List.getElem?_eq_getElem hj]; rfl)⟩
theorem seqIx0 {n : Nat} (h : 0 < n) : seqIndex? 0 n = some 0 := by
  unfold seqIndex?
  simp
  omega
theorem lit_len {n : Nat} (h : n ≤ 1000) : n ≤ sizeLine := Nat.le_of_lt (small1000 h)
/-- for i, x in enumerate(xs) -/
theorem for_enum {K : PySem.W.Frag} {a : Addr} {xs : List V} {g : TG} {tb : TS} {D : Ends} {σ : L2.St} {H : Hp} (Pv : Nat → L2.St → Hp → Prop) (h0 : Pv 0 σ H) (hq : ∀ i σ H, Pv i σ H → SqL K H a xs)
    (hs : ∀ (i : Nat) (x : V) (T : Addr) (σ : L2.St) (H : Hp), xs[i]? = some x → Pv i σ H → H T = none → g (.ref T) σ (upd H T (.tup [.int (i : Nat), x])) fun σ2 H2 => tb { D with nx := Pv (i + 1), ct := Pv (i + 1), bk := D.nx } σ2 H2) (hd : ∀ σ H, Pv xs.length σ H → D.nx σ H) :
    ∃ W : Nat → Nat → L2.St → Hp → Prop, (∃ m, W 0 m σ H) ∧ ∀ i m σ H, W i m σ H → ((Ite K a).stop i H ∧ D.nx σ H) ∨
      ((Ite K a).go i H ∧ ∃ N : L2.St → Hp → Prop, (∀ σ' H', N σ' H' → ∃ m', m' < m ∧ W (i + 1) m' σ' H') ∧ ∀ v H', (Ite K a).yld i H v H' → g v σ H' fun σ2 H2 => tb { D with nx := N, ct := N, bk := D.nx } σ2 H2) := by
  refine ⟨fun i m σ H => m + i = xs.length ∧ Pv i σ H, ⟨xs.length, rfl, h0⟩, fun i m σ H hW => ?_⟩
  obtain ⟨em, p⟩ := hW
  have q := hq i σ H p
  by_cases lt : i < xs.length
  · have ex : xs[i]? = some xs[i] := List.getElem?_eq_getElem lt
    refine .inr ⟨⟨xs, _, q, ex⟩, Pv (i + 1), fun σ' H' p' => ⟨m - 1, by omega, by omega, p'⟩, fun v H' hy => ?_⟩
    obtain ⟨T, x, rfl, nT, rfl, f⟩ := hy
    exact hs i x T σ H (f xs q) p nT
  · have ei : i = xs.length := by omega
    subst ei
    exact .inl ⟨⟨xs, q, Nat.le_refl _⟩, hd σ H p⟩

/-! ## repr of data, where no repr is under way -/
@[irreducible] def rReprD (K : PySem.W.Frag) : List V → Hp → VK → Prop := fun xs H Q => ∃ (a : Addr) (d : PyData), xs = [.ref a] ∧ Dp K H (.ref a) d ∧ d.showable = true ∧ d.hasDict = false ∧ d.depth ≤ 30 ∧ d.shown.length ≤ sizeLine ∧ Q (.str d.shown) H
theorem call_reprDK {X : Cx} {K : PySem.W.Frag} (hG : X.A.guards = some []) (hu : X.A.units + 64 < cLine) (h : X.K = K := by rfl) : CallR X (.builtin "repr") (rReprD K) := by
  subst h
  intro pins s σ H xs us Q I r h
  unfold rReprD at h
  obtain ⟨a, d, rfl, hd, hs, hn, hdp, hz, q⟩ := h
  obtain ⟨v, rfl, rv⟩ := vals1 r
  cases rv
  obtain ⟨as, rd⟩ := Dp.reads I d _ _ hd rfl
  refine repr_of_reads' rd hs (PyData.noDict_hsm hn) hG (by omega) (fun b o e => e) (fun h' t tk hk => ?_) hz
  exact ⟨.str d.shown, H, I.kept hk, ⟨_, rfl⟩, q⟩
/-! ## lists of ints as data -/
def dI (ns : List Int) : PyData := .list (ns.map .int)
theorem dpall_iv {K : PySem.W.Frag} {H : Hp} : ∀ ns : List Int, DpAll K H (iv ns) (ns.map .int)
  | [] => .nil
  | n :: r => .cons (.int n) (dpall_iv r)
theorem dp_iv {K : PySem.W.Frag} {H : Hp} {a : Addr} {ns : List Int} (h : SqL K H a (iv ns)) : Dp K H (.ref a) (dI ns) := .lst h (dpall_iv ns)
theorem can_ints : ∀ ns : List Int, PyData.canLayAll0 (ns.map .int) = true
  | [] => by simp [PyData.canLayAll0]
  | n :: r => by simp [PyData.canLayAll0, PyData.canLay0, can_ints r]
theorem dep_ints : ∀ ns : List Int, PyData.depthAll (ns.map .int) = 0
  | [] => by simp [PyData.depthAll]
  | n :: r => by simp [PyData.depthAll, PyData.depth, dep_ints r]
theorem eqv_ints : ∀ xs ys : List Int, PyData.eqvAll (xs.map .int) (ys.map .int) = decide (xs = ys)
  | [], [] => by simp [PyData.eqvAll]
  | [], _ :: _ => by simp [PyData.eqvAll]
  | _ :: _, [] => by simp [PyData.eqvAll]
  | x :: r, y :: t => by
    have ih := eqv_ints r t
    simp only [List.map_cons, PyData.eqvAll, PyData.eqv, ih, List.cons.injEq]
    by_cases e : x = y <;> by_cases e2 : r = t <;> simp [e, e2]
theorem shaped_dI (ns : List Int) : SeqAt.shaped (dI ns) = true := by
  unfold SeqAt.shaped dI
  simp only [PyData.canLay0, can_ints, PyData.depth, dep_ints]
  decide
theorem eqv_dI (xs ys : List Int) : PyData.eqv (dI xs) (dI ys) = decide (xs = ys) := by
  unfold dI
  simp only [PyData.eqv, eqv_ints]
theorem shown_ints_len : ∀ ns : List Int, (∀ n ∈ ns, n.natAbs.log2 < 1920) → ((PyData.shownAll (ns.map .int)).map (·.length)).sum ≤ 2000 * ns.length ∧ (PyData.shownAll (ns.map .int)).length = ns.length
  | [], _ => by simp [PyData.shownAll]
  | n :: r, h => by
    obtain ⟨h1, h2⟩ := shown_ints_len r fun m hm => h m (List.mem_cons_of_mem _ hm)
    have e := int_text_length_le (k := 1920) (by decide) (h n (List.mem_cons_self ..))
    have e2 : (PyData.shown (.int n)).length ≤ 2000 := by
      show (Str.ofString (toString n)).length ≤ 2000
      rw [PySem.ofString_length]
      omega
    simp only [List.map_cons, PyData.shownAll, List.sum_cons, List.length_cons]
    omega
theorem show_ints : ∀ ns : List Int, (∀ n ∈ ns, n.natAbs.log2 < 1920) → PyData.showableAll (ns.map .int) = true
  | [], _ => by simp [PyData.showableAll]
  | n :: r, h => by simp [PyData.showableAll, PyData.showable, h n (List.mem_cons_self ..), show_ints r fun m hm => h m (List.mem_cons_of_mem _ hm)]
theorem nod_ints : ∀ ns : List Int, PyData.hasDictAll (ns.map .int) = false
  | [] => by simp [PyData.hasDictAll]
  | n :: r => by simp [PyData.hasDictAll, PyData.hasDict, nod_ints r]
theorem r_eqI {K : PySem.W.Frag} {H : Hp} {a b : Addr} {xs ys : List Int} {Q : VK} (h1 : SqL K H a (iv xs)) (h2 : SqL K H b (iv ys)) (q : Q (.bl (decide (xs = ys))) H) : rEqQ K (.ref a) (.ref b) H Q :=
  rEqQ_of ⟨dI xs, dI ys, dp_iv h1, dp_iv h2, shaped_dI xs, shaped_dI ys, by rw [eqv_dI]; exact q⟩
theorem r_neI {K : PySem.W.Frag} {H : Hp} {a b : Addr} {xs ys : List Int} {Q : VK} (h1 : SqL K H a (iv xs)) (h2 : SqL K H b (iv ys)) (q : Q (.bl (!decide (xs = ys))) H) : rNeQ K (.ref a) (.ref b) H Q :=
  rNeQ_of ⟨dI xs, dI ys, dp_iv h1, dp_iv h2, shaped_dI xs, shaped_dI ys, by rw [eqv_dI]; exact q⟩
theorem r_repr {K : PySem.W.Frag} {H : Hp} {a : Addr} {ns : List Int} {Q : VK} (h1 : SqL K H a (iv ns)) (hl : ns.length ≤ 5000) (hz : ∀ n ∈ ns, n.natAbs.log2 < 1920) (q : Q (.str (dI ns).shown) H) : rReprD K [.ref a] H Q := by
  unfold rReprD
  refine ⟨a, dI ns, rfl, dp_iv h1, ?_, ?_, ?_, ?_, q⟩
  · simp only [dI, PyData.showable]
    exact show_ints ns hz
  · simp only [dI, PyData.hasDict]
    exact nod_ints ns
  · simp only [dI, PyData.depth, dep_ints]
    decide
  · obtain ⟨e1, e2⟩ := shown_ints_len ns hz
    have e3 := listText_len_le (PyData.shownAll (ns.map .int))
    simp only [dI, PyData.shown]
    rw [sizeLine_eq]
    omega
mutual
theorem dp_same {K : PySem.W.Frag} {H H' : Hp} (s : Same H H') : ∀ (d : PyData) (x : V), Dp K H x d → Dp K H' x d
  | .none, _, h => by cases h; exact .non
  | .bool _, _, h => by cases h; exact .bl _
  | .int _, _, h => by cases h; exact .int _
  | .str _, _, h => by cases h; exact .str _
  | .list ds, _, h => by
    cases h with
    | lst a b => exact .lst (s.seq a) (dpall_same s ds _ b)
  | .tuple ds, _, h => by
    cases h with
    | tup a b =>
      refine .tup ?_ (dpall_same s ds _ b)
      rcases a with (a | ⟨o, a⟩) | a
      · exact .inl (.inl (s _ _ a))
      · exact .inl (.inr ⟨o, s _ _ a⟩)
      · exact .inr a
  | .dict _, _, h => nomatch h
theorem dpall_same {K : PySem.W.Frag} {H H' : Hp} (s : Same H H') : ∀ (ds : List PyData) (xs : List V), DpAll K H xs ds → DpAll K H' xs ds
  | [], _, h => by cases h; exact .nil
  | d :: ds, _, h => by
    cases h with
    | cons a b => exact .cons (dp_same s d _ a) (dpall_same s ds _ b)
end
theorem dpall_len {K : PySem.W.Frag} {H : Hp} : ∀ (ds : List PyData) (xs : List V), DpAll K H xs ds → xs.length = ds.length
  | [], _, h => by cases h; rfl
  | d :: ds, _, h => by
    cases h with
    | cons a b => rw [List.length_cons, List.length_cons, dpall_len ds _ b]
theorem dpall_get {K : PySem.W.Frag} {H : Hp} : ∀ (ds : List PyData) (xs : List V), DpAll K H xs ds → ∀ (i : Nat) (d : PyData), ds[i]? = some d → ∃ x, xs[i]? = some x ∧ Dp K H x d
  | [], _, _, _, _, e => by simp at e
  | d :: ds, _, h, i, d', e => by
    cases h with
    | cons a b =>
      cases i with
      | zero =>
        have z : d = d' := by simpa using e
        subst z
        exact ⟨_, rfl, a⟩
      | succ i => exact dpall_get ds _ b i d' (by simpa using e)
theorem tyx_lst {K : PySem.W.Frag} {H : Hp} {a : Addr} {xs : List V} (h : SqL K H a xs) : TyX K H (.ref a) (.type "list") := by
  rcases h with (h | ⟨o, h⟩) | ⟨o, its, n, h1, h2, _⟩
  · exact .base (.lst h)
  · exact .base (.frz h)
  · exact .kList h1 h2
theorem tyx_tup {K : PySem.W.Frag} {H : Hp} {a : Addr} {xs : List V} (h : SqT K H a xs) : TyX K H (.ref a) (.type "tuple") := by
  rcases h with (h | ⟨o, h⟩) | ⟨o, its, n, h1, h2, _⟩
  · exact .base (.tup h)
  · exact .fTuple h
  · exact .kTuple h1 h2
theorem kit_no {K : PySem.W.Frag} : PySem.W.kitOne K (.type "int") (.type "bool") = some false ∧ PySem.W.kitOne K (.type "str") (.type "bool") = some false ∧ PySem.W.kitOne K (.type "list") (.type "bool") = some false ∧
    PySem.W.kitOne K (.type "bool") (.type "int") = some true ∧ PySem.W.kitOne K (.type "int") (.type "int") = some true := ⟨rfl, rfl, rfl, rfl, rfl⟩
/-! ## tests -/
theorem ifD {p A B : Prop} [Decidable p] (h1 : p → A) (h2 : ¬ p → B) : if decide p = true then A else B := by
  by_cases h : p
  · rw [decide_eq_true h]; exact iteT (h1 h)
  · rw [decide_eq_false h]; exact iteF (h2 h)
theorem ifN {p A B : Prop} [Decidable p] (h1 : ¬ p → A) (h2 : p → B) : if (!decide p) = true then A else B := by
  by_cases h : p
  · rw [decide_eq_true h]; exact iteF (h2 h)
  · rw [decide_eq_false h]; exact iteT (h1 h)
theorem ifI {i j : Int} {A B : Prop} (h1 : i = j → A) (h2 : i ≠ j → B) : if decide (V.int i = V.int j) = true then A else B :=
  ifD (fun e => h1 (V.int.inj e)) fun e => h2 fun z => e (congrArg V.int z)
theorem ifIN {i j : Int} {A B : Prop} (h1 : i ≠ j → A) (h2 : i = j → B) : if (!decide (V.int i = V.int j)) = true then A else B :=
  ifN (fun e => h1 fun z => e (congrArg V.int z)) fun e => h2 (V.int.inj e)
/-! ## defs that may ask for repr: called where no repr is under way -/
structure FnG (P : Program) (w : World) (K : PySem.W.Frag) (mg : Str → Option Value) (base : Heap) (CX : CXT) (k : Nat) (f : Addr) (fd : FuncData) (ps : List Str) (sp : Sp) : Prop where
  len : ∀ vs H Q E, sp vs H Q E → vs.length = ps.length
  run : ∀ (A : Around) (outer : List Env) (s : Shared) (H : Hp) (args : Args) (us : List Value) (vs : List V) (Q : VK) (E : XK), Room k A → A.guards = some [] →
    Env0 P w K mg base A outer s H → BindsTo s fd args (ps.zip us) → Vals vs us → sp vs H Q E → codeAny (model P w) A (.call (.ref f) args) (CR CX outer P w H s Q E) s
section
variable {P : Program} {w : World} {K : PySem.W.Frag} {mg : Str → Option Value} {base : Heap} {CX : CXT}
theorem FnG.of {k : Nat} {f : Addr} {fd : FuncData} {ps : List Str} {sp : Sp} (F : FnOk P w K mg base CX k f fd ps sp) : FnG P w K mg base CX k f fd ps sp :=
  ⟨F.len, fun A outer s H args us vs Q E hr _ => F.run A outer s H args us vs Q E hr⟩
theorem fnG_of {k : Nat} {f : Addr} {nm qual : Str} {pms : Arguments} {body : List Stmt} {sc : Scope} {dV kV dc pm cdv ct oc : Value} {an od : Option Addr} {sl : Array (Option Value)} {N ps : List Str} {sp : Sp}
    (lk : K.lookup f = some ⟨oc, od, .func (PySem.W.fnOf nm qual pms body sc dV kV dc pm an cdv ct), sl⟩) (hcd : PySem.W.codeIn K cdv qual = true) (S : FnScope N ps sc) (len : ∀ vs H Q E, sp vs H Q E → vs.length = ps.length)
    (hb : ∀ (A : Around) (outer : List Env) (s : Shared) (H : Hp) (vs : List V) (Q : VK) (E : XK), A.guards = some [] → Room k (A.deeper (envOfC qual sc s.heap.objs.size f cdv)) → sp vs H Q E →
      ∃ t, PSs (cxOf CX P w K mg base N qual sc f cdv A outer s H E) body t ∧ t { nx := fun _ H' => Q .non H', rt := Q } (start N vs) H) :
    FnG P w K mg base CX (k + 1) f (PySem.W.fnOf nm qual pms body sc dV kV dc pm an cdv ct) ps sp := by
  refine ⟨len, ?_⟩
  intro A out s H args us vs Q E room hG env bnd rel pre
  have ln := len _ _ _ _ pre
  have kin : K.In s.heap := env.mod.kin.keeps fun b o e => (env.bs b o e).1
  have nl : s.heap.NoLimit := env.mod.nolimit.keeps fun b o e => (env.bs b o e).1
  have kinds : ∀ y ∈ ps.zip us, sc.names.lookup y.1 = some .local ∨ (sc.names.lookup y.1 = some .cell ∧ ((cellsFrom (s.heap.objs.size + 1) sc.names []).lookup y.1).isSome = true) := by
    rintro ⟨x, v⟩ hy
    rcases S.par x (List.of_mem_zip hy).1 with z | z
    · exact .inl z
    · exact .inr ⟨z, PySem.W.cellsFrom_some _ _ _ (.inl z)⟩
  refine codeAny_call_function room.depth (kin _ _ lk) rfl S.co S.gen rfl (PySem.W.codeRec_of kin hcd) (bnd _ _ _ _ ?_)
  refine wpAny_newFunctionEnv_cells S.kind kinds fun en hen s1 x1 => ?_
  cases hen
  refine ⟨nl.keeps x1.toInCall.keep, codeAny_func ?_⟩
  obtain ⟨t, ht, hq⟩ := hb A out s H vs Q E hG (room.deeper _) pre
  have J0 : Inv (cxOf CX P w K mg base N qual sc f cdv A out s H E) [] (start N vs) H s1 := inv_start S room.hd env ln rel x1
  refine wpAny_mono (ht.run [] s1 (start N vs) H _ J0 hq) (fun fl s2 hs => ?_) fun e s2 hs => hs
  cases fl with
  | ret u =>
    obtain ⟨v, τ, H2, J, rv, q⟩ := hs
    exact ⟨v, H2, J.os, J.bare, J.base, J.hok, rv, q⟩
  | next =>
    obtain ⟨τ, H2, J, q⟩ := hs
    exact ⟨V.non, H2, J.os, J.bare, J.base, J.hok, rfl, q⟩
  | brk =>
    obtain ⟨_, _, _, q⟩ := hs
    cases q
  | cont =>
    obtain ⟨_, _, _, q⟩ := hs
    cases q
end
/-! ## a def of the text: where it stands; its promise -/
structure DefAt (K : PySem.W.Frag) (mg : Str → Option Value) (x : Str) (st : Stmt) (ps : List Str) : Prop where
  ex : ∃ (f : Addr) (fd : FuncData), Fun K x x st f fd ∧ mg x = some (.ref f) ∧ Binds K fd ps []
/-- a def that may be called by its name; dvs: the defaults that fill up -/
structure Cal (P : Program) (w : World) (K : PySem.W.Frag) (mg : Str → Option Value) (base : Heap) (k : Nat) (x : Str) (sp : Sp) (dvs : List V) : Prop where
  ex : ∃ (f : Addr) (fd : FuncData) (ps : List Str) (ds : List Value), FnOk P w K mg base CX0 k f fd ps sp ∧ mg x = some (.ref f) ∧ PySem.W.keepIn K (.ref f) = true ∧ L2.Binds K fd ps ds ∧ Vals dvs ds
/-- a def that may be called by its name; it may ask for repr -/
structure CalG (P : Program) (w : World) (K : PySem.W.Frag) (mg : Str → Option Value) (base : Heap) (k : Nat) (x : Str) (sp : Sp) : Prop where
  ex : ∃ (f : Addr) (fd : FuncData) (ps : List Str), FnG P w K mg base CX0 k f fd ps sp ∧ mg x = some (.ref f) ∧ PySem.W.keepIn K (.ref f) = true ∧ Binds K fd ps []
section
variable {P : Program} {w : World} {K : PySem.W.Frag} {mg : Str → Option Value} {base : Heap}
theorem DefAt.cal {x : Str} {st : Stmt} {ps N : List Str} {k : Nat} {sp : Sp} (D : DefAt K mg x st ps) (S : FnScope N ps (defScope st)) (len : ∀ vs H Q E, sp vs H Q E → vs.length = ps.length)
    (hb : ∀ (f : Addr) (cdv : Value) (A : Around) (outer : List Env) (s : Shared) (H : Hp) (vs : List V) (Q : VK) (E : XK), Room k (A.deeper (envOfC x (defScope st) s.heap.objs.size f cdv)) → sp vs H Q E →
      ∃ t, PSs (cxOf CX0 P w K mg base N x (defScope st) f cdv A outer s H E).nox (defBody st) t ∧ t { nx := fun _ H' => Q .non H', rt := Q } (start N vs) H) : Cal P w K mg base (k + 1) x sp [] := by
  obtain ⟨f, fd, F, hm, b⟩ := D.ex
  exact ⟨f, fd, ps, [], F.ok S len fun cdv A outer s H vs Q E => hb f cdv A outer s H vs Q E, hm, F.kp, b, .nil⟩
theorem DefAt.calG {x : Str} {st : Stmt} {ps N : List Str} {k : Nat} {sp : Sp} (D : DefAt K mg x st ps) (S : FnScope N ps (defScope st)) (len : ∀ vs H Q E, sp vs H Q E → vs.length = ps.length)
    (hb : ∀ (f : Addr) (cdv : Value) (A : Around) (outer : List Env) (s : Shared) (H : Hp) (vs : List V) (Q : VK) (E : XK), A.guards = some [] → Room k (A.deeper (envOfC x (defScope st) s.heap.objs.size f cdv)) → sp vs H Q E →
      ∃ t, PSs (cxOf CX0 P w K mg base N x (defScope st) f cdv A outer s H E).nox (defBody st) t ∧ t { nx := fun _ H' => Q .non H', rt := Q } (start N vs) H) : CalG P w K mg base (k + 1) x sp := by
  obtain ⟨f, fd, ⟨⟨oc, od, kV, doc, pm, an, cdv, ct, osl, rfl, lk, hcd⟩, kp⟩, hm, b⟩ := D.ex
  refine ⟨f, _, ps, fnG_of lk hcd S len fun A outer s H vs Q E hG hr hsp => ?_, hm, kp, b⟩
  obtain ⟨t, h, q⟩ := hb f cdv A outer s H vs Q E hG hr hsp
  exact ⟨t, h.nox, q⟩
theorem okG {x qual : Str} {st : Stmt} {f : Addr} {fd : FuncData} {N ps : List Str} {k : Nat} {sp : Sp} (F : Fun K x qual st f fd) (S : FnScope N ps (defScope st)) (len : ∀ vs H Q E, sp vs H Q E → vs.length = ps.length)
    (hb : ∀ (cdv : Value) (A : Around) (outer : List Env) (s : Shared) (H : Hp) (vs : List V) (Q : VK) (E : XK), A.guards = some [] → Room k (A.deeper (envOfC qual (defScope st) s.heap.objs.size f cdv)) → sp vs H Q E →
      ∃ t, PSs (cxOf CX0 P w K mg base N qual (defScope st) f cdv A outer s H E).nox (defBody st) t ∧ t { nx := fun _ H' => Q .non H', rt := Q } (start N vs) H) : FnG P w K mg base CX0 (k + 1) f fd ps sp := by
  obtain ⟨⟨oc, od, kV, doc, pm, an, cdv, ct, osl, rfl, lk, hcd⟩, kp⟩ := F
  refine fnG_of lk hcd S len fun A outer s H vs Q E hG hr hsp => ?_
  obtain ⟨t, h, q⟩ := hb cdv A outer s H vs Q E hG hr hsp
  exact ⟨t, h.nox, q⟩
theorem calG_of {x : Str} {k : Nat} {sp : Sp} (c : Cal P w K mg base k x sp []) : CalG P w K mg base k x sp := by
  obtain ⟨f, fd, ps, ds, F, hm, kp, b, d⟩ := c.ex
  cases d
  exact ⟨f, fd, ps, FnG.of F, hm, kp, b⟩
theorem Cal.imp {x : Str} {k j : Nat} {sp sp' : Sp} {dvs : List V} (c : Cal P w K mg base k x sp dvs) (hk : k ≤ j) (h : ∀ vs H Q E, sp' vs H Q E → sp vs H Q E) : Cal P w K mg base j x sp' dvs := by
  obtain ⟨f, fd, ps, ds, F, hm, kp, b, d⟩ := c.ex
  exact ⟨f, fd, ps, ds, (F.mono hk).imp h, hm, kp, b, d⟩
end
section
variable {X : Cx} {k j : Nat} {x : Str} {sp : Sp} {p pos : Pos} {e : Expr} {es : List Expr} {t : TA}
theorem pe_c {dvs : List V} (c : Cal X.prog X.w X.K X.mg X.base k x sp dvs) (hr : Room j X.A) (hk : k ≤ j) (hg : Gl X x) (ha : PA X (e :: es) t)
    (hdb : (x == ("__debug__" : Str)) = false := by decide) (he : starEach (e :: es) X.env = (false, eval e X.env) :: starEach es X.env := by rfl) (hpl : (backTo pos (starEach es X.env)).any (·.1) = false := by rfl) :
    PE X (.Call (.Name x p) (e :: es) [] pos) (tCall sp dvs E0 t) := by
  obtain ⟨f, fd, ps, ds, F, hm, kp, bd, vd⟩ := c.ex
  exact L2.pe_call F (hr.mono hk) hg hm kp bd vd pass0 ha hdb he hpl
/-- a call of a def that may ask for repr -/
theorem pe_cG (c : CalG X.prog X.w X.K X.mg X.base k x sp) (hG : X.A.guards = some []) (hr : Room j X.A) (hk : k ≤ j) (hg : Gl X x) (ha : PA X (e :: es) t)
    (hdb : (x == ("__debug__" : Str)) = false := by decide) (he : starEach (e :: es) X.env = (false, eval e X.env) :: starEach es X.env := by rfl) (hpl : (backTo pos (starEach es X.env)).any (·.1) = false := by rfl) :
    PE X (.Call (.Name x p) (e :: es) [] pos) (tCall sp [] E0 t) := by
  obtain ⟨f, fd, ps, F, hm, kp, b⟩ := c.ex
  refine ⟨fun pins s σ H Q I h => wpAny_Call_Name_kw (ld_glob I hg hm ?_ hdb)⟩
  refine PySem.W.callWith_K (h₀ := X.base) I.ok.mod.kin kp (thn (ha.run pos pins s σ H _ I h) fun us s1 hx => ?_) he hpl
  obtain ⟨vs, H1, I1, r, q⟩ := hx
  rw [List.append_nil] at q
  have ln : us.length = ps.length := by rw [← r.length]; exact F.len _ _ _ _ q
  have bb : BindsTo s1 fd ⟨us, []⟩ (ps.zip us) := by
    have z := b s1 us I1.kIn (by rw [List.append_nil]; exact ln)
    rw [List.append_nil] at z
    exact z
  refine ⟨I1.kIn, wpAny_call (codeAny_mono (F.run X.A X.stack s1 H1 ⟨us, []⟩ us vs Q E0 (hr.mono hk) hG I1.env0 bb r q) fun r s' hq => ?_)⟩
  cases r with
  | error e => exact False.elim hq
  | ok fl =>
    cases fl with
    | ret u => exact I1.after hq
    | next => exact False.elim hq
    | brk => exact False.elim hq
    | cont => exact False.elim hq
end
/-! ## methods, properties, new objects -/
structure Met (P : Program) (w : World) (K : PySem.W.Frag) (mg : Str → Option Value) (base : Heap) (k : Nat) (C : Addr) (m : Str) (sp : Sp) : Prop where
  ex : ∃ (f : Addr) (fd : FuncData) (ps : List Str), Cls K C ∧ Meth K C m f ∧ FnOk P w K mg base CX0 k f fd ps sp ∧ L2.Binds K fd ps []
structure Prp (P : Program) (w : World) (K : PySem.W.Frag) (mg : Str → Option Value) (base : Heap) (k : Nat) (C : Addr) (m : Str) (sp : Sp) : Prop where
  ex : ∃ (f p : Addr) (fd : FuncData) (ps : List Str), Cls K C ∧ PropOf K C m p f ∧ FnOk P w K mg base CX0 k f fd ps sp ∧ L2.Binds K fd ps []
structure Mak (P : Program) (w : World) (K : PySem.W.Frag) (mg : Str → Option Value) (base : Heap) (k : Nat) (x : Str) (C : Addr) (sp : Sp) : Prop where
  ex : ∃ (f : Addr) (fd : FuncData) (ps : List Str), Mk K C f ∧ FnOk P w K mg base CX0 k f fd ps sp ∧ mg x = some (.ref C) ∧ L2.Binds K fd ps []
section
variable {X : Cx} {k j : Nat} {C : Addr} {x m : Str} {sp : Sp} {p pos apos : Pos} {e o : Expr} {es : List Expr} {ta : TE} {t : TA}
theorem pe_m {pl : Sem Bool} (c : Met X.prog X.w X.K X.mg X.base k C m sp) (hr : Room j X.A) (hk : k ≤ j) (he : PE X o ta) (ha : PA X (e :: es) t)
    (ht : eval (.Call (.Attribute o m apos) (e :: es) [] pos) X.env = (do
      let ov ← eval o X.env
      standAt apos.atName
      let (f, first) ← holding [ov] (getMethod ov m pl)
      callWith pos f first (backTo pos (starEach (e :: es) X.env)) (backToKw pos (keywordEach [] X.env))) := by rfl)
    (hst : starEach (e :: es) X.env = (false, eval e X.env) :: starEach es X.env := by rfl) (hpl : (backTo pos (starEach es X.env)).any (·.1) = false := by rfl) : PE X (.Call (.Attribute o m apos) (e :: es) [] pos) (tMeth C m sp [] E0 ta t) := by
  obtain ⟨f, fd, ps, c1, c2, F, b⟩ := c.ex
  exact L2.pe_meth (pl := pl) he c1 c2 F (hr.mono hk) b .nil pass0 ha hst hpl ht
theorem pe_mk (c : Mak X.prog X.w X.K X.mg X.base k x C sp) (hr : Room j X.A) (hk : k + 1 ≤ j) (hg : Gl X x) (ha : PA X (e :: es) t)
    (hdb : (x == ("__debug__" : Str)) = false := by decide) (he : starEach (e :: es) X.env = (false, eval e X.env) :: starEach es X.env := by rfl) (hpl : (backTo pos (starEach es X.env)).any (·.1) = false := by rfl) :
    PE X (.Call (.Name x p) (e :: es) [] pos) (tMake C sp [] E0 t) := by
  obtain ⟨f, fd, ps, M, F, hm, b⟩ := c.ex
  exact L2.pe_make M F (hr.mono hk) hg hm b .nil pass0 ha hdb he hpl
theorem pe_p (c : Prp X.prog X.w X.K X.mg X.base k C m sp) (hr : Room j X.A) (hk : k + 1 ≤ j) (he : PE X e ta) (hab : attributeBase e m X.env (eval e X.env) = eval e X.env := by rfl) : PE X (.Attribute e m pos) (tProp C sp [] E0 ta) := by
  obtain ⟨f, q, fd, ps, c1, c2, F, b⟩ := c.ex
  exact L2.pe_prop he c1 c2 F (hr.mono hk) b .nil pass0 hab
end
section
variable {X : Cx} {K : PySem.W.Frag} {C : Addr} {k j : Nat} {m f : Str} {sp : Sp} {ta tv : TE} {o value : Expr} {pos pos' apos tpos : Pos}
theorem pe_m0 {pl : Sem Bool} (c : Met X.prog X.w X.K X.mg X.base k C m sp) (hr : Room j X.A) (hk : k ≤ j) (he : PE X o ta)
    (ht : eval (.Call (.Attribute o m apos) [] [] pos) X.env = (do
      let ov ← eval o X.env
      standAt apos.atName
      let (f, first) ← holding [ov] (getMethod ov m pl)
      callWith pos f first (backTo pos (starEach [] X.env)) (backToKw pos (keywordEach [] X.env))) := by rfl) : PE X (.Call (.Attribute o m apos) [] [] pos) (tMeth C m sp [] E0 ta tNil) := by
  obtain ⟨f, fd, ps, c1, c2, F, b⟩ := c.ex
  exact L2.pe_meth0 (pl := pl) he c1 c2 F (hr.mono hk) b .nil pass0 ht
theorem ps_fldK (ha : PE X o ta) (hv : PE X value tv) (hs : swapsWith value (some (.Attribute o f pos')) pos.line X.env = pure false) (h : X.K = K := by rfl) : PS X (.Assign [.Attribute o f pos'] value pos) (sFld K ta tv f) := by
  subst h
  exact ps_fld ha hv hs
theorem ps_fldaugK {op : Operator} {rd : V → V → Hp → VK → Prop} (ha : PE X o ta) (hv : PE X value tv) (hop : InOp X op rd) (h : X.K = K := by rfl) : PS X (.AugAssign (.Attribute o f tpos) op value pos) (sFldAug K ta tv rd f) := by
  subst h
  exact ps_fldaug ha hv hop
end
/-- a method of the text -/
structure MetAt (K : PySem.W.Frag) (C : Addr) (m qual : Str) (st : Stmt) (ps : List Str) : Prop where
  ex : ∃ (f : Addr) (fd : FuncData), Fun K m qual st f fd ∧ Meth K C m f ∧ L2.Binds K fd ps []
section
variable {P : Program} {w : World} {K : PySem.W.Frag} {mg : Str → Option Value} {base : Heap} {C : Addr} {m x qual : Str} {st : Stmt} {ps N : List Str} {k : Nat} {sp : Sp}
theorem MetAt.met (D : MetAt K C m qual st ps) (cl : Cls K C) (S : FnScope N ps (defScope st)) (len : ∀ vs H Q E, sp vs H Q E → vs.length = ps.length)
    (hb : ∀ (f : Addr) (cdv : Value) (A : Around) (outer : List Env) (s : Shared) (H : Hp) (vs : List V) (Q : VK) (E : XK), Room k (A.deeper (envOfC qual (defScope st) s.heap.objs.size f cdv)) → sp vs H Q E →
      ∃ t, PSs (cxOf CX0 P w K mg base N qual (defScope st) f cdv A outer s H E).nox (defBody st) t ∧ t { nx := fun _ H' => Q .non H', rt := Q } (start N vs) H) : Met P w K mg base (k + 1) C m sp := by
  obtain ⟨f, fd, F, hm, b⟩ := D.ex
  exact ⟨f, fd, ps, cl, hm, F.ok S len fun cdv A outer s H vs Q E => hb f cdv A outer s H vs Q E, b⟩
end
/-- a class's __init__ of the text -/
structure IniAt (K : PySem.W.Frag) (mg : Str → Option Value) (C : Addr) (x qual : Str) (st : Stmt) (ps : List Str) : Prop where
  ex : ∃ (f : Addr) (fd : FuncData), Fun K "__init__" qual st f fd ∧ Mk K C f ∧ mg x = some (.ref C) ∧ L2.Binds K fd ps []
/-- a property of the text -/
structure PrpAt (K : PySem.W.Frag) (C : Addr) (m qual : Str) (st : Stmt) (ps : List Str) : Prop where
  ex : ∃ (f p : Addr) (fd : FuncData), Fun K m qual st f fd ∧ PropOf K C m p f ∧ L2.Binds K fd ps []
section
variable {P : Program} {w : World} {K : PySem.W.Frag} {mg : Str → Option Value} {base : Heap} {C : Addr} {m x qual : Str} {st : Stmt} {ps N : List Str} {k : Nat} {sp : Sp}
theorem IniAt.mak (D : IniAt K mg C x qual st ps) (S : FnScope N ps (defScope st)) (len : ∀ vs H Q E, sp vs H Q E → vs.length = ps.length)
    (hb : ∀ (f : Addr) (cdv : Value) (A : Around) (outer : List Env) (s : Shared) (H : Hp) (vs : List V) (Q : VK) (E : XK), Room k (A.deeper (envOfC qual (defScope st) s.heap.objs.size f cdv)) → sp vs H Q E →
      ∃ t, PSs (cxOf CX0 P w K mg base N qual (defScope st) f cdv A outer s H E).nox (defBody st) t ∧ t { nx := fun _ H' => Q .non H', rt := Q } (start N vs) H) : Mak P w K mg base (k + 1) x C sp := by
  obtain ⟨f, fd, F, hm, hg, b⟩ := D.ex
  exact ⟨f, fd, ps, hm, F.ok S len fun cdv A outer s H vs Q E => hb f cdv A outer s H vs Q E, hg, b⟩
theorem PrpAt.prp (D : PrpAt K C m qual st ps) (cl : Cls K C) (S : FnScope N ps (defScope st)) (len : ∀ vs H Q E, sp vs H Q E → vs.length = ps.length)
    (hb : ∀ (f : Addr) (cdv : Value) (A : Around) (outer : List Env) (s : Shared) (H : Hp) (vs : List V) (Q : VK) (E : XK), Room k (A.deeper (envOfC qual (defScope st) s.heap.objs.size f cdv)) → sp vs H Q E →
      ∃ t, PSs (cxOf CX0 P w K mg base N qual (defScope st) f cdv A outer s H E).nox (defBody st) t ∧ t { nx := fun _ H' => Q .non H', rt := Q } (start N vs) H) : Prp P w K mg base (k + 1) C m sp := by
  obtain ⟨f, p, fd, F, hm, b⟩ := D.ex
  exact ⟨f, p, fd, ps, cl, hm, F.ok S len fun cdv A outer s H vs Q E => hb f cdv A outer s H vs Q E, b⟩
end
/-- all but o stands -/
def But (o : Addr) (H H' : Hp) : Prop := ∀ b u, b ≠ o → H b = some u → H' b = some u
theorem But.refl (o : Addr) (H : Hp) : But o H H := fun _ _ _ h => h
theorem But.trans {o : Addr} {H H1 H2 : Hp} (a : But o H H1) (b : But o H1 H2) : But o H H2 := fun c u n h => b c u n (a c u n h)
theorem But.of {o : Addr} {H H1 : Hp} (s : Same H H1) : But o H H1 := fun b u _ h => s b u h
theorem But.put {o : Addr} {H : Hp} {u : HO} : But o H (upd H o u) := fun b x n h => by
  rw [upd_ne n]
  exact h
theorem But.seq {K : PySem.W.Frag} {o a : Addr} {H H' : Hp} {xs : List V} (b : But o H H') (n : a ≠ o) (h : H a = some (.lst xs)) : SqL K H' a xs := seqL_of (b a _ n h)
theorem Sep.but {R : Rg} {G H H' : Hp} {o : Addr} {u u' : HO} (s : Sep R G H) (h : G o = some u) (b : But o H H') (e : H' o = some u') : Sep R (upd G o u') H' := by
  have no : ∀ a, R.S a → a ≠ o := fun a ha z => by
    have q := s.off a ha
    rw [z, h] at q
    cases q
  refine ⟨R.loc H _ (fun a ha => ?_) s.inv, fun c x q => ?_, fun a ha => by rw [upd_ne (no a ha)]; exact s.off a ha⟩
  · cases q : H a with
    | none => exact absurd q (R.has H a s.inv ha)
    | some z => exact b a z (no a ha) q
  · by_cases hc : c = o
    · rw [hc, upd_same] at q
      rw [hc, e]
      exact q
    · rw [upd_ne hc] at q
      exact b c x hc (s.same c x q)

theorem Sep.add {R : Rg} {G0 H0 G H : Hp} {l : Addr} {u : HO} (s0 : Sep R G0 H0) (n : H0 l = none) (s : Sep R G H) (e : H l = some u) : Sep R (upd G l u) H := by
  have nl : ∀ a, R.S a → a ≠ l := fun a ha z => R.has H0 a s0.inv ha (by rw [z]; exact n)
  refine ⟨s.inv, fun b x q => ?_, fun a ha => by rw [upd_ne (nl a ha)]; exact s.off a ha⟩
  by_cases hb : b = l
  · rw [hb, upd_same] at q
    rw [hb, e]
    exact q
  · rw [upd_ne hb] at q
    exact s.same b x q

/-! ## calls by keywords alone -/
/-- a def called with the keywords ks alone: sp speaks of their values -/
structure CalK (P : Program) (w : World) (K : PySem.W.Frag) (mg : Str → Option Value) (base : Heap) (k : Nat) (x : Str) (ks : List Str) (sp : Sp) : Prop where
  ex : ∃ (f : Addr) (fd : FuncData) (ps : List Str) (spf : Sp) (g : List Value → List Value → List Value) (gV : List V → List V → List V),
    FnOk P w K mg base CX0 k f fd ps spf ∧ mg x = some (.ref f) ∧ PySem.W.keepIn K (.ref f) = true ∧ KBn K fd ps 0 ks g gV ∧ ∀ zs H Q E, sp zs H Q E → zs.length = ks.length ∧ spf (gV [] zs) H Q E
def tCk (sp : Sp) (tk : TA) : TE := fun σ H Q => tk σ H fun zs H1 => sp zs H1 Q E0
section
variable {X : Cx} {k j : Nat} {x : Str} {ks : List Str} {sp : Sp} {p pos : Pos} {kws : List Keyword} {tk : TA}
theorem pe_ck (c : CalK X.prog X.w X.K X.mg X.base k x ks sp) (hr : Room j X.A) (hk : k ≤ j) (hg : Gl X x) (hkw : PK X kws tk)
    (hall : (backToKw pos (keywordEach kws X.env)).all (·.1.isSome) = true := by rfl) (hks : (backToKw pos (keywordEach kws X.env)).filterMap (·.1) = ks := by rfl) (hdb : (x == ("__debug__" : Str)) = false := by decide)
    (hpl : ((backTo pos (starEach [] X.env)).any (·.1) || (backToKw pos (keywordEach kws X.env)).any (·.1.isNone)) = false := by rfl) : PE X (.Call (.Name x p) [] kws pos) (tCk sp tk) := by
  obtain ⟨f, fd, ps, spf, g, gV, F, hm, kp, hb, hs⟩ := c.ex
  refine ⟨fun pins s σ H Q I h => wpAny_Call_Name_kw (ld_glob I hg hm ?_ hdb)⟩
  refine PySem.W.callWith_KW0 (h₀ := X.base) I.ok.mod.kin kp hall (thn (hkw.run pos pins s σ H _ I h) fun ws s1 hx => ?_) hpl
  obtain ⟨zs, H1, I1, rz, q⟩ := hx
  obtain ⟨lz, q⟩ := hs _ _ _ _ q
  refine ⟨I1.kIn, ?_⟩
  rw [hks]
  exact run_fnN F (hr.mono hk) hb pass0 I1 .nil rz rfl lz q
end

/-! ## a def with defaults, called by place or by keywords -/
section
variable {P : Program} {w : World} {K : PySem.W.Frag} {mg : Str → Option Value} {base : Heap} {x qual : Str} {pms : Arguments} {body : List Stmt} {sc : Scope} {dvs : List V} {f : Addr} {fd : FuncData} {ps ks : List Str}
/-- all parameters by keywords; g brings the values in the parameters' order -/
theorem kbn_dflt (F : FunD K x qual pms body sc dvs [] f fd) (hd : dvs ≠ []) (g : {α : Type} → List α → List α) (hg : ∀ {vs : List V} {us : List Value}, Vals vs us → Vals (g vs) (g us))
    (h : ∀ (T : Addr) (kV doc pm : Value) (an : Option Addr) (cdv ct : Value) (ws its : List Value), ws.length = ks.length → its.length = dvs.length →
      ∃ k, bindArgs (PySem.W.fnOf x qual pms body sc (.ref T) kV doc pm an cdv ct) ⟨[], ks.zip ws⟩ = seqItems? (.ref T) >>= k ∧ k (some its.toArray) = pure (ps.zip (g ws))) : KBn K fd ps 0 ks (fun _ ws => g ws) (fun _ zs => g zs) := by
  obtain ⟨oc, od, dV, kV, doc, pm, an, cdv, ct, osl, rfl, lk, hcd, hD, hK⟩ := F.ex
  rcases hD with ⟨e, _⟩ | ⟨_, T, o, its, m, rfl, lT, oT, rT⟩
  · exact absurd e hd
  · refine ⟨fun s us ws X l1 l2 => ?_, fun r1 r2 => hg r2⟩
    cases us with
    | cons u us => cases l1
    | nil =>
      obtain ⟨k, e1, e2⟩ := h T kV doc pm an cdv ct ws its l2 rT.length.symm
      refine BindsTo.of_looks fun M => ?_
      rw [e1]
      exact looks_items X lT oT (.of_pure e2)
/-- .. of a def without defaults -/
theorem kbn_plain {st : Stmt} (F : Fun K x qual st f fd) (g : {α : Type} → List α → List α) (hg : ∀ {vs : List V} {us : List Value}, Vals vs us → Vals (g vs) (g us))
    (h : ∀ (kV doc pm : Value) (an : Option Addr) (cdv ct : Value) (ws : List Value), ws.length = ks.length →
      bindArgs (PySem.W.fnOf x qual (defArgs st) (defBody st) (defScope st) .none kV doc pm an cdv ct) ⟨[], ks.zip ws⟩ = pure (ps.zip (g ws))) : KBn K fd ps 0 ks (fun _ ws => g ws) (fun _ zs => g zs) := by
  obtain ⟨oc, od, kV, doc, pm, an, cdv, ct, osl, rfl, lk, hcd⟩ := F.ex
  refine ⟨fun s us ws X l1 l2 => ?_, fun r1 r2 => hg r2⟩
  cases us with
  | cons u us => cases l1
  | nil => exact .of_eq (h kV doc pm an cdv ct ws l2)
theorem calK_mk {k : Nat} {spf sp : Sp} {g : List Value → List Value → List Value} {gV : List V → List V → List V} (F : FnOk P w K mg base CX0 k f fd ps spf) (hm : mg x = some (.ref f)) (kp : PySem.W.keepIn K (.ref f) = true) (b : KBn K fd ps 0 ks g gV)
    (h : ∀ zs H Q E, sp zs H Q E → zs.length = ks.length ∧ spf (gV [] zs) H Q E) : CalK P w K mg base k x ks sp := ⟨f, fd, ps, spf, g, gV, F, hm, kp, b, h⟩
end
/-- a def without defaults that is called by place and by keywords -/
structure Def2 (P : Program) (w : World) (K : PySem.W.Frag) (mg : Str → Option Value) (base : Heap) (k : Nat) (x : Str) (st : Stmt) (ps : List Str) (sp : Sp) : Prop where
  ex : ∃ (f : Addr) (fd : FuncData), Fun K x x st f fd ∧ mg x = some (.ref f) ∧ Binds K fd ps [] ∧ FnOk P w K mg base CX0 k f fd ps sp
section
variable {P : Program} {w : World} {K : PySem.W.Frag} {mg : Str → Option Value} {base : Heap} {x : Str} {st : Stmt} {ps ks N : List Str} {k : Nat} {sp sp' : Sp}
theorem DefAt.two (D : DefAt K mg x st ps) (S : FnScope N ps (defScope st)) (len : ∀ vs H Q E, sp vs H Q E → vs.length = ps.length)
    (hb : ∀ (f : Addr) (cdv : Value) (A : Around) (outer : List Env) (s : Shared) (H : Hp) (vs : List V) (Q : VK) (E : XK), Room k (A.deeper (envOfC x (defScope st) s.heap.objs.size f cdv)) → sp vs H Q E →
      ∃ t, PSs (cxOf CX0 P w K mg base N x (defScope st) f cdv A outer s H E).nox (defBody st) t ∧ t { nx := fun _ H' => Q .non H', rt := Q } (start N vs) H) : Def2 P w K mg base (k + 1) x st ps sp := by
  obtain ⟨f, fd, F, hm, b⟩ := D.ex
  exact ⟨f, fd, F, hm, b, F.ok S len fun cdv A outer s H vs Q E => hb f cdv A outer s H vs Q E⟩
theorem Def2.cal (D : Def2 P w K mg base k x st ps sp) : Cal P w K mg base k x sp [] := by
  obtain ⟨f, fd, F, hm, b, ok⟩ := D.ex
  exact ⟨f, fd, ps, [], ok, hm, F.kp, b, .nil⟩
theorem Def2.calK (D : Def2 P w K mg base k x st ps sp) (g : {α : Type} → List α → List α) (hg : ∀ {vs : List V} {us : List Value}, Vals vs us → Vals (g vs) (g us))
    (h : ∀ (kV doc pm : Value) (an : Option Addr) (cdv ct : Value) (ws : List Value), ws.length = ks.length →
      bindArgs (PySem.W.fnOf x x (defArgs st) (defBody st) (defScope st) .none kV doc pm an cdv ct) ⟨[], ks.zip ws⟩ = pure (ps.zip (g ws))) (hs : ∀ zs H Q E, sp' zs H Q E → zs.length = ks.length ∧ sp (g zs) H Q E) : CalK P w K mg base k x ks sp' := by
  obtain ⟨f, fd, F, hm, b, ok⟩ := D.ex
  exact calK_mk ok hm F.kp (kbn_plain F g hg h) hs
end
theorem perm_sorted_eq : ∀ {xs ys : List Int}, xs.Perm ys → xs.Pairwise (· ≤ ·) → ys.Pairwise (· ≤ ·) → xs = ys
  | [], ys, p, _, _ => (List.nil_perm.mp p).symm
  | x :: r, [], p, _, _ => absurd (List.perm_nil.mp p) (by simp)
  | x :: r, y :: t, p, h1, h2 => by
    have a1 := (List.pairwise_cons.mp h1).1
    have a2 := (List.pairwise_cons.mp h2).1
    have m1 : x ∈ y :: t := p.mem_iff.mp (List.mem_cons_self ..)
    have m2 : y ∈ x :: r := p.mem_iff.mpr (List.mem_cons_self ..)
    have e : x = y := by
      rcases List.mem_cons.mp m1 with z | z
      · exact z
      · rcases List.mem_cons.mp m2 with z2 | z2
        · exact z2.symm
        · have := a1 y z2
          have := a2 x z
          omega
    subst e
    rw [perm_sorted_eq (List.Perm.cons_inv p) (List.pairwise_cons.mp h1).2 (List.pairwise_cons.mp h2).2]

/-! ## a law's end, of a law that may ask for repr -/
theorem law_endG {P : Program} {w : World} {K : PySem.W.Frag} {mg mb : Str → Option Value} {k : Nat} {fa a : Addr} {fd : FuncData} {x : Str} {sp : Sp} {s₁ : Shared} {vs : List Value} {ns : List Int}
    (KX : K.In s₁.heap) (hns : s₁.heap.Ns mainGlobals mg) (hb : s₁.heap.Ns builtinsNs mb) (hbb : ∀ x : Str, x ≠ "__name__" → mb x = bootBuiltins x) (hlim : s₁.heap.NoLimit) (hg : s₁.gens = #[])
    (ha : s₁.heap.get? a = some { cls := .type "list", data := .seq vs.toArray }) (hi : IntsAre vs ns) (hl : ns.length ≤ sizeLine) (hr : Room k callerA)
    (F : ∀ base : Heap, K.In base → base.Ns mainGlobals mg → FnG P w K mg base CX0 k fa fd [x] sp) (hbind : ∀ (s : Shared) (u : Value), BindsTo s fd ⟨[u], []⟩ [(x, u)])
    (hsp : ∀ H : Hp, Only H → SqL K H a (iv ns) → sp [.ref a] H (fun v _ => v = .bl true) fun _ _ _ => False) :
    codeAny (model P w) callerA (.call (.ref fa) ⟨[.ref a], []⟩) (fun r s' => r = .ok (.ret (.bool true)) ∧ OldK s₁.heap s'.heap ∧ s'.os = s₁.os ∧ AllBare s'.gens) s₁ := by
  have rel := vals_ints hi
  have same : ∀ H : Hp, Only H → SqL K H a (iv ns) → HOk P w H s₁.heap → (∀ b, H b ≠ none → b = a) → (H a ≠ none → K.lookup a = none) →
      codeAny (model P w) callerA (.call (.ref fa) ⟨[.ref a], []⟩) (fun r s' => r = .ok (.ret (.bool true)) ∧ OldK s₁.heap s'.heap ∧ s'.os = s₁.os ∧ AllBare s'.gens) s₁ := by
    intro H only sq hok at_a k_a
    have nonK : ∀ {b : Addr} {o : Obj}, K.lookup b = some o → H b = none := by
      intro b o e
      cases q : H b with
      | none => rfl
      | some u =>
        have z := at_a b (by rw [q]; simp)
        subst z
        rw [k_a (by rw [q]; simp)] at e
        cases e
    have nonD : ∀ {b : Addr} {o : Obj} {es : Array DictEntry} {ep : Nat}, s₁.heap.get? b = some o → o.data = .dict es ep → H b = none := by
      intro b o es ep e d
      cases q : H b with
      | none => rfl
      | some u =>
        have z := at_a b (by rw [q]; simp)
        subst z
        rw [ha] at e
        cases e
        cases d
    have nsB : ∀ {b : Addr} {m : Str → Option Value}, s₁.heap.Ns b m → (hidT s₁.heap H).Ns b m := by
      rintro b m ⟨o, es, ep, e, d, r⟩
      exact ⟨o, es, ep, hidT_get e (nonD e d), d, r⟩
    have kinB : K.In (hidT s₁.heap H) := fun b o e => hidT_get (KX b o e) (nonK e)
    have md : Mod K mg (hidT s₁.heap H) := by
      obtain ⟨mc, h1, h2⟩ := hlim
      exact ⟨kinB, nsB hns, ⟨mb, nsB hb, hbb⟩, ⟨mc, nsB h1, h2⟩⟩
    have noIn : ∀ b : Addr, b ∉ frs [] := fun b z => by cases z
    have env : Env0 P w K mg (hidT s₁.heap H) callerA [] s₁ H := ⟨rfl, md, fun b o e => of_hidT e, Nat.le_of_eq (hidT_size _ _), trivial, fun b z => absurd z (noIn b), hok, .of_eq hg⟩
    refine codeAny_mono ((F _ kinB (nsB hns)).run callerA [] s₁ H ⟨[.ref a], []⟩ [.ref a] [.ref a] _ _ hr rfl env (hbind s₁ (.ref a)) (.cons rfl .nil) (hsp H only sq)) fun r s' h => ?_
    cases r with
    | error e => exact False.elim h
    | ok fl =>
      cases fl with
      | next => exact False.elim h
      | brk => exact False.elim h
      | cont => exact False.elim h
      | ret u =>
        obtain ⟨v, H', os, bare, un, hok', rv, q⟩ := h
        have ev : v = .bl true := q
        subst ev
        have eu : u = Value.bool true := rv
        subst eu
        refine ⟨rfl, OldK.of_keep fun b o e => ?_, os, bare⟩
        cases q : H b with
        | none => exact un.keep b o e q (noIn b) (by simp)
        | some u =>
          rcases only b with z | ⟨ob, xs, z⟩
          · rw [q] at z
            cases z
          · obtain ⟨e1, _⟩ := hok b _ z
            obtain ⟨e2, _⟩ := hok' b _ (un.frzs b ob _ z)
            rw [e] at e1
            cases e1
            exact e2
  cases hk : K.lookup a with
  | some o =>
    have e := KX a o hk
    rw [ha] at e
    cases e
    refine same (fun _ => none) (fun _ => .inl rfl) (.inr ⟨_, vs.toArray, _, hk, rfl, rfl, rfl, ?_, by simpa using rel⟩) (fun b u z => ?_) (fun b z => absurd rfl z) fun z => absurd rfl z
    · rw [List.size_toArray, hi.length]
      exact hl
    · exact nomatch (show (none : Option HO) = some u from z)
  | none =>
    let H0 : Hp := fun b => if b = a then some (.frz { cls := .type "list", data := .seq vs.toArray } (.lst (iv ns))) else none
    have at1 : H0 a = some (.frz { cls := .type "list", data := .seq vs.toArray } (.lst (iv ns))) := if_pos rfl
    have at0 : ∀ b, b ≠ a → H0 b = none := fun b hb => if_neg hb
    refine same H0 (fun b => ?_) (.inl (.inr ⟨_, at1⟩)) (fun b u z => ?_) (fun b z => ?_) fun _ => hk
    · by_cases hb : b = a
      · exact .inr ⟨_, _, by rw [hb]; exact at1⟩
      · exact .inl (at0 b hb)
    · by_cases hb : b = a
      · subst hb
        rw [at1] at z
        cases z
        exact ⟨ha, by rw [iv_len]; exact hl, vs, _, rel, ha⟩
      · rw [at0 b hb] at z
        cases z
    · by_cases hb : b = a
      · exact hb
      · exact absurd (at0 b hb) z
theorem walk_ofG {l : PySem.W.OpenLaw} {n k : Nat} {q : Program} {loose : List Str} {XP : (Str → Option Value) → Heap → Prop} {YP : World → Heap → Prop} {d : DefRec} {K : Params → PySem.W.Frag} {sp : PySem.W.Frag → Sp} {x : Str}
    (hn : l.most = some n) (hn2 : n ≤ sizeLine) (hdf : d.params.defaults = []) (hr : Room k callerA) (hY : ∀ (w : World) (h : Heap), YP w h → (K w.params).In h)
    (F : ∀ (w : World) (mg : Str → Option Value) (fa : Addr) (h : Heap), (K w.params).In h → h.Ns mainGlobals mg → mg d.name = some (.ref fa) →
      ∃ fd : FuncData, (∀ (s : Shared) (u : Value), BindsTo s fd ⟨[u], []⟩ [(x, u)]) ∧
        ∀ base : Heap, (K w.params).In base → base.Ns mainGlobals mg → FnG l.prog w (K w.params) mg base CX0 k fa fd [x] (sp (K w.params)))
    (hsp : ∀ (K : PySem.W.Frag) (H : Hp) (a : Addr) (ns : List Int), ns.length ≤ n → SqL K H a (iv ns) → sp K [.ref a] H (fun v _ => v = .bl true) fun _ _ _ => False) :
    PySem.W.WalkO q loose XP YP l.row.toRowW d [] (fun f vs => PySem.call f vs) := by
  refine Att.attach_call hn hdf fun w s₀ s₁ mg mb fa o pm cd doc a vs ns G Y ho hd hcd hmg hobj hints hlen hg => ?_
  have KX := hY w _ Y
  obtain ⟨fd, hb, hF⟩ := F w mg fa _ KX G.T.g hmg
  exact law_endG KX G.T.g G.T.b G.T.builtins G.T.nolimit hg hobj hints (Nat.le_trans hlen hn2) hr hF hb fun H _ hS => hsp (K w.params) H a ns hlen hS

/-! ## a def of the text, out of what the top has written -/
theorem DefAt.mk1 {K : PySem.W.Frag} {h : Heap} {mg : Str → Option Value} {x : Str} {st : Stmt} {ps : List Str} {f : Addr} {od an : Option Addr} {sl : Array (Option Value)} {oc kV dc pm cd ct : Value} (X : K.In h) (G : h.Ns mainGlobals mg)
    (a : PySem.W.nsIn K mainGlobals x = some (some (.ref f))) (l : K.lookup f = some ⟨oc, od, .func (PySem.W.fnOf x x (defArgs st) (defBody st) (defScope st) .none kV dc pm an cd ct), sl⟩) (c : PySem.W.codeIn K cd x = true) (k : PySem.W.keepIn K (.ref f) = true)
    (hb : ∀ (kV doc pm : Value) (an : Option Addr) (cdv ct : Value) (us : List Value), us.length = ps.length → bindArgs (PySem.W.fnOf x x (defArgs st) (defBody st) (defScope st) .none kV doc pm an cdv ct) ⟨us, []⟩ = pure (ps.zip us)) : DefAt K mg x st ps :=
  ⟨f, _, fun_mk (st := st) l c k, PySem.W.mg_of X G a, (fun_mk (st := st) l c k).binds hb⟩
theorem cutD {p q : Prop} (h : p) (k : p → q) : q := k h
/-- a class: what its facts say -/
theorem cls_mk {K : PySem.W.Frag} {h : Heap} {mg : Str → Option Value} {x : Str} {C : Addr} (X : K.In h) (hC : mg x = some (.ref C)) (pg : PySem.W.plainGet K C Str.empty = true) (hd : PySem.W.hasDictIn K C = true) (po : PySem.W.plainOver K C = true) (sa : PySem.W.findIn K (.ref C) "__setattr__" = some (some (.builtin "object.__setattr__"))) : Cls K C := ⟨pg, hd, po, sa⟩
theorem noat_mk {K : PySem.W.Frag} {h : Heap} {mg : Str → Option Value} {x : Str} {C : Addr} {m : Str} (X : K.In h) (hC : mg x = some (.ref C)) (n : PySem.W.findIn K (.ref C) m = some none) : NoAttr K C m := n
theorem IniAt.mk1 {K : PySem.W.Frag} {h : Heap} {mg : Str → Option Value} {C : Addr} {x qual : Str} {st : Stmt} {ps : List Str} {f : Addr} {od an : Option Addr} {sl : Array (Option Value)} {oc kV dc pm cd ct : Value} (X : K.In h) (hm : mg x = some (.ref C))
    (a : PySem.W.findIn K (.ref C) "__init__" = some (some (.ref f))) (l : K.lookup f = some ⟨oc, od, .func (PySem.W.fnOf "__init__" qual (defArgs st) (defBody st) (defScope st) .none kV dc pm an cd ct), sl⟩) (c : PySem.W.codeIn K cd qual = true) (k : PySem.W.keepIn K (.ref f) = true)
    (mk : PySem.W.makesIn K C = true) (i : PySem.W.isFn K (.ref f) = true) (kc : PySem.W.keepIn K (.ref C) = true)
    (hb : ∀ (kV doc pm : Value) (an : Option Addr) (cdv ct : Value) (us : List Value), us.length = ps.length → bindArgs (PySem.W.fnOf "__init__" qual (defArgs st) (defBody st) (defScope st) .none kV doc pm an cdv ct) ⟨us, []⟩ = pure (ps.zip us)) : IniAt K mg C x qual st ps :=
  ⟨f, _, fun_mk (st := st) l c k, ⟨mk, a, i, kc⟩, hm, (fun_mk (st := st) l c k).binds hb⟩
theorem MetAt.mk1 {K : PySem.W.Frag} {h : Heap} {mg : Str → Option Value} {x : Str} {C : Addr} {m qual : Str} {st : Stmt} {ps : List Str} {f : Addr} {od an : Option Addr} {sl : Array (Option Value)} {oc kV dc pm cd ct : Value} (X : K.In h) (hC : mg x = some (.ref C))
    (a : PySem.W.findIn K (.ref C) m = some (some (.ref f))) (l : K.lookup f = some ⟨oc, od, .func (PySem.W.fnOf m qual (defArgs st) (defBody st) (defScope st) .none kV dc pm an cd ct), sl⟩) (c : PySem.W.codeIn K cd qual = true) (k : PySem.W.keepIn K (.ref f) = true) (i : PySem.W.isFn K (.ref f) = true)
    (hb : ∀ (kV doc pm : Value) (an : Option Addr) (cdv ct : Value) (us : List Value), us.length = ps.length → bindArgs (PySem.W.fnOf m qual (defArgs st) (defBody st) (defScope st) .none kV doc pm an cdv ct) ⟨us, []⟩ = pure (ps.zip us)) : MetAt K C m qual st ps :=
  ⟨f, _, fun_mk (st := st) l c k, ⟨a, i, k⟩, (fun_mk (st := st) l c k).binds hb⟩
theorem PrpAt.mk1 {K : PySem.W.Frag} {h : Heap} {mg : Str → Option Value} {x : Str} {C : Addr} {m qual : Str} {st : Stmt} {ps : List Str} {f p : Addr} {rest : List Value} {od an : Option Addr} {sl : Array (Option Value)} {oc kV dc pm cd ct : Value} (X : K.In h) (hC : mg x = some (.ref C))
    (a : PySem.W.findIn K (.ref C) m = some (some (.ref p))) (g : PySem.W.specialIn K (.ref p) "__get__" = some (some (.builtin "property.__get__"))) (t : PySem.W.takesIn K (.ref p) = some true) (r : PySem.W.recIn K p "property" = some (.ref f :: rest))
    (l : K.lookup f = some ⟨oc, od, .func (PySem.W.fnOf m qual (defArgs st) (defBody st) (defScope st) .none kV dc pm an cd ct), sl⟩) (c : PySem.W.codeIn K cd qual = true) (k : PySem.W.keepIn K (.ref f) = true)
    (hb : ∀ (kV doc pm : Value) (an : Option Addr) (cdv ct : Value) (us : List Value), us.length = ps.length → bindArgs (PySem.W.fnOf m qual (defArgs st) (defBody st) (defScope st) .none kV doc pm an cdv ct) ⟨us, []⟩ = pure (ps.zip us)) : PrpAt K C m qual st ps :=
  ⟨f, p, _, fun_mk (st := st) l c k, ⟨a, g, t, rest, r⟩, (fun_mk (st := st) l c k).binds hb⟩
theorem glob_mk {K : PySem.W.Frag} {h : Heap} {mg : Str → Option Value} {x : Str} {C : Addr} (X : K.In h) (G : h.Ns mainGlobals mg) (a : PySem.W.nsIn K mainGlobals x = some (some (.ref C))) : mg x = some (.ref C) := PySem.W.mg_of X G a
/-- a def with defaults -/
theorem funD_mk {K : PySem.W.Frag} {h : Heap} {mg : Str → Option Value} {x : Str} {st : Stmt} {dvs : List V} {f T : Addr} {o : Obj} {its : List Value} {n : Nat} {od an : Option Addr} {sl : Array (Option Value)} {oc kV dc pm cd ct : Value} (X : K.In h) (G : h.Ns mainGlobals mg)
    (a : PySem.W.nsIn K mainGlobals x = some (some (.ref f))) (l : K.lookup f = some ⟨oc, od, .func (PySem.W.fnOf x x (defArgs st) (defBody st) (defScope st) (.ref T) kV dc pm an cd ct), sl⟩) (c : PySem.W.codeIn K cd x = true) (k : PySem.W.keepIn K (.ref f) = true)
    (t : K.lookup T = some o) (e : o.data = .seq its.toArray n) (hv : Vals dvs its) (hd : dvs ≠ []) : FunD K x x (defArgs st) (defBody st) (defScope st) dvs [] f (PySem.W.fnOf x x (defArgs st) (defBody st) (defScope st) (.ref T) kV dc pm an cd ct) ∧ mg x = some (.ref f) :=
  ⟨⟨⟨oc, od, _, kV, dc, pm, an, cd, ct, sl, rfl, l, c, .inr ⟨hd, T, o, its, n, rfl, t, e, hv⟩, .inl rfl⟩, k⟩, PySem.W.mg_of X G a⟩
/-- the law's own def -/
theorem DefAt.law {K : PySem.W.Frag} {mg : Str → Option Value} {x : Str} {st : Stmt} {fa : Addr} {p : Str} (D : DefAt K mg x st [p]) (hfa : mg x = some (.ref fa))
    (hb : ∀ (kV doc pm : Value) (an : Option Addr) (cdv ct : Value) (us : List Value), us.length = 1 → bindArgs (PySem.W.fnOf x x (defArgs st) (defBody st) (defScope st) .none kV doc pm an cdv ct) ⟨us, []⟩ = pure ([p].zip us)) :
    ∃ fd : FuncData, Fun K x x st fa fd ∧ ∀ (s : Shared) (u : Value), BindsTo s fd ⟨[u], []⟩ [(p, u)] := by
  obtain ⟨f, fd, F, hm, b⟩ := D.ex
  rw [hfa] at hm
  cases hm
  obtain ⟨oc, od, kV, doc, pm, an, cdv, ct, osl, rfl, lk, hcd⟩ := F.ex
  exact ⟨_, F, fun s u => .of_eq (hb kV doc pm an cdv ct [u] rfl)⟩
end Sq

/-! the mathematics of replacements on lengths of runs -/
namespace Sq
def once (n k : Int) : Int := n / k + n % k
def sqz (n : Int) (row : List Int) : Int := row.foldl once n
def rb (R k : Int) : Int := if k > R + 1 then R else (R + 3 - k) * k - 2
def reachOf (row : List Int) (most : Int) : Int := row.foldr (fun k R => rb R k) most
abbrev Two (row : List Int) : Prop := ∀ k ∈ row, (2 : Int) ≤ k
def Mid (ns : List Int) : Prop := ∀ k ∈ ns, (2 : Int) ≤ k ∧ k < 2 ^ 240
theorem Mid.two {ns : List Int} (h : Mid ns) : Two ns := fun k hk => (h k hk).1
theorem sqz_cons (n k : Int) (r : List Int) : sqz n (k :: r) = sqz (once n k) r := rfl
theorem sqz_app (n : Int) (a b : List Int) : sqz n (a ++ b) = sqz (sqz n a) b := by simp [sqz, List.foldl_append]
theorem sqz_snoc (n k : Int) (a : List Int) : sqz n (a ++ [k]) = once (sqz n a) k := by rw [sqz_app]; rfl
theorem sqz_take {row : List Int} {n k : Int} {i : Nat} (h : row[i]? = some k) : sqz n (row.take (i + 1)) = once (sqz n (row.take i)) k := by
  rw [List.take_add_one, h]
  exact sqz_snoc _ _ _
theorem once_nn {n k : Int} (hn : 0 ≤ n) (hk : 2 ≤ k) : 0 ≤ once n k := by
  unfold once
  have h1 := Int.ediv_nonneg hn (by omega : (0 : Int) ≤ k)
  have h2 := Int.emod_nonneg n (by omega : k ≠ 0)
  omega
/-- quotient and rest -/
theorem qr (n : Int) {k : Int} (hk : 2 ≤ k) : ∃ q r, n = q * k + r ∧ 0 ≤ r ∧ r < k ∧ n / k = q ∧ n % k = r :=
  ⟨n / k, n % k, by have := Int.mul_ediv_add_emod n k; rw [Int.mul_comm] at this; omega, Int.emod_nonneg n (by omega), Int.emod_lt_of_pos n (by omega), rfl, rfl⟩
theorem qr_of {q r k : Int} (h0 : 0 ≤ r) (h1 : r < k) : (q * k + r) / k = q ∧ (q * k + r) % k = r := by
  have hk : k ≠ 0 := by omega
  constructor
  · rw [Int.add_comm, Int.add_mul_ediv_right _ _ hk, Int.ediv_eq_zero_of_lt h0 h1]; omega
  · rw [Int.add_comm, Int.add_mul_emod_self_right, Int.emod_eq_of_lt h0 h1]
theorem once_qr {q r k : Int} (h0 : 0 ≤ r) (h1 : r < k) : once (q * k + r) k = q + r := by
  obtain ⟨a, b⟩ := qr_of (q := q) h0 h1
  unfold once
  rw [a, b]
theorem once_le {n k : Int} (hn : 0 ≤ n) (hk : 2 ≤ k) : once n k ≤ n := by
  obtain ⟨q, r, e, h0, h1, e1, e2⟩ := qr n hk
  unfold once
  rw [e1, e2]
  have hq : 0 ≤ q := by rw [← e1]; exact Int.ediv_nonneg hn (by omega)
  have := Int.mul_le_mul_of_nonneg_left (by omega : (1 : Int) ≤ k) hq
  omega
theorem once_small {n k : Int} (hn : 0 ≤ n) (h : n < k) : once n k = n := by
  unfold once
  rw [Int.ediv_eq_zero_of_lt hn h, Int.emod_eq_of_lt hn h]
  omega
theorem once_pos {n k : Int} (hn : 1 ≤ n) (hk : 2 ≤ k) : 1 ≤ once n k := by
  obtain ⟨q, r, e, h0, h1, e1, e2⟩ := qr n hk
  unfold once
  rw [e1, e2]
  have hq : 0 ≤ q := by rw [← e1]; exact Int.ediv_nonneg (by omega) (by omega)
  rcases Int.lt_or_eq_of_le hq with h | h
  · omega
  · subst h; omega
theorem sqz_nn : ∀ {row : List Int} {n : Int}, 0 ≤ n → Two row → 0 ≤ sqz n row
  | [], n, h, _ => h
  | k :: r, n, h, t => sqz_nn (row := r) (once_nn h (t k (List.mem_cons_self ..))) fun j hj => t j (List.mem_cons_of_mem _ hj)
theorem sqz_le : ∀ {row : List Int} {n : Int}, 0 ≤ n → Two row → sqz n row ≤ n
  | [], n, h, _ => Int.le_refl n
  | k :: r, n, h, t => Int.le_trans (sqz_le (row := r) (once_nn h (t k (List.mem_cons_self ..))) fun j hj => t j (List.mem_cons_of_mem _ hj)) (once_le h (t k (List.mem_cons_self ..)))
theorem sqz_pos : ∀ {row : List Int} {n : Int}, 1 ≤ n → Two row → 1 ≤ sqz n row
  | [], n, h, _ => h
  | k :: r, n, h, t => sqz_pos (row := r) (once_pos h (t k (List.mem_cons_self ..))) fun j hj => t j (List.mem_cons_of_mem _ hj)
/-- one step of the reach -/
theorem rb_pos {R k : Int} (hR : 1 ≤ R) (hk : 2 ≤ k) : R ≤ rb R k := by
  unfold rb
  split
  · omega
  · rename_i h
    have e : (R + 3 - k) * k - 2 - R = (R + 1 - k) * (k - 1) + (k - 1) := by
      have e1 : R + 3 - k = (R + 1 - k) + 2 := by omega
      have e2 : k = (k - 1) + 1 := by omega
      rw [e1]
      have e3 : (R + 1 - k) * k = (R + 1 - k) * (k - 1) + (R + 1 - k) := by
        have := Int.mul_sub (R + 1 - k) k 1
        omega
      have e4 : (R + 1 - k + 2) * k = (R + 1 - k) * k + 2 * k := Int.add_mul _ _ _
      omega
    have := Int.mul_nonneg (by omega : (0 : Int) ≤ R + 1 - k) (by omega : (0 : Int) ≤ k - 1)
    omega
theorem rb_all {R k n : Int} (hR : 1 ≤ R) (hk : 2 ≤ k) (h0 : 0 ≤ n) (h : n ≤ rb R k) : once n k ≤ R := by
  unfold rb at h
  split at h
  · rw [once_small h0 (by omega)]; exact h
  · rename_i hh
    obtain ⟨q, r, e, h1, h2, e1, e2⟩ := qr n hk
    unfold once
    rw [e1, e2]
    have e3 : (R + 3 - k) * k = (R + 2 - k) * k + k := by
      have : R + 3 - k = (R + 2 - k) + 1 := by omega
      rw [this, Int.add_mul, Int.one_mul]
    rcases Int.lt_or_le q (R + 2 - k) with hq | hq
    · omega
    · rcases Int.lt_or_eq_of_le hq with hq | hq
      · have := Int.mul_le_mul_of_nonneg_right (by omega : R + 3 - k ≤ q) (by omega : (0 : Int) ≤ k)
        omega
      · subst hq
        omega
theorem rb_next {R k : Int} (hR : 1 ≤ R) (hk : 2 ≤ k) : once (rb R k + 1) k = R + 1 := by
  unfold rb
  split
  · rw [once_small (by omega) (by omega)]
  · have e3 : (R + 3 - k) * k - 2 + 1 = (R + 2 - k) * k + (k - 1) := by
      have : R + 3 - k = (R + 2 - k) + 1 := by omega
      rw [this, Int.add_mul, Int.one_mul]; omega
    rw [e3, once_qr (by omega) (by omega)]
    omega
theorem reach_pos : ∀ {row : List Int} {m : Int}, 1 ≤ m → Two row → m ≤ reachOf row m
  | [], m, _, _ => Int.le_refl m
  | k :: r, m, h, t => by
    have ih := reach_pos (row := r) h fun j hj => t j (List.mem_cons_of_mem _ hj)
    exact Int.le_trans ih (rb_pos (by omega) (t k (List.mem_cons_self ..)))
theorem reach_all : ∀ {row : List Int} {m n : Int}, 1 ≤ m → Two row → 0 ≤ n → n ≤ reachOf row m → sqz n row ≤ m
  | [], m, n, _, _, _, h => h
  | k :: r, m, n, h, t, h0, hn => by
    have t' : Two r := fun j hj => t j (List.mem_cons_of_mem _ hj)
    have hk := t k (List.mem_cons_self ..)
    have p := reach_pos h t'
    exact reach_all (row := r) h t' (once_nn h0 hk) (rb_all (by omega) hk h0 hn)
theorem reach_next : ∀ {row : List Int} {m : Int}, 1 ≤ m → Two row → sqz (reachOf row m + 1) row = m + 1
  | [], m, _, _ => rfl
  | k :: r, m, h, t => by
    have t' : Two r := fun j hj => t j (List.mem_cons_of_mem _ hj)
    have hk := t k (List.mem_cons_self ..)
    have p := reach_pos h t'
    show sqz (once (rb (reachOf r m) k + 1) k) r = m + 1
    rw [rb_next (by omega) hk]
    exact reach_next h t'
/-- the reach is where the first greater one stands -/
theorem reach_is {row : List Int} {m n : Int} (h : 1 ≤ m) (t : Two row) (h0 : 0 ≤ n) (hn : m < sqz n row) (ha : ∀ j, 0 ≤ j → j < n → sqz j row ≤ m) : reachOf row m = n - 1 := by
  have p := reach_pos h t
  rcases Int.lt_or_le (reachOf row m) n with a | a
  · rcases Int.lt_or_le (reachOf row m + 1) n with b | b
    · have := ha _ (by omega) b
      rw [reach_next h t] at this
      omega
    · omega
  · have := reach_all h t h0 a
    omega
theorem reach_mono {row : List Int} {m m' : Int} (h : 1 ≤ m) (hm : m ≤ m') (t : Two row) : reachOf row m ≤ reachOf row m' := by
  rcases Int.lt_or_le (reachOf row m') (reachOf row m) with a | a
  · have p := reach_pos (m := m') (by omega) t
    have := reach_all h t (n := reachOf row m' + 1) (by omega) (by omega)
    rw [reach_next (by omega) t] at this
    omega
  · exact a
end Sq


namespace Sq
open PySem PySem.Spec PyProof.Rows L2
/-! ## ranges of wide ints -/
theorem turn_wide {P : Program} {w : World} {K : PySem.W.Frag} {tg : Expr} (z : Addr) (lo : Int) (n : Nat) : Turn P w K tg (Itr lo n) [z] z (fun i h => IsLongIter h z (lo + (i : Nat) * 1) ((n : Int) - (i : Nat)) 1) := by
  refine ⟨List.mem_singleton.mpr rfl, fun i h st b hb => ?_, fun i h h2 st k => k z (List.mem_singleton.mpr rfl) _ st, ?_, ?_, fun A i s Q E st h => wpAny_pyIter_longiter st h⟩
  · rw [List.mem_singleton.mp hb]
    exact ⟨_, st, fun v c => by cases (show Data.fields _ = Data.cell v from c)⟩
  · rintro X rfl rfl rfl hc i pins s σ H E I hf st hg
    have f := hf z (List.mem_singleton.mpr rfl)
    refine (Walks.longrange (prog := X.prog) (w := X.w) (I.ok.hd hc) z lo 1 n).item i s _ _ hg st fun v h2 tk hv st2 kk => ?_
    obtain ⟨t, rfl⟩ := hv
    have J : Inv X pins σ H { s with heap := h2, toks := tk } := I.turned (fun b o hb e => kk b o (fun m => hb (List.mem_singleton.mp m)) e) f.1 f.2.1 f.2.2.2.1 f.2.2.2.2.1 f.2.2.2.2.2
    refine ⟨_, rfl, go_of (s := { s with heap := h2, toks := tk }) (n := "longrange_iterator") st2 rfl rfl (by decide) ⟨.int (lo + i), H, J, ⟨t, by rw [Int.mul_one]⟩, ⟨rfl, rfl⟩, st2, fun b hb => (hf b hb).1⟩⟩
  · rintro X rfl rfl rfl hc i pins s σ H E I hf st hg
    have f := hf z (List.mem_singleton.mpr rfl)
    have m : n ≤ i := hg
    exact wpAny_pyNext_long_end (I.ok.hd hc) st (by omega) fun h2 k => ⟨rfl, I.turned (t' := s.toks) (fun b o hb e => k b o hb e) f.1 f.2.1 f.2.2.2.1 f.2.2.2.2.1 f.2.2.2.2.2⟩
section
variable {X : Cx} {tg a b : Expr} {t : TA} {p pos : Pos}
theorem rsz (lo hi : Int) : Builtin.Range.rangeSize lo hi 1 = ((hi - lo).toNat : Int) := by
  rw [rangeSize_one]
  split <;> omega
theorem wide_it {pins : List (Addr × Obj)} {σ : L2.St} {H : Hp} {s : Shared} {R : It → Hp → Prop} {E : Value → Shared → Prop} {lo hi : Int} {t u v : Tok} {tk : Nat} (I : Inv X pins σ H s) (q : R (Itr lo (hi - lo).toNat) H) :
    wpAny (model X.prog X.w) X.A (pyIter (.ref s.heap.objs.size)) (PIE X pins σ tg R) E { s with heap := s.heap.push { cls := .type "range", data := .fields #[.int lo t, .int hi u, .int 1 v] }, toks := tk } := by
  have J : Inv X pins σ H { s with heap := s.heap.push { cls := .type "range", data := .fields #[.int lo t, .int hi u, .int 1 v] }, toks := tk } := I.kept fun b o e => Heap.get?_push_of_some _ e
  have z0 : lo + ((0 : Nat) : Int) * 1 = lo := by omega
  have z1 : (((hi - lo).toNat : Nat) : Int) - ((0 : Nat) : Int) = Builtin.Range.rangeSize lo hi 1 := by
    rw [rsz]
    omega
  by_cases sm : Builtin.Range.small lo hi 1 = true
  · refine wpAny_pyIter_range (IsRange.new ..) sm ⟨(s.heap.push { cls := .type "range", data := .fields #[.int lo t, .int hi u, .int 1 v] }).objs.size, [(s.heap.push { cls := .type "range", data := .fields #[.int lo t, .int hi u, .int 1 v] }).objs.size], _, _, H, rfl,
      J.kept (t' := tk) fun b o e => Heap.get?_push_of_some _ e, turn_range _ lo (hi - lo).toNat, ?_, fun b hb => ?_, q⟩
    · show IsRangeIter _ _ (lo + ((0 : Nat) : Int) * 1) ((((hi - lo).toNat : Nat) : Int) - ((0 : Nat) : Int)) 1
      rw [z0, z1]
      exact Heap.get?_push_size _ rfl
    · rw [List.mem_singleton.mp hb]
      exact J.fpOk (Nat.le_refl _) (J.hok.fresh (Nat.le_refl _))
  · refine wpAny_pyIter_longrange (IsRange.new ..) (Bool.not_eq_true _ ▸ sm) ⟨(s.heap.push { cls := .type "range", data := .fields #[.int lo t, .int hi u, .int 1 v] }).objs.size, [(s.heap.push { cls := .type "range", data := .fields #[.int lo t, .int hi u, .int 1 v] }).objs.size], _, _, H, rfl,
      J.kept (t' := tk) fun b o e => Heap.get?_push_of_some _ e, turn_wide _ lo (hi - lo).toNat, ?_, fun b hb => ?_, q⟩
    · show IsLongIter _ _ (lo + ((0 : Nat) : Int) * 1) ((((hi - lo).toNat : Nat) : Int) - ((0 : Nat) : Int)) 1
      rw [z0, z1]
      exact Heap.get?_push_size _ rfl
    · rw [List.mem_singleton.mp hb]
      exact J.fpOk (Nat.le_refl _) (J.hok.fresh (Nat.le_refl _))
def iRngW (t : TA) : TI := fun σ H R => t σ H fun vs H1 => ∃ i j : Int, vs = [.int i, .int j] ∧ R (Itr i (j - i).toNat) H1
theorem pi_range2W (hg : Gl X "range") (hm : X.mg "range" = none) (ha : PA X [a, b] t) (h1 : starEach [a, b] X.env = [(false, eval a X.env), (false, eval b X.env)] := by rfl) (h2 : starEach [b] X.env = [(false, eval b X.env)] := by rfl) :
    PI X tg (.Call (.Name "range" p) [a, b] [] pos) (iRngW t) := by
  refine ⟨fun pins s σ H R I h => Call_ (ld_blt I hg hm boot_range (PyProof.Rows.callWith_type1 (thn (ha.run pos pins s σ H _ I h) fun us s1 hx => ?_) (by rw [h1, h2]) (by rw [h2]; rfl)))⟩
  obtain ⟨vs, H1, J, r, i, j, rfl, q⟩ := hx
  obtain ⟨u, v, rfl, ⟨c, rfl⟩, ⟨d, rfl⟩⟩ : ∃ u v, us = [u, v] ∧ RelV (.int i) u ∧ RelV (.int j) v := by
    cases r with
    | cons r1 r => cases r with
      | cons r2 r => cases r; exact ⟨_, _, rfl, r1, r2⟩
  exact call_range_2 (wide_it J q)
end
/-! ## parts of a list -/
theorem cut_from (xs : List V) (k : Nat) : cutV xs (some (k : Int)) none = xs.drop k := by
  unfold cutV
  rw [HT.sIx_nat, HT.sIx_none]
  rcases Nat.le_total k xs.length with h | h
  · rw [Nat.min_eq_left h]
    exact List.take_of_length_le (by rw [List.length_drop]; omega)
  · rw [Nat.min_eq_right h, List.drop_eq_nil_of_le (Nat.le_refl _), List.drop_eq_nil_of_le h]
    simp
theorem cut_to (xs : List V) (k : Nat) : cutV xs none (some (k : Int)) = xs.take k := by
  unfold cutV
  rw [HT.sIx_nat, HT.sIx_none, List.drop_zero, Nat.sub_zero]
  rcases Nat.le_total k xs.length with h | h
  · rw [Nat.min_eq_left h]
  · rw [Nat.min_eq_right h, List.take_of_length_le (Nat.le_refl _), List.take_of_length_le h]
theorem cut_mid (xs : List V) (j k : Nat) : cutV xs (some (j : Int)) (some (k : Int)) = (xs.drop j).take (k - j) := by
  unfold cutV
  rw [HT.sIx_nat, HT.sIx_nat]
  rcases Nat.le_total j xs.length with h | h
  · rw [Nat.min_eq_left h]
    rcases Nat.le_total k xs.length with h2 | h2
    · rw [Nat.min_eq_left h2]
    · rw [Nat.min_eq_right h2, List.take_of_length_le (by rw [List.length_drop]; omega), List.take_of_length_le (by rw [List.length_drop]; omega)]
  · rw [Nat.min_eq_right h, List.drop_eq_nil_of_le (Nat.le_refl _), List.drop_eq_nil_of_le h]
    simp
theorem iv_drop (ns : List Int) (k : Nat) : (iv ns).drop k = iv (ns.drop k) := by simp
theorem iv_take (ns : List Int) (k : Nat) : (iv ns).take k = iv (ns.take k) := by simp
/-! ## a op b op c op d -/
def tChain3 (r r' r'' : R2) (ta tb tc td : TE) : TE := fun σ H Q => ta σ H fun x H1 => tb σ H1 fun y H2 => r x y H2 fun z H3 => ∃ k, z = .bl k ∧
  (if k = true then tc σ H3 fun v H4 => r' y v H4 fun z' H5 => ∃ k', z' = .bl k' ∧ (if k' = true then td σ H5 fun u H6 => r'' v u H6 Q else Q (.bl false) H5) else Q (.bl false) H3)
section
variable {X : Cx} {a b c d : Expr} {ta tb tc td : TE} {pos : Pos} {op op' op'' : CmpOp} {r r' r'' : R2}
theorem pt_chain3 (h1 : OpR X (compareOp op) r) (h2 : OpR X (compareOp op') r') (h3 : OpR X (compareOp op'') r'') (ha : PE X a ta) (hb : PE X b tb) (hc : PE X c tc) (hd : PE X d td)
    (hm : lastMarks [op, op', op''] [b, c, d] = false := by with_unfolding_all rfl) : PT X (.Compare a [op, op', op''] [b, c, d] pos) (tTest (tChain3 r r' r'' ta tb tc td)) := by
  refine ⟨fun pins s σ H Q I h => isTrue_chain (thn (ha.run pins s σ H _ I h) fun v s1 ⟨x, H1, I1, r1, q1⟩ => test_link (thn (hb.run pins s1 σ H1 _ I1 q1) fun u s2 ⟨y, H2, I2, r2, q2⟩ =>
    thn (h1 pins s2 σ H2 x y v u _ I2 r1 r2 q2) fun e s3 ⟨z, H3, I3, r3, k, ez, q3⟩ => ?_)) hm⟩
  subst ez
  cases r3
  refine wpAny_truthy_bool ?_
  cases k with
  | false =>
    obtain ⟨k2, e2, q2⟩ := q3
    cases e2
    exact ite_ff ⟨H3, I3, q2⟩
  | true =>
    refine ite_tt (test_link (thn (hc.run pins s3 σ H3 _ I3 q3) fun w4 s4 ⟨y4, H4, I4, r4, q4⟩ => thn (h2 pins s4 σ H4 y y4 u w4 _ I4 r2 r4 q4) fun e5 s5 ⟨z5, H5, I5, r5, k5, e5', q5⟩ => ?_))
    subst e5'
    cases r5
    refine wpAny_truthy_bool ?_
    cases k5 with
    | false =>
      obtain ⟨k2, e2, q2⟩ := q5
      cases e2
      exact ite_ff ⟨H5, I5, q2⟩
    | true =>
      refine ite_tt (test_last (thn (hd.run pins s5 σ H5 _ I5 q5) fun w6 s6 ⟨y6, H6, I6, r6, q6⟩ => thn (h3 pins s6 σ H6 y4 y6 w4 w6 _ I6 r4 r6 q6) fun e7 s7 ⟨z7, H7, I7, r7, k7, e7', q7⟩ => ?_))
      subst e7'
      cases r7
      exact wpAny_truthy_bool ⟨H7, I7, q7⟩
end
end Sq


set_option Elab.async false
set_option maxRecDepth 100000
set_option maxHeartbeats 4000000
namespace Sq
open PySem PySem.Spec PyProof.Rows L2
/-! ## an own exception's __init__(self, value): super().__init__(text); self.value = value -/
section
open PySem.W PySem.Calls
variable {prog : Program} {w : World} {A : Around} {E : Value → Shared → Prop} {h : Heap} {g : Array GenState} {d : Drawn} {t : Nat} {os : OsState}
variable {nm q : Str} {C N : Addr} {bs bm : List Value} {hdct : Bool} {sn : List Str} {sub : List Value} {ab : Bool} {col : Option Bool} {dd : Option Addr} {k0 k1 k2 k3 k5 : Option Value}
/-- ValueError.__init__, bound to e, called -/
theorem call_vw {u e t0 : Addr} {rest : List Value} {Q : Value → Shared → Prop}
    (hC : h.get? C = some (excClassObj nm q C N bs bm hdct sn sub ab col dd k0 k1 k2 k3 k5 "ValueError.__new__")) (he : h.get? e = some (HandSPX.excO C t0)) (hu : h.get? u = some (kxs_mw "ValueError.__init__" e)) (hrest : rest.length ≤ sizeLine)
    (hq : ∀ h' t1, (∀ b o, b ≠ e → h.get? b = some o → h'.get? b = some o) → h'.get? e = some (HandSPX.excO C t1) → Q .none ⟨h', g, d, t, os⟩) :
    wpAny (model prog w) A (call (.ref u) rest) Q E ⟨h, g, d, t, os⟩ := by
  refine wpAny_call (codeAny_of_tree ?_)
  show wpAny _ A.in1 (callAny (.ref u) ⟨rest, []⟩) _ _ _
  simp only [callAny]
  refine wpAny_bind (wpAny_load hu ?_)
  simp only [kxs_mw, show (Value.type "method-wrapper" == Value.type "method" || Value.type "method-wrapper" == Value.type "builtin_function_or_method" || Value.type "method-wrapper" == Value.type "method-wrapper") = true by decide, if_true]
  refine W.KFB.if_so (by decide) ?_
  refine wpAny_bind (check_bound_init F.excBase_ValueError.toExcCallFacts hC he rfl ?_)
  refine wpAny_bind (wpAny_pure (wpAny_pure ⟨Code.quiet_builtin _ (by decide +kernel), codeAny_builtin F.excBase_ValueError.initEntry ?_⟩))
  exact exc_init_tree (cls := .ref C) (t0 := t0) (dv := none) (c2 := .none) (c3 := .none) (b4 := .bool false) he hrest fun h' k e' _ => hq h' h.objs.size k e'
end

def spXI (C : Addr) : Sp := fun vs H Q _ => ∃ (a : Addr) (v : V), vs = [.ref a, v] ∧ H a = some (exo a C none) ∧ ∀ dx, H dx = none → dx ≠ a → Q .non (upd (upd H dx (exd dx [("value", v)])) a (exo a C (some dx)))
/-- what the written part says of such an __init__ -/
structure XIn (P : Program) (K : PySem.W.Frag) (C f cc cda : Addr) (qual file : Str) : Prop where
  code : PySem.W.codeIn K (.ref cda) qual = true
  cell : ∃ cl cld csl, K.lookup cc = some ⟨cl, cld, .cell (some (.ref C)), csl⟩
  rec_ : ∃ ccl cdd vs ccs tf, K.lookup cda = some ⟨ccl, cdd, .fields vs, ccs⟩ ∧ vs[2]? = some (.str file tf)
  file : ((P.main.file : Str) == file) = true
  top : (P.main.scope.names.lookup ("super" : Str)).isSome = false
  opq : PySem.W.nsIn K PySem.cStatics "thirdparty.any" = some none
  sup : PySem.W.ks_superIn K C C "__init__" = some (some (.builtin "ValueError.__init__"))
  veb : PySem.W.subIn K (.ref C) (.type "ValueError") = some true
  self : PySem.W.mroIn K C (.ref C) = some true
  val : PySem.W.findIn K (.ref C) "value" = some none
abbrev xiScope : Scope := ⟨.function, [("self", .local), ("value", .local), ("__class__", .free), ("super", .globalImplicit)], false, false, []⟩
abbrev xiArgs (q0 q1 : Pos) : Arguments := { posonlyargs := [], args := [{ arg := "self", annotation := none, pos := q0 }, { arg := "value", annotation := none, pos := q1 }], vararg := none, kwonlyargs := [], kw_defaults := [], kwarg := none, defaults := [] }
abbrev xiBody (m : Str) (p0 p1 p2 p3 p4 p5 p6 p7 p8 p9 : Pos) : List Stmt := [.Expr (.Call (.Attribute (.Call (.Name "super" p0) [] [] p1) "__init__" p2) [.Constant (.str m) 0 p3] [] p4) p5, .Assign [.Attribute (.Name "self" p6) "value" p7] (.Name "value" p8) p9]
theorem xi_S : NdefX.NScope ["self", "value", "__class__"] ["self", "value"] ["__class__"] xiScope := NdefX.nscope_by (by decide +kernel)
/-- how the call of super().__init__ begins (by rfl, once the places are known) -/
def XiCall (qual : Str) (f cc cda : Addr) (m : Str) (p0 p1 p2 p3 p4 : Pos) : Prop := ∀ L : Addr, eval (.Call (.Attribute (.Call (.Name "super" p0) [] [] p1) "__init__" p2) [.Constant (.str m) 0 p3] [] p4) (PySem.W.ksEnv qual xiScope L f (.ref cda) cc) = (do
  let ov ← attributeBase (.Call (.Name "super" p0) [] [] p1) "__init__" (PySem.W.ksEnv qual xiScope L f (.ref cda) cc) (eval (.Call (.Name "super" p0) [] [] p1) (PySem.W.ksEnv qual xiScope L f (.ref cda) cc))
  standAt p2.atName
  let (g, first) ← holding [ov] (getMethod ov "__init__" (do return (← importBound (.Call (.Name "super" p0) [] [] p1) (PySem.W.ksEnv qual xiScope L f (.ref cda) cc)).getD true))
  callWith p4 g first (backTo p4 (starEach [.Constant (.str m) 0 p3] (PySem.W.ksEnv qual xiScope L f (.ref cda) cc))) [])
theorem ok_xi {P : Program} {w : World} {K : PySem.W.Frag} {mg : Str → Option Value} {base : Heap} {CX : CXT} {k : Nat} {C f cc cda : Addr} {qual file : Str} {kV doc pm ct oc : Value} {an od : Option Addr} {osl : Array (Option Value)}
    {p0 p1 p2 p3 p4 p5 p6 p7 p8 p9 q0 q1 : Pos} {m : Str} (T : OexC K C) (XI : XIn P K C f cc cda qual file)
    (lk : K.lookup f = some ⟨oc, od, .func (PySem.W.ksFn "__init__" qual (xiArgs q0 q1) (xiBody m p0 p1 p2 p3 p4 p5 p6 p7 p8 p9) xiScope .none kV doc pm an (.ref cda) ct cc), osl⟩) (hms : mg "super" = none) (he : XiCall qual f cc cda m p0 p1 p2 p3 p4) :
    FnOk P w K mg base CX (k + 1) f (PySem.W.ksFn "__init__" qual (xiArgs q0 q1) (xiBody m p0 p1 p2 p3 p4 p5 p6 p7 p8 p9) xiScope .none kV doc pm an (.ref cda) ct cc) ["self", "value"] (spXI C) := by
  refine ⟨fun vs H Q E h => by obtain ⟨a, v, rfl, _⟩ := h; rfl, fun A outer s H args us vs Q E hr e0 hbind r hsp => ?_⟩
  obtain ⟨a, v, rfl, ha, hq⟩ := hsp
  have KX : K.In s.heap := e0.mod.kin.keeps fun b o e => (e0.bs b o e).1
  have lim : s.heap.NoLimit := e0.mod.nolimit.keeps fun b o e => (e0.bs b o e).1
  obtain ⟨cl, cld, csl, hcell⟩ := XI.cell
  obtain ⟨ccl, cdd, cvs, ccs, tf, hcode, hvs⟩ := XI.rec_
  refine PySem.ks_codeAny_call_defAt (binds := (["self", "value"] : List Str).zip us) hr.depth (KX _ _ lk) rfl lim (PySem.W.codeRec_of KX XI.code) rfl hbind xi_S.nocell (fun ⟨n, _⟩ hy => xi_S.par n (List.of_mem_zip hy).1) (fun h1 hns kp => ?_) xi_S.co xi_S.gen xi_S.kind
  have S := xi_S
  let F : NdefX.NF := ⟨"__init__", qual, xiArgs q0 q1, xiBody m p0 p1 p2 p3 p4 p5 p6 p7 p8 p9, xiScope, [("__class__", cc)], cda⟩
  have cells : NdefX.CellsAt F.cl ["__class__"] [none] s.heap H := by
    have one : ∀ y c, F.cl.lookup y = some c → y = ("__class__" : Str) ∧ c = cc := fun y c e => by
      have e' : ([("__class__", cc)] : List (Str × Addr)).lookup y = some c := e
      by_cases z : y = ("__class__" : Str)
      · subst z
        simp [List.lookup] at e'
        exact ⟨rfl, e'.symm⟩
      · have z2 : (y == ("__class__" : Str)) = false := by simpa using z
        simp [List.lookup, z2] at e'
    refine ⟨rfl, fun y c e => ?_, fun x y c e1 e2 => ?_, fun i y e => ?_⟩
    · rw [(one y c e).2]
      exact ⟨(e0.bs _ _ (e0.mod.kin _ _ hcell)).2, _, ⟨_, KX _ _ hcell, rfl⟩⟩
    · rw [(one x c e1).1, (one y c e2).1]
    · cases i with
      | zero =>
        obtain rfl : ("__class__" : Str) = y := by simpa using e
        exact ⟨cc, by simp [F, List.lookup], fun v h => by simp at h⟩
      | succ i => simp at e
  have I : Inv (NdefX.ncx CX P w K mg base ["self", "value", "__class__"] F f A outer s H E) [] (NdefX.startF ["self", "value", "__class__"] [.ref a, v] [none]) H { s with heap := h1, toks := s.toks + ((["self", "value"] : List Str).zip us).length } :=
    NdefX.inv_startN (F := F) S hr.hd e0 rfl r cells hns kp
  have K1 : K.In h1 := KX.keeps kp
  show PySem.wpAt (model P w) (A.deeper (PySem.W.ksEnv qual xiScope s.heap.objs.size f (.ref cda) cc)) (.func (xiBody m p0 p1 p2 p3 p4 p5 p6 p7 p8 p9) (PySem.W.ksEnv qual xiScope s.heap.objs.size f (.ref cda) cc)) (execs (xiBody m p0 p1 p2 p3 p4 p5 p6 p7 p8 p9) (PySem.W.ksEnv qual xiScope s.heap.objs.size f (.ref cda) cc)) _ _ _
  refine ks_wpAt_execs_cons (ks_wpAt_Expr_any (ks_wpAt_MethodCall ?_ (he _)))
  refine ks_wpAt_super_base (env := NdefX.envF F f s.heap.objs.size) rfl rfl (by decide) rfl (K1 _ _ lk) rfl rfl rfl (K1 _ _ hcode) rfl hvs XI.file XI.top ?_
  obtain ⟨nm, q, N, bs, bm, sn, sub, ab, col, dd, k0, k1, k2, k3, k5, hC, hbm⟩ := T.cls
  have hcl : PySem.W.clsIn K C = some { name := nm, bases := bs, mro := .ref C :: bm, ns := N, qualname := q, hasDict := true, slotNames := sn, subclasses := sub, abstract := ab, collection := col, hasDel := false } := by unfold PySem.W.clsIn; rw [hC] <;> rfl
  obtain ⟨mb, hb1, hb2⟩ := I.mod.blt
  obtain ⟨t1, hoe⟩ := exo_at I.hok ha
  have hself : (((["self", "value"] : List Str).zip us).reverse.lookup ("self" : Str)) = some (Value.ref a) := by
    cases r with
    | cons r1 r => cases r with
      | cons r2 r =>
        cases r
        obtain rfl := r1
        rfl
  refine PySem.W.ks_loadName_global rfl rfl (Calls.loadGlobal_builtin (I.mod.glob.keeps I.bk) hms (hb1.keeps I.bk) ((hb2 _ (by decide)).trans PyProof.Rows.Boot.«super») ⟨rfl, ?_⟩)
  refine wpAny_loadName_free rfl rfl rfl ⟨_, K1 _ _ hcell, rfl⟩ ?_
  refine wpAny_loadName_local rfl rfl hns hself ?_
  refine ks_wpAny_isType_cls (K1 _ _ hC) rfl ⟨rfl, ?_⟩
  refine ks_wpAny_call_super (K1 _ _ hC) rfl hoe rfl (fun c e => by cases e) (PySem.W.looks_mroIn K1 XI.self) (fun h2 e2 kp2 => ?_)
  have I2 := I.kept (t' := s.toks + ((["self", "value"] : List Str).zip us).length) kp2
  have K2 : K.In h2 := K1.keeps kp2
  obtain ⟨t2, hoe2⟩ := exo_at I2.hok ha
  have at2 : PySem.W.InstAt h2 a { cls := .ref C, dict := none, data := .fields #[.ref t2, .none, .none, .none, .bool false, .none] } C none := ⟨hoe2, rfl, rfl, trivial⟩
  have hsup : PySem.W.alongIn K "__init__" (((.ref C :: bm).dropWhile (· != Value.ref C)).drop 1) = some (some (.builtin "ValueError.__init__")) := by
    have z := XI.sup
    unfold PySem.W.ks_superIn at z
    rw [hcl] at z
    exact z
  refine PySem.W.kxs_getMethod PySem.W.kxs_ValueError e2 (PySem.W.looks_opaque K2 XI.opq) (l₀ := .ref C :: bm) ((PySem.W.looks_clsIn K2 hcl).andThen .now) rfl K2 hsup (at2.type.andThen (PySem.W.looks_subIn K2 XI.veb)) (PySem.W.ks_ne K2 at2 hcl) (by decide) ?_
  have I3 := I2.kept (h' := h2.push (PySem.W.kxs_mw "ValueError.__init__" a)) (t' := s.toks + ((["self", "value"] : List Str).zip us).length + 1) fun b o e => Heap.get?_push_of_some _ e
  refine PySem.W.kxs_callWith (i := "ValueError.__init__") (x := a) rfl (Calls.evalArgs_plain (Calls.spliced_cons (Calls.Constant_str (pos := p3) (k := 0) (Calls.spliced_nil ⟨Heap.get?_push_at rfl rfl, ?_⟩))))
  have I4 := I3.tok (s.toks + ((["self", "value"] : List Str).zip us).length + 1 + 1)
  obtain ⟨t4, hoe4⟩ := exo_at I4.hok ha
  refine call_vw (t0 := t4) (Heap.get?_push_of_some _ (K2 _ _ hC)) hoe4 (Heap.get?_push_at rfl rfl) (by simp [sizeLine_eq]) fun h5 t5 k5 e5 => ?_
  have J0 := I4.write (h' := h5) (t' := s.toks + ((["self", "value"] : List Str).zip us).length + 1 + 1) (x := a) (e := a) (o := exo a C none) (by rw [ha]; exact True.intro) (.inl rfl) k5 ⟨_, e5⟩ (exo_ok e5)
  have eu : upd H a (exo a C none) = H := by
    funext b
    by_cases hb : b = a
    · rw [hb, upd_same, ha]
    · rw [upd_ne hb]
  rw [eu] at J0
  show PySem.wpAt _ _ _ (execs [.Assign [.Attribute (.Name "self" p6) "value" p7] (.Name "value" p8) p9] _) _ _ _
  refine wpAt_of_wpAny ?_
  have pst : PSs (NdefX.ncx CX P w K mg base ["self", "value", "__class__"] F f A outer s H E) [.Assign [.Attribute (.Name "self" p6) "value" p7] (.Name "value" p8) p9] (tOst K "value" (tVar 0) (tVar 1)) := pss_one (ps_ost (pv 0) (pv 1) rfl)
  refine wpAny_mono (pst.run [] _ _ H { nx := fun _ H' => Q .non H', rt := Q } J0 ⟨v, rfl, .ref a, rfl, a, C, rfl, T, XI.val, .inl ⟨ha, fun dx n ne => hq dx n ne⟩⟩) (fun fl s' hs => ?_) fun e s' hs => hs
  cases fl with
  | ret u =>
    obtain ⟨v, σ', H', J, rv, q⟩ := hs
    exact ⟨v, H', J.os, J.bare, J.base, J.hok, rv, q⟩
  | next =>
    obtain ⟨σ', H', J, q⟩ := hs
    exact ⟨.non, H', J.os, J.bare, J.base, J.hok, rfl, q⟩
  | brk =>
    obtain ⟨_, _, _, q⟩ := hs
    exact False.elim q
  | cont =>
    obtain ⟨_, _, _, q⟩ := hs
    exact False.elim q
end Sq


set_option Elab.async false
set_option maxRecDepth 100000
set_option maxHeartbeats 4000000
namespace Sq
open PySem PySem.Spec PyProof.Rows L2
/-! ## an exception that has been caught and is kept -/
/-- at a: an exception of the class cls with the dict d, at rest -/
def Xo (a : Addr) (cls : Value) (d : Option Addr) : HO := .ext fun h => ∃ (oe : Obj) (vs : Array Value), h.get? a = some oe ∧ Zc cls d oe ∧ oe.data = .fields vs
theorem xo_ok {P : Program} {w : World} {H : Hp} {h : Heap} {a : Addr} {cls : Value} {d : Option Addr} {oe : Obj} {vs : Array Value} (e : h.get? a = some oe) (z : Zc cls d oe) (f : oe.data = .fields vs) : ObjOk P w H h a (Xo a cls d) :=
  ⟨⟨oe, vs, e, z, f⟩, ⟨_, e⟩, fun _ _ ⟨o2, v2, e2, z2, f2⟩ k => ⟨o2, v2, k _ e2, z2, f2⟩⟩
theorem xo_at {P : Program} {w : World} {H : Hp} {h : Heap} {a : Addr} {cls : Value} {d : Option Addr} (hok : HOk P w H h) (e : H a = some (Xo a cls d)) : ∃ (oe : Obj) (vs : Array Value), h.get? a = some oe ∧ Zc cls d oe ∧ oe.data = .fields vs := by
  have x : ObjOk P w H h a (.ext fun h => ∃ (oe : Obj) (vs : Array Value), h.get? a = some oe ∧ Zc cls d oe ∧ oe.data = .fields vs) := hok a _ e
  exact x.1
section
variable {X : Cx} {pins : List (Addr × Obj)} {σ : L2.St} {H : Hp} {s : Shared} {a : Addr} {cls : Value} {d : Option Addr} {oe : Obj} {vs : Array Value}
/-- an object that is younger than the entry and that nothing holds is kept from now on -/
theorem track (J : Inv X pins σ H s) (e : s.heap.get? a = some oe) (na : H a = none) (nL : a ≠ X.env.locals) (np : ∀ p ∈ X.pn ++ pins, p.1 ≠ a) (young : X.s_0.heap.get? a = none) (z : Zc cls d oe) (f : oe.data = .fields vs) : Inv X pins σ (upd H a (Xo a cls d)) s := by
  have old : ∀ {b : Addr} {o : Obj}, X.s_0.heap.get? b = some o → b ≠ a := fun {b o} q c => by
    rw [c, young] at q
    cases q
  have set : ∀ {b : Addr} {o : HO}, H b = some o → b ≠ a := fun {b o} q c => by
    rw [c, na] at q
    cases q
  refine ⟨J.ok, J.os, J.bare, ⟨J.base.keep, J.base.slot, fun b o q n x => ?_, J.base.there, fun b xs q => ?_, fun b o v q => ?_, fun b ps q => ?_⟩, J.loc, J.cell, ?_, fun y c q => ?_, fun p hp => ?_, fun b o q => ?_, J.len⟩
  · rw [upd_ne (old q)]
    exact J.base.free b o q n x
  · have z := J.base.tups b xs q
    rw [upd_ne (set z)]
    exact z
  · have z := J.base.frzs b o v q
    rw [upd_ne (set z)]
    exact z
  · obtain ⟨more, z⟩ := J.base.tbls b ps q
    exact ⟨more, by rw [upd_ne (set z)]; exact z⟩
  · rw [upd_ne (Ne.symm nL)]
    exact J.free
  · have nc : c ≠ a := fun h => by
      obtain ⟨w, o, e2, d2⟩ := J.cell y c q
      rw [h, e] at e2
      cases e2
      rw [f] at d2
      cases d2
    rw [upd_ne nc]
    exact J.freeC y c q
  · obtain ⟨e1, n1, r1⟩ := J.pin p hp
    exact ⟨e1, by rw [upd_ne (np p hp)]; exact n1, r1⟩
  · by_cases hb : b = a
    · subst hb
      rw [upd_same] at q
      cases q
      exact xo_ok e z f
    · rw [upd_ne hb] at q
      have own : ∀ c, H c = some (.own b) → c ≠ a := fun c hc h => by
        rw [h, na] at hc
        cases hc
      exact (J.hok b o q).stay (fun c v _ k => k) (fun c hc => by rw [upd_ne (own c hc)]; exact hc) fun c xs hc => by rw [upd_ne fun h => by rw [h, na] at hc; cases hc]; exact hc
end

/-- what is wished behind the suite of 'except x as n' -/
def keepD (D : Ends) (i : Nat) : Ends where
  nx := fun τ G => D.nx (τ.set i none) G
  rt := D.rt
  bk := fun τ G => D.bk (τ.set i none) G
  ct := fun τ G => D.ct (τ.set i none) G
def wKeep (K : PySem.W.Frag) (c : Value) (i : Nat) (ts : Addr → Value → Option Addr → TS) (Wout : WX) (D : Ends) : WX := fun cls d σ H => ∃ b, PySem.W.exmOne K cls c = some b ∧
  (b = true → ∀ a, H a = none → ts a cls d (keepD D i) (σ.set i (some (.ref a))) (upd H a (Xo a cls d))) ∧ (b = false → Wout cls d σ H)
/-- into the suite and out of it -/
theorem suite_in {X : Cx} {pins : List (Addr × Obj)} {σ : L2.St} {H : Hp} {s : Shared} {a : Addr} (I : Inv X pins σ H s) : Inv (X.suite a (X.pn ++ pins)) [] σ H s :=
  ⟨I.ok.suite _ _, I.os, I.bare, I.base, I.loc, I.cell, I.free, I.freeC, fun p hp => I.pin p (by rw [List.append_nil] at hp; exact hp), I.hok, I.len⟩
theorem suite_out {X : Cx} {pins : List (Addr × Obj)} {σ : L2.St} {H : Hp} {s : Shared} {a : Addr} (I : Inv (X.suite a (X.pn ++ pins)) [] σ H s) (ok : X.Ok) : Inv X pins σ H s :=
  ⟨ok, I.os, I.bare, I.base, I.loc, I.cell, I.free, I.freeC, fun p hp => I.pin p (by rw [List.append_nil]; exact hp), I.hok, I.len⟩
section
variable {X : Cx} {x n : Str} {c : Value} {i : Nat} {body rest : List Stmt} {st : Stmt} {np pos pos2 : Pos} {tb : WX → TS} {ts : Addr → Value → Option Addr → TS} {Wout : WX}
/-- as ps_try_as; the exception stays behind the suite -/
theorem ps_try_keep (hs : X.stack = X.env :: X.outer) (hf : X.env.frame = some X.env.locals) (hN : X.N.Nodup) (hi : X.N[i]? = some n) (hln : X.env.kindOf n = some .local) (hex : X.ex = []) (hc : Names X x c) (tk : Takes X Wout)
    (hb : ∀ (W : WX) (pn : List (Addr × Obj)) (xe : Value → Shared → Prop), Takes (X.tr pn xe) W → PassesOwn (model X.prog X.w) X.A X.env xe → PSs (X.tr pn xe) body (tb W))
    (hsu : ∀ (a : Addr) (cls : Value) (d : Option Addr) (pn : List (Addr × Obj)), PSs (X.suite a pn) (st :: rest) (ts a cls d)) :
    PS X (.Try body [.ExceptHandler (some (.Name x np)) (some n) (st :: rest) pos2] [] [] pos) (fun D σ H => tb (wKeep X.K c i ts Wout D) D σ H) := by
  refine ⟨fun pins s σ H D I h => wpAny_Try_except ?_⟩
  have ok := I.ok
  have hfr : X.A.frames = some (X.env :: X.outer) := by rw [ok.frames, hs]
  have hlc : Loc X.env.scope n := .inl hln
  have seen : ∀ {C : Heap} {h : Heap} {q : Addr} {o : Obj} {vs : Array Value}, h.FunFrames C (X.env :: X.outer) → h.get? q = some o → o.data = .fields vs → q ∉ frs (X.env :: X.outer) := fun {C h q o vs} ff e dd hm => by
    obtain ⟨_, o2, e2, nn⟩ := ff.mem hm
    rw [e] at e2
    cases e2
    exact nn _ dd
  refine wpAny_mono ((hb (wKeep X.K c i ts Wout D) (X.pn ++ pins) _ (fun u s2 air => ?_) PassesOwn.looking).run [] s σ H D (I.toTry _) h) (fun fl s2 q => ?_) fun _ _ z => z
  · obtain ⟨a, G, sI, pins2, τ, H2, cls, d, rfl, J2, nb, up, sky, na, os, ag, b, hb1, yes, no⟩ := air
    have J : Inv X pins τ H2 sI := J2.ofTry ok
    rw [hs] at sky
    refine Sky.land Zc.steady hfr hf sky fun h3 l3 up3 => ?_
    have J3 : Inv X pins τ H2 { s2 with heap := h3 } := J.landed nb l3.1 (up.trans up3) os ag
    obtain ⟨o3, v3, e3, z3, d3⟩ := l3.there
    have out := seen l3.2.2.1 e3 d3
    have nL : a ≠ X.env.locals := fun z => out (List.mem_filterMap.mpr ⟨X.env, List.mem_cons_self, by rw [hf, z]⟩)
    have nF : a ∉ X.fs := fun hm => by
      obtain ⟨e, he, q⟩ := List.mem_filterMap.mp hm
      exact out (List.mem_filterMap.mpr ⟨e, List.mem_cons_of_mem _ he, q⟩)
    have young : sI.heap.get? a = none := by
      cases q : sI.heap.get? a with
      | none => rfl
      | some o =>
        have z := nb a o q (by rw [hs]; exact out)
        rw [l3.2.1] at z
        cases z
    have young0 : X.s_0.heap.get? a = none := by
      cases q : X.s_0.heap.get? a with
      | none => rfl
      | some o =>
        obtain ⟨o2, z⟩ := J.base.there a o q (by rw [hex]; simp)
        rw [young] at z
        cases z
    have off : ∀ p ∈ X.pn ++ pins, p.1 ≠ a := fun p hp z => by
      have y := (J.pin p hp).1
      rw [z, young] at y
      cases y
    have S3 := J3.suite e3 d3 na nL nF
    have LT : PySem.W.Looks (model X.prog X.w) h3 (typeOf (.ref a)) cls := fun _ _ _ s k q => wpAny_typeOf_ref (k _ _ e3) (by rw [z3.1]; exact q)
    have LM := PySem.W.exm_one (M := model X.prog X.w) J3.kIn LT hb1
    have ask : ∀ {Q2 : Value → Shared → Prop} {E2 : Value → Shared → Prop}, Q2 c { s2 with heap := h3 } → wpAny (model X.prog X.w) (X.A.mark (some (.ref a))) (eval (.Name x np) X.env) Q2 E2 { s2 with heap := h3 } := fun {Q2 E2} q => by
      obtain ⟨hg, hdb, hm | ⟨hm, hv, hnn⟩⟩ := hc
      · exact ld_glob (X := X.suite a ((a, o3) :: (X.pn ++ pins))) S3 hg hm q hdb
      · exact ld_blt (X := X.suite a ((a, o3) :: (X.pn ++ pins))) S3 hg hm hv q hnn hdb
    refine wpAny_handleBy_cons (codeAny_handlers_test (ask (LM.here ?_))) (by intro q; cases q)
    cases b with
    | true =>
      refine codeAny_handlers_suite_as (HandSPX.lands_againZ l3 fun h4 l4 up4 => ?_)
      have J4 : Inv X pins τ H2 { s2 with heap := h4 } := J.landed nb l4.1 ((up.trans up3).trans up4) os ag
      obtain ⟨o4, v4, e4, z4, d4⟩ := l4.there
      have S4 : Inv (X.suite a (X.pn ++ pins)) [] τ (upd H2 a (Xo a cls d)) { s2 with heap := h4 } := suite_in (track J4 e4 na nL off young0 z4 d4)
      refine store_ok (X := X.suite a (X.pn ++ pins)) (v := .ref a) S4 hN hi hlc rfl (fun s5 S5 => ?_) (.inr hln)
      refine wpAny_mono ((hsu a cls d (X.pn ++ pins)).run [] s5 _ _ _ S5 (yes rfl a na)) (fun fl s6 hsp => ?_) fun _ _ z => z.elim
      have fin : ∀ {σ6 : L2.St} {H6 : Hp} {Q2 : Shared → Prop}, Inv (X.suite a (X.pn ++ pins)) [] σ6 H6 s6 → (∀ s7, Inv X pins (σ6.set i none) H6 s7 → Q2 s7) →
          wpAny (model X.prog X.w) X.A (do bindName X.env n .none; unbindBehindTheSuite X.env n pos2) (fun _ s7 => Q2 s7) X.xe s6 := fun {σ6 H6 Q2} S6 hq =>
        gone_ok (X := X.suite a (X.pn ++ pins)) S6 hN hi hln fun s7 S7 => hq s7 (suite_out S7 ok)
      cases fl with
      | next =>
        obtain ⟨σ6, H6, S6, q6⟩ := hsp
        exact fin S6 fun s7 J7 => ⟨_, _, J7, q6⟩
      | brk =>
        obtain ⟨σ6, H6, S6, q6⟩ := hsp
        exact fin S6 fun s7 J7 => ⟨_, _, J7, q6⟩
      | cont =>
        obtain ⟨σ6, H6, S6, q6⟩ := hsp
        exact fin S6 fun s7 J7 => ⟨_, _, J7, q6⟩
      | ret u =>
        obtain ⟨v6, σ6, H6, S6, r6, q6⟩ := hsp
        exact fin S6 fun s7 J7 => ⟨_, _, _, J7, r6, q6⟩
    | false =>
      refine wpAny_handleBy_nil ?_
      obtain ⟨_, _, _, oe, vs, T, _, _, he, _, hd, h1, _⟩ := id l3
      unfold PySem.passOn
      refine wpAny_bind (wpAny_field he hd h1 ?_)
      rw [if_neg (show ¬ ((Value.ref T == Value.none) = true) from by simp)]
      have go : wpAny (model X.prog X.w) X.A (setFlight (.ref a) X.env.frame) (fun _ s4 => wpAny (model X.prog X.w) X.A (throw (.ref a) : Sem Flow) (SP X pins D) X.xe s4) X.xe { s2 with heap := h3 } := by
        rw [hf]
        exact HandSPX.setFlight_upZ l3 fun h4 g4 up4 => wpAny_throw (tk _ _ ⟨a, G, sI, pins, τ, H2, cls, d, rfl, J, nb, (up.trans up3).trans up4, .inr (.inr (by rw [hs]; exact g4)), na, os, ag, no rfl⟩)
      first
        | exact wpAny_bind (wpAny_pure (wpAny_bind go))
        | exact wpAny_bind go
  · cases fl with
    | next =>
      obtain ⟨τ, H2, J, q⟩ := q
      exact wpAny_execs_nil ⟨τ, H2, J.ofTry ok, q⟩
    | brk =>
      obtain ⟨τ, H2, J, q⟩ := q
      exact ⟨τ, H2, J.ofTry ok, q⟩
    | cont =>
      obtain ⟨τ, H2, J, q⟩ := q
      exact ⟨τ, H2, J.ofTry ok, q⟩
    | ret u =>
      obtain ⟨v, τ, H2, J, r, q⟩ := q
      exact ⟨v, τ, H2, J.ofTry ok, r, q⟩
end

/-! ## a kept exception looked at -/
/-- at a: a kept exception of the own class C with the attributes fs -/
def Kept (H : Hp) (a C : Addr) (fs : List (Str × V)) : Prop := ∃ d, (H a = some (Xo a (.ref C) (some d)) ∧ H d = some (.xd fs)) ∨ (H a = some (exo a C (some d)) ∧ H d = some (exd d fs))
theorem kept_at {X : Cx} {pins : List (Addr × Obj)} {σ : L2.St} {H : Hp} {s : Shared} {a C : Addr} {fs : List (Str × V)} (I : Inv X pins σ H s) (k : Kept H a C fs) :
    ∃ (oe od : Obj) (d : Addr) (mA : Str → Option Value), PySem.W.InstAt s.heap a oe C (some od) ∧ s.heap.get? d = some od ∧ s.heap.Ns1 d mA ∧ ∀ f, RelO (fs.lookup f) (mA f) := by
  obtain ⟨d, ⟨h1, h2⟩ | ⟨h1, h2⟩⟩ := k
  · obtain ⟨oe, vs, e, z, f⟩ := xo_at I.hok h1
    have hx : ObjOk X.prog X.w H s.heap d (.xd fs) := I.hok d _ h2
    obtain ⟨mA, hns, hr⟩ := hx
    obtain ⟨od, ho, _⟩ := lookIn_ns hns
    exact ⟨oe, od, d, mA, ⟨e, z.1, by unfold PySem.W.notCls; rw [f] <;> rfl, by rw [z.2]; exact ho⟩, ho, hns, hr⟩
  · obtain ⟨t1, e⟩ := exo_at I.hok h1
    obtain ⟨mA, hns, hr⟩ := exd_at I.hok h2
    obtain ⟨od, ho, _⟩ := lookIn_ns hns
    exact ⟨_, od, d, mA, ⟨e, rfl, rfl, ho⟩, ho, hns, hr⟩
def rIsX (K : PySem.W.Frag) : List V → Hp → VK → Prop := fun xs H Q => ∃ (a C : Addr) (fs : List (Str × V)) (c : V) (cv : Value) (b : Bool), xs = [.ref a, c] ∧ Kept H a C fs ∧ ExcC K C ∧ ClsV c cv ∧ PySem.W.kitOne K (.ref C) cv = some b ∧ Q (.bl b) H
theorem call_isX {X : Cx} {K : PySem.W.Frag} (h : X.K = K := by rfl) : CallR X (.builtin "isinstance") (rIsX K) := by
  subst h
  intro pins s σ H xs us Q I r h
  obtain ⟨a, C, fs, c, cv, b, rfl, k, EC, hc, e, q⟩ := h
  obtain ⟨oe, od, d, mA, J, _⟩ := kept_at I k
  cases r with
  | @cons _ u0 _ ur rx rr =>
    cases rr with
    | @cons _ u1 _ _ rt rr =>
      cases rr
      cases rx
      have ec : u1 = cv := by
        cases hc <;> exact rt
      subst ec
      obtain ⟨cd, hcd, _⟩ := PySem.W.any_some EC.hd
      exact PySem.W.kia_one (PySem.W.kitx_exc (by rw [hcd]; rfl) EC.hg EC.hk EC.hs EC.ha EC.hn EC.ht EC.hm) I.kIn J e (fun z => nomatch z) fun tk => ⟨.bl b, H, I.kept (t' := tk) fun _ _ z => z, rfl, q⟩
def tXv (K : PySem.W.Frag) (te : TE) (f : Str) : TE := fun σ H Q => te σ H fun x H1 => ∃ (a C : Addr) (fs : List (Str × V)) (v : V), x = .ref a ∧ Kept H1 a C fs ∧ XfC K C ∧ PySem.W.findIn K (.ref C) f = some none ∧ fs.lookup f = some v ∧ Q v H1
theorem pe_xv {X : Cx} {K : PySem.W.Frag} {e : Expr} {te : TE} {f : Str} {pos : Pos} (he : PE X e te) (hb : attributeBase e f X.env (eval e X.env) = eval e X.env := by rfl) (h : X.K = K := by rfl) : PE X (.Attribute e f pos) (tXv K te f) := by
  subst h
  refine ⟨fun pins s σ H Q I h => attr_of hb (thn (he.run pins s σ H _ I h) fun u s1 hh => ?_)⟩
  obtain ⟨x, H1, I1, rx, a, C, fs, v, rfl, k, T, hno, l, q⟩ := hh
  obtain rfl : u = Value.ref a := rx
  obtain ⟨oe, od, d, mA, J, ho, hns, hr⟩ := kept_at I1 k
  obtain ⟨od2, ho2, hl⟩ := lookIn_ns hns
  rw [ho] at ho2
  cases ho2
  obtain ⟨u, hu, ru⟩ := RelO.some_of (v := v) (o := mA f) (by rw [← l]; exact hr f)
  exact HandSPX.exc_get I1.kIn J T.ga T.gg T.exC (PySem.W.findObj_own T.hdC hno rfl (by rw [hl, hu])) (handed_of ru) ⟨v, H1, I1.tok _, ru, q⟩
end Sq


set_option Elab.async false
set_option maxRecDepth 100000
set_option maxHeartbeats 4000000
namespace Sq
open PySem PySem.Spec PyProof.Rows L2
/-! ## raise C(e), C an own class with the __init__ of MExc -/
structure Rai (P : Program) (w : World) (K : PySem.W.Frag) (mg : Str → Option Value) (base : Heap) (k : Nat) (x : Str) (C : Addr) : Prop where
  ex : ∃ (f : Addr) (fd : FuncData), OexC K C ∧ PySem.W.findIn K (.ref C) "__init__" = some (some (.ref f)) ∧ PySem.W.typeIn K (.ref f) = some (.type "function") ∧ FnOk P w K mg base CX0 k f fd ["self", "value"] (spXI C) ∧ mg x = some (.ref C) ∧ L2.Binds K fd ["self", "value"] []
def tRx (W : WX) (C : Addr) (te : TE) : TS := fun _ σ H => te σ H fun v H1 => ∀ d, H1 d = none → W (.ref C) (some d) σ (upd H1 d (.xd [("value", v)]))
theorem heap_rx {H : Hp} {a d : Addr} {u z o : HO} (na : H a = none) (n : d ≠ a) : upd (del (upd (upd (upd H a u) d z) a o) a) d (.xd [("value", v)]) = upd H d (.xd [("value", v)]) := by
  funext b
  by_cases h1 : b = d
  · rw [h1, upd_same, upd_same]
  · rw [upd_ne h1, upd_ne h1]
    by_cases h2 : b = a
    · rw [h2, del_same, na]
    · rw [del_ne h2, upd_ne h2, upd_ne h1, upd_ne h2]
/-- a reading that may be weakened -/
def tWk (te : TE) : TE := fun σ H Q => ∃ R : VK, te σ H R ∧ ∀ v G, R v G → Q v G
theorem pe_wk {X : Cx} {e : Expr} {te : TE} (h : PE X e te) : PE X e (tWk te) := ⟨fun pins s σ H Q I ⟨R, q, k⟩ => wpAny_mono (h.run pins s σ H R I q) (fun u s1 ⟨x, G, J, r, z⟩ => ⟨x, G, J, r, k _ _ z⟩) fun _ _ z => z⟩
section
variable {X : Cx} {W : WX} {k j : Nat} {C : Addr} {x : Str} {p pos pos2 : Pos} {e : Expr} {te : TE}
theorem ps_rx (c : Rai X.prog X.w X.K X.mg X.base k x C) (hr : Room j X.A) (hk : k + 1 ≤ j) (hg : Gl X x) (tk : Takes X W) (ha : PE X e te) (hc : X.calm = true := by rfl)
    (hdb : (x == ("__debug__" : Str)) = false := by decide) (he : starEach [e] X.env = (false, eval e X.env) :: starEach [] X.env := by rfl) (hpl : (backTo pos (starEach [] X.env)).any (·.1) = false := by rfl) : PS X (.Raise (some (.Call (.Name x p) [e] [] pos)) none pos2) (tRx W C te) := by
  obtain ⟨f, fd, T, iC, tI, F, hm, b⟩ := c.ex
  have mk := pmk_oex (pos := pos) (p := p) T iC tI F (hr.mono hk) b .nil pass0 hg hm (pa_cons (pe_wk ha) pa_nil he) hdb he hpl
  have r := ps_raise (pos := pos2) hc tk mk
  refine ⟨fun pins s σ H D I h => r.run pins s σ H D I ⟨_, h, fun v G q => ⟨Nat.le_of_ble_eq_true rfl, fun a na => ⟨a, v, rfl, upd_same, fun dx nd ne => ?_⟩⟩⟩⟩
  have nd' : G dx = none := by
    rw [upd_ne ne] at nd
    exact nd
  refine ⟨rfl, dx, _, upd_same, by rw [upd_ne ne, upd_same], nd', ?_⟩
  rw [heap_rx na ne]
  exact q dx nd'
end

/-! ## defs that may raise -/
structure CalX (P : Program) (w : World) (K : PySem.W.Frag) (mg : Str → Option Value) (base : Heap) (k : Nat) (x : Str) (sp : Sp) : Prop where
  ex : ∃ (f : Addr) (fd : FuncData) (ps : List Str), FnOk P w K mg base (L2.CX P w) k f fd ps sp ∧ mg x = some (.ref f) ∧ PySem.W.keepIn K (.ref f) = true ∧ L2.Binds K fd ps []
section
variable {P : Program} {w : World} {K : PySem.W.Frag} {mg : Str → Option Value} {base : Heap}
theorem DefAt.calX {x : Str} {st : Stmt} {ps N : List Str} {k : Nat} {sp : Sp} (D : DefAt K mg x st ps) (S : FnScope N ps (defScope st)) (len : ∀ vs H Q E, sp vs H Q E → vs.length = ps.length)
    (hb : ∀ (f : Addr) (cdv : Value) (A : Around) (outer : List Env) (s : Shared) (H : Hp) (vs : List V) (Q : VK) (E : XK), Room k (A.deeper (envOfC x (defScope st) s.heap.objs.size f cdv)) → sp vs H Q E →
      (Takes (cxOf (L2.CX P w) P w K mg base N x (defScope st) f cdv A outer s H E) fun cls d _ G => E cls d G) →
      ∃ t, PSs (cxOf (L2.CX P w) P w K mg base N x (defScope st) f cdv A outer s H E) (defBody st) t ∧ t { nx := fun _ H' => Q .non H', rt := Q } (start N vs) H) : CalX P w K mg base (k + 1) x sp := by
  obtain ⟨f, fd, F, hm, b⟩ := D.ex
  exact ⟨f, fd, ps, F.okX S len fun cdv A outer s H vs Q E hr hsp => hb f cdv A outer s H vs Q E hr hsp (takes_of rfl rfl rfl rfl), hm, F.kp, b⟩
/-- where it raises nothing it is a plain def -/
theorem fn_calm {k : Nat} {f : Addr} {fd : FuncData} {ps : List Str} {sp sp' : Sp} (F : FnOk P w K mg base (L2.CX P w) k f fd ps sp) (h : ∀ vs H Q E, sp' vs H Q E → sp vs H Q E0) : FnOk P w K mg base CX0 k f fd ps sp' := by
  refine ⟨fun vs H Q E q => F.len _ _ _ _ (h _ _ _ _ q), fun A outer s H args us vs Q E hr e0 b r q => codeAny_mono (F.run A outer s H args us vs Q E0 hr e0 b r (h _ _ _ _ q)) fun res s' z => ?_⟩
  cases res with
  | ok fl => cases fl <;> exact z
  | error e =>
    obtain ⟨_, _, _, _, _, _, _, _, _, _, _, _, no⟩ := z
    exact no.elim
theorem CalX.calm {x : Str} {k : Nat} {sp sp' : Sp} (c : CalX P w K mg base k x sp) (h : ∀ vs H Q E, sp' vs H Q E → sp vs H Q E0) : Cal P w K mg base k x sp' [] := by
  obtain ⟨f, fd, ps, F, hm, kp, b⟩ := c.ex
  exact ⟨f, fd, ps, [], fn_calm F h, hm, kp, b, .nil⟩
theorem CalX.imp {x : Str} {k j : Nat} {sp sp' : Sp} (c : CalX P w K mg base k x sp) (hk : k ≤ j) (h : ∀ vs H Q E, sp' vs H Q E → sp vs H Q E) : CalX P w K mg base j x sp' := by
  obtain ⟨f, fd, ps, F, hm, kp, b⟩ := c.ex
  exact ⟨f, fd, ps, (F.mono hk).imp h, hm, kp, b⟩
end
section
variable {X : Cx} {W : WX} {k j : Nat} {x : Str} {sp : Sp} {p pos : Pos} {e : Expr} {es : List Expr} {t : TA}
/-- a call that may raise, where W is wished of what is raised -/
theorem pe_cx (c : CalX X.prog X.w X.K X.mg X.base k x sp) (hr : Room j X.A) (hk : k ≤ j) (tk : Takes X W) (hg : Gl X x) (ha : PA X (e :: es) t)
    (hdb : (x == ("__debug__" : Str)) = false := by decide) (he : starEach (e :: es) X.env = (false, eval e X.env) :: starEach es X.env := by rfl) (hpl : (backTo pos (starEach es X.env)).any (·.1) = false := by rfl) :
    PE X (.Call (.Name x p) (e :: es) [] pos) (tCallS sp (WE W) t) := by
  obtain ⟨f, fd, ps, F, hm, kp, b⟩ := c.ex
  exact pe_callS F (hr.mono hk) hg hm kp b (passAt tk) ha hdb he hpl
/-- a call of such a def that raises nothing -/
theorem pe_cx0 (c : CalX X.prog X.w X.K X.mg X.base k x sp) (hr : Room j X.A) (hk : k ≤ j) (hg : Gl X x) (ha : PA X (e :: es) t)
    (hdb : (x == ("__debug__" : Str)) = false := by decide) (he : starEach (e :: es) X.env = (false, eval e X.env) :: starEach es X.env := by rfl) (hpl : (backTo pos (starEach es X.env)).any (·.1) = false := by rfl) :
    PE X (.Call (.Name x p) (e :: es) [] pos) (tCall sp [] E0 t) := by
  obtain ⟨f, fd, ps, F, hm, kp, b⟩ := c.ex
  exact L2.pe_call F (hr.mono hk) hg hm kp b .nil passL ha hdb he hpl
end

/-! ## methods and new objects that may raise -/
structure MetX (P : Program) (w : World) (K : PySem.W.Frag) (mg : Str → Option Value) (base : Heap) (k : Nat) (C : Addr) (m : Str) (sp : Sp) : Prop where
  ex : ∃ (f : Addr) (fd : FuncData) (ps : List Str), Cls K C ∧ Meth K C m f ∧ FnOk P w K mg base (L2.CX P w) k f fd ps sp ∧ L2.Binds K fd ps []
structure MakX (P : Program) (w : World) (K : PySem.W.Frag) (mg : Str → Option Value) (base : Heap) (k : Nat) (x : Str) (C : Addr) (sp : Sp) : Prop where
  ex : ∃ (f : Addr) (fd : FuncData) (ps : List Str), Mk K C f ∧ FnOk P w K mg base (L2.CX P w) k f fd ps sp ∧ mg x = some (.ref C) ∧ L2.Binds K fd ps []
section
variable {P : Program} {w : World} {K : PySem.W.Frag} {mg : Str → Option Value} {base : Heap} {C : Addr} {m x qual : Str} {st : Stmt} {ps N : List Str} {k : Nat} {sp : Sp}
theorem MetAt.metX (D : MetAt K C m qual st ps) (cl : Cls K C) (S : FnScope N ps (defScope st)) (len : ∀ vs H Q E, sp vs H Q E → vs.length = ps.length)
    (hb : ∀ (f : Addr) (cdv : Value) (A : Around) (outer : List Env) (s : Shared) (H : Hp) (vs : List V) (Q : VK) (E : XK), Room k (A.deeper (envOfC qual (defScope st) s.heap.objs.size f cdv)) → sp vs H Q E →
      (Takes (cxOf (L2.CX P w) P w K mg base N qual (defScope st) f cdv A outer s H E) fun cls d _ G => E cls d G) →
      ∃ t, PSs (cxOf (L2.CX P w) P w K mg base N qual (defScope st) f cdv A outer s H E) (defBody st) t ∧ t { nx := fun _ H' => Q .non H', rt := Q } (start N vs) H) : MetX P w K mg base (k + 1) C m sp := by
  obtain ⟨f, fd, F, hm, b⟩ := D.ex
  exact ⟨f, fd, ps, cl, hm, F.okX S len fun cdv A outer s H vs Q E hr hsp => hb f cdv A outer s H vs Q E hr hsp (takes_of rfl rfl rfl rfl), b⟩
theorem IniAt.makX (D : IniAt K mg C x qual st ps) (S : FnScope N ps (defScope st)) (len : ∀ vs H Q E, sp vs H Q E → vs.length = ps.length)
    (hb : ∀ (f : Addr) (cdv : Value) (A : Around) (outer : List Env) (s : Shared) (H : Hp) (vs : List V) (Q : VK) (E : XK), Room k (A.deeper (envOfC qual (defScope st) s.heap.objs.size f cdv)) → sp vs H Q E →
      (Takes (cxOf (L2.CX P w) P w K mg base N qual (defScope st) f cdv A outer s H E) fun cls d _ G => E cls d G) →
      ∃ t, PSs (cxOf (L2.CX P w) P w K mg base N qual (defScope st) f cdv A outer s H E) (defBody st) t ∧ t { nx := fun _ H' => Q .non H', rt := Q } (start N vs) H) : MakX P w K mg base (k + 1) x C sp := by
  obtain ⟨f, fd, F, hm, hg, b⟩ := D.ex
  exact ⟨f, fd, ps, hm, F.okX S len fun cdv A outer s H vs Q E hr hsp => hb f cdv A outer s H vs Q E hr hsp (takes_of rfl rfl rfl rfl), hg, b⟩
end
theorem MetX.calm {P : Program} {w : World} {K : PySem.W.Frag} {mg : Str → Option Value} {base : Heap} {C : Addr} {m : Str} {k : Nat} {sp sp' : Sp} (c : MetX P w K mg base k C m sp) (h : ∀ vs H Q E, sp' vs H Q E → sp vs H Q E0) : Met P w K mg base k C m sp' := by
  obtain ⟨f, fd, ps, c1, c2, F, b⟩ := c.ex
  exact ⟨f, fd, ps, c1, c2, fn_calm F h, b⟩
theorem MakX.calm {P : Program} {w : World} {K : PySem.W.Frag} {mg : Str → Option Value} {base : Heap} {C : Addr} {x : Str} {k : Nat} {sp sp' : Sp} (c : MakX P w K mg base k x C sp) (h : ∀ vs H Q E, sp' vs H Q E → sp vs H Q E0) : Mak P w K mg base k x C sp' := by
  obtain ⟨f, fd, ps, M, F, hm, b⟩ := c.ex
  exact ⟨f, fd, ps, M, fn_calm F h, hm, b⟩
def tMethS (C : Addr) (m : Str) (sp : Sp) (E : L2.St → XK) (ta : TE) (t : TA) : TE := fun σ H Q => ta σ H fun x H1 => ∃ a dx fs, x = .ref a ∧ H1 a = some (.ins C dx fs) ∧ fs.lookup m = none ∧ t σ H1 fun vs H2 => sp (x :: vs) H2 Q (E σ)
def tMakeS (C : Addr) (sp : Sp) (E : L2.St → XK) (t : TA) : TE := fun σ H Q => t σ H fun vs H1 => ∀ x dx, H1 x = none → H1 dx = none → dx ≠ x →
  sp (.ref x :: vs) (upd (upd H1 dx (.own x)) x (.ins C dx [])) (fun v H2 => v = .non ∧ Q (.ref x) H2) (E σ)
section
variable {X : Cx} {W : WX} {k j : Nat} {C : Addr} {x m : Str} {sp : Sp} {p pos apos : Pos} {e o : Expr} {es : List Expr} {ta : TE} {t : TA}
theorem pe_mx {pl : Sem Bool} (c : MetX X.prog X.w X.K X.mg X.base k C m sp) (hr : Room j X.A) (hk : k ≤ j) (tk : Takes X W) (he : PE X o ta) (ha : PA X (e :: es) t)
    (ht : eval (.Call (.Attribute o m apos) (e :: es) [] pos) X.env = (do
      let ov ← eval o X.env
      standAt apos.atName
      let (f, first) ← holding [ov] (getMethod ov m pl)
      callWith pos f first (backTo pos (starEach (e :: es) X.env)) (backToKw pos (keywordEach [] X.env))) := by rfl)
    (hst : starEach (e :: es) X.env = (false, eval e X.env) :: starEach es X.env := by rfl) (hpl : (backTo pos (starEach es X.env)).any (·.1) = false := by rfl) : PE X (.Call (.Attribute o m apos) (e :: es) [] pos) (tMethS C m sp (WE W) ta t) := by
  obtain ⟨f, fd, ps, cl, hm, F, b⟩ := c.ex
  refine ⟨fun pins s σ H Q I h => PySem.W.methodCall_KW (pl := pl) (thn (he.run pins s σ H _ I h) fun u s1 hh => ?_) ht⟩
  obtain ⟨x, H1, I1, rx, a, dx, fs, rfl, ea, l, q⟩ := hh
  obtain rfl : u = Value.ref a := rx
  refine getmeth_ok I1 ea cl hm l (PySem.W.callWith_K (first := [.ref a]) (h₀ := X.base) I.ok.mod.kin hm.kp (thn (ha.run pos pins s1 σ H1 _ I1 q) fun us s2 hh => ?_) hst hpl)
  obtain ⟨vs, H2, I2, r, q2⟩ := hh
  exact ⟨I2.kIn, run_fnS (us := .ref a :: us) (vs := .ref a :: vs) F (hr.mono hk) b (passAt tk σ) I2 (.cons rfl r) q2⟩
theorem pe_mkx (c : MakX X.prog X.w X.K X.mg X.base k x C sp) (hr : Room j X.A) (hk : k + 1 ≤ j) (tk : Takes X W) (hg : Gl X x) (ha : PA X (e :: es) t)
    (hdb : (x == ("__debug__" : Str)) = false := by decide) (he : starEach (e :: es) X.env = (false, eval e X.env) :: starEach es X.env := by rfl) (hpl : (backTo pos (starEach es X.env)).any (·.1) = false := by rfl) :
    PE X (.Call (.Name x p) (e :: es) [] pos) (tMakeS C sp (WE W) t) := by
  obtain ⟨f, fd, ps, M, F, hm, b⟩ := c.ex
  refine ⟨fun pins s σ H Q I h => wpAny_Call_Name_kw (ld_glob I hg hm ?_ hdb)⟩
  refine PySem.W.callWith_K (h₀ := X.base) I.ok.mod.kin M.kp (thn (ha.run pos pins s σ H _ I h) fun us s1 hh => ?_) he hpl
  obtain ⟨vs, H1, I1, r, q⟩ := hh
  refine ⟨I1.kIn, ?_⟩
  have hq := q (s1.heap.objs.size + 1) s1.heap.objs.size (I1.hok.fresh (Nat.le_succ _)) (I1.hok.fresh (Nat.le_refl _)) (Nat.ne_of_lt (Nat.lt_succ_self _))
  have I2 := Inv.made (C := C) I1
  have r2 : Vals (V.ref (s1.heap.objs.size + 1) :: vs) (Value.ref (s1.heap.objs.size + 1) :: us) := .cons rfl r
  have ln : (Value.ref (s1.heap.objs.size + 1) :: us).length = ps.length := by
    rw [← r2.length]
    exact F.len _ _ _ _ hq
  have bb := b _ (Value.ref (s1.heap.objs.size + 1) :: us) I2.kIn (by rw [List.append_nil]; exact ln)
  rw [List.append_nil] at bb
  show wpAny _ _ (call (.ref C) us) _ _ _
  refine wpAny_call (make_map (f := f) I1.kIn M.makes M.init (beq_iff_eq.mp M.fn) (codeAny_mono (F.run _ X.stack _ _ ⟨Value.ref (s1.heap.objs.size + 1) :: us, []⟩ _ _ _ (WE W σ) ((hr.mono hk).make C us []) (I2.env0.make C us []) bb r2 hq) fun r s' hq2 => ?_))
  cases r with
  | error er => exact passAt tk σ pins _ _ er s' I2 hq2
  | ok fl =>
    cases fl with
    | ret u =>
      obtain ⟨v, H', I3, rv, ev, q3⟩ := I2.after hq2
      subst ev
      exact ⟨rv, ⟨V.ref (s1.heap.objs.size + 1), H', I3, rfl, q3⟩⟩
    | next => exact False.elim hq2
    | brk => exact False.elim hq2
    | cont => exact False.elim hq2
theorem pe_mx0 {pl : Sem Bool} (c : MetX X.prog X.w X.K X.mg X.base k C m sp) (hr : Room j X.A) (hk : k ≤ j) (he : PE X o ta) (ha : PA X (e :: es) t)
    (ht : eval (.Call (.Attribute o m apos) (e :: es) [] pos) X.env = (do
      let ov ← eval o X.env
      standAt apos.atName
      let (f, first) ← holding [ov] (getMethod ov m pl)
      callWith pos f first (backTo pos (starEach (e :: es) X.env)) (backToKw pos (keywordEach [] X.env))) := by rfl)
    (hst : starEach (e :: es) X.env = (false, eval e X.env) :: starEach es X.env := by rfl) (hpl : (backTo pos (starEach es X.env)).any (·.1) = false := by rfl) : PE X (.Call (.Attribute o m apos) (e :: es) [] pos) (tMeth C m sp [] E0 ta t) := by
  obtain ⟨f, fd, ps, c1, c2, F, b⟩ := c.ex
  exact L2.pe_meth (pl := pl) he c1 c2 F (hr.mono hk) b .nil passL ha hst hpl ht
theorem pe_mkx0 (c : MakX X.prog X.w X.K X.mg X.base k x C sp) (hr : Room j X.A) (hk : k + 1 ≤ j) (hg : Gl X x) (ha : PA X (e :: es) t)
    (hdb : (x == ("__debug__" : Str)) = false := by decide) (he : starEach (e :: es) X.env = (false, eval e X.env) :: starEach es X.env := by rfl) (hpl : (backTo pos (starEach es X.env)).any (·.1) = false := by rfl) :
    PE X (.Call (.Name x p) (e :: es) [] pos) (tMake C sp [] E0 t) := by
  obtain ⟨f, fd, ps, M, F, hm, b⟩ := c.ex
  exact L2.pe_make M F (hr.mono hk) hg hm b .nil passL ha hdb he hpl
end

/-! ## an exception class of the text, out of what the top has written -/
theorem rai_mk {P : Program} {w : World} {K : PySem.W.Frag} {h base : Heap} {mg : Str → Option Value} {x : Str} {C f cc cda N : Addr} {nm q qual m file : Str} {bs bm sub : List Value} {sn : List Str} {ab : Bool} {col : Option Bool} {dd cld cdd od an : Option Addr} {k0 k1 k2 k3 k5 : Option Value}
    {cl ccl oc kV doc pm ct : Value} {csl ccs osl : Array (Option Value)} {cvs : Array Value} {tf : Tok} {p0 p1 p2 p3 p4 p5 p6 p7 p8 p9 q0 q1 : Pos} (X : K.In h) (G : h.Ns mainGlobals mg) (hm : mg x = some (.ref C))
    (lC : K.lookup C = some (excClassObj nm q C N bs bm true sn sub ab col dd k0 k1 k2 k3 k5 "ValueError.__new__")) (rC : PySem.HandSPX.refsVE bm = true) (sa : PySem.W.findIn K (.ref C) "__setattr__" = some (some (.builtin "object.__setattr__")))
    (ex : PySem.W.subIn K (.ref C) (.type "BaseException") = some true) (ty : PySem.W.typeIn K (.ref C) = some (.type "type")) (kc : PySem.W.keepIn K (.ref C) = true)
    (ini : PySem.W.findIn K (.ref C) "__init__" = some (some (.ref f))) (tyf : PySem.W.typeIn K (.ref f) = some (.type "function"))
    (l : K.lookup f = some ⟨oc, od, .func (PySem.W.ksFn "__init__" qual (xiArgs q0 q1) (xiBody m p0 p1 p2 p3 p4 p5 p6 p7 p8 p9) xiScope .none kV doc pm an (.ref cda) ct cc), osl⟩)
    (co : PySem.W.codeIn K (.ref cda) qual = true) (cell : K.lookup cc = some ⟨cl, cld, .cell (some (.ref C)), csl⟩) (rec_ : K.lookup cda = some ⟨ccl, cdd, .fields cvs, ccs⟩) (v2 : cvs[2]? = some (.str file tf)) (fl : ((P.main.file : Str) == file) = true)
    (top : (P.main.scope.names.lookup ("super" : Str)).isSome = false) (opq : PySem.W.nsIn K PySem.cStatics "thirdparty.any" = some none) (sup : PySem.W.ks_superIn K C C "__init__" = some (some (.builtin "ValueError.__init__"))) (veb : PySem.W.subIn K (.ref C) (.type "ValueError") = some true)
    (slf : PySem.W.mroIn K C (.ref C) = some true) (val : PySem.W.findIn K (.ref C) "value" = some none) (ms : PySem.W.nsIn K mainGlobals "super" = some none) (he : XiCall qual f cc cda m p0 p1 p2 p3 p4)
    (hb : ∀ us : List Value, us.length = 2 → bindArgs (PySem.W.ksFn "__init__" qual (xiArgs q0 q1) (xiBody m p0 p1 p2 p3 p4 p5 p6 p7 p8 p9) xiScope .none kV doc pm an (.ref cda) ct cc) ⟨us, []⟩ = pure ((["self", "value"] : List Str).zip us)) : Rai P w K mg base 1 x C :=
  ⟨f, _, ⟨⟨nm, q, N, bs, bm, sn, sub, ab, col, dd, k0, k1, k2, k3, k5, lC, rC⟩, sa, ex, ty, kc⟩, ini, tyf,
    ok_xi ⟨⟨nm, q, N, bs, bm, sn, sub, ab, col, dd, k0, k1, k2, k3, k5, lC, rC⟩, sa, ex, ty, kc⟩ ⟨co, ⟨cl, cld, csl, cell⟩, ⟨ccl, cdd, cvs, ccs, tf, rec_, v2⟩, fl, top, opq, sup, veb, slf, val⟩ l (PySem.W.mg_none_of X G ms) he, hm, L2.Binds.all hb⟩
end Sq


set_option Elab.async false
set_option maxRecDepth 100000
set_option maxHeartbeats 4000000
namespace Sq
open PySem PySem.Spec PyProof.Rows L2
/-! ## methods called by keywords alone -/
structure MetKX (P : Program) (w : World) (K : PySem.W.Frag) (mg : Str → Option Value) (base : Heap) (k : Nat) (C : Addr) (m : Str) (ks : List Str) (sp : Sp) : Prop where
  ex : ∃ (f : Addr) (fd : FuncData) (ps : List Str) (spf : Sp) (g : List Value → List Value → List Value) (gV : List V → List V → List V),
    Cls K C ∧ Meth K C m f ∧ FnOk P w K mg base (L2.CX P w) k f fd ps spf ∧ KBn K fd ps 1 ks g gV ∧ ∀ x zs H Q E, sp (x :: zs) H Q E → zs.length = ks.length ∧ spf (gV [x] zs) H Q E
def tMetK (C : Addr) (m : Str) (sp : Sp) (E : L2.St → XK) (ta : TE) (tk : TA) : TE := fun σ H Q => ta σ H fun x H1 => ∃ a dx fs, x = .ref a ∧ H1 a = some (.ins C dx fs) ∧ fs.lookup m = none ∧ tk σ H1 fun zs H2 => sp (x :: zs) H2 Q (E σ)
section
variable {X : Cx} {W : WX} {k j : Nat} {C : Addr} {m : Str} {ks : List Str} {sp : Sp} {pos apos : Pos} {o : Expr} {kws : List Keyword} {ta : TE} {t : TA}
theorem pe_mkwx {pl : Sem Bool} (c : MetKX X.prog X.w X.K X.mg X.base k C m ks sp) (hr : Room j X.A) (hk : k ≤ j) (tk : Takes X W) (he : PE X o ta) (ha : PK X kws t)
    (ht : eval (.Call (.Attribute o m apos) [] kws pos) X.env = (do
      let ov ← eval o X.env
      standAt apos.atName
      let (f, first) ← holding [ov] (getMethod ov m pl)
      callWith pos f first (backTo pos (starEach [] X.env)) (backToKw pos (keywordEach kws X.env))) := by rfl)
    (hall : (backToKw pos (keywordEach kws X.env)).all (·.1.isSome) = true := by rfl) (hks : (backToKw pos (keywordEach kws X.env)).filterMap (·.1) = ks := by rfl)
    (hpl : ((backTo pos (starEach [] X.env)).any (·.1) || (backToKw pos (keywordEach kws X.env)).any (·.1.isNone)) = false := by rfl) : PE X (.Call (.Attribute o m apos) [] kws pos) (tMetK C m sp (WE W) ta t) := by
  obtain ⟨f, fd, ps, spf, g, gV, cl, hm, F, hb, hs⟩ := c.ex
  refine ⟨fun pins s σ H Q I h => PySem.W.methodCall_KW (pl := pl) (thn (he.run pins s σ H _ I h) fun u s1 hh => ?_) ht⟩
  obtain ⟨x, H1, I1, rx, a, dx, fs, rfl, ea, l, q⟩ := hh
  obtain rfl : u = Value.ref a := rx
  refine getmeth_ok I1 ea cl hm l (PySem.W.callWith_KW0 (first := [.ref a]) (h₀ := X.base) I.ok.mod.kin hm.kp hall (thn (ha.run pos pins s1 σ H1 _ I1 q) fun ws s2 hh => ?_) hpl)
  obtain ⟨zs, H2, I2, rz, q2⟩ := hh
  obtain ⟨lz, q3⟩ := hs _ _ _ _ _ q2
  refine ⟨I2.kIn, ?_⟩
  rw [hks]
  have r1 : Vals [V.ref a] [Value.ref a] := .cons rfl .nil
  refine wpAny_call (codeAny_mono (F.run X.A X.stack s2 H2 ⟨[.ref a], ks.zip ws⟩ (g [.ref a] ws) (gV [.ref a] zs) Q (WE W σ) (hr.mono hk) I2.env0 (hb.to s2 [.ref a] ws I2.kIn rfl (rz.length.symm.trans lz)) (hb.rel r1 rz) q3) fun r s3 hq => ?_)
  cases r with
  | error er => exact passAt tk σ pins H2 s2 er s3 I2 hq
  | ok fl =>
    cases fl with
    | ret u => exact I2.after hq
    | next => exact False.elim hq
    | brk => exact False.elim hq
    | cont => exact False.elim hq
end
/-! ## new objects made by keywords alone -/
structure MakK (P : Program) (w : World) (K : PySem.W.Frag) (mg : Str → Option Value) (base : Heap) (k : Nat) (x : Str) (C : Addr) (ks : List Str) (sp : Sp) : Prop where
  ex : ∃ (f : Addr) (fd : FuncData) (ps : List Str) (spf : Sp) (g : List Value → List Value → List Value) (gV : List V → List V → List V),
    Mk K C f ∧ FnOk P w K mg base CX0 k f fd ps spf ∧ mg x = some (.ref C) ∧ KBn K fd ps 1 ks g gV ∧ ∀ x zs H Q E, sp (x :: zs) H Q E → zs.length = ks.length ∧ spf (gV [x] zs) H Q E
def tMakK (C : Addr) (sp : Sp) (tk : TA) : TE := fun σ H Q => tk σ H fun zs H1 => ∀ x dx, H1 x = none → H1 dx = none → dx ≠ x → sp (.ref x :: zs) (upd (upd H1 dx (.own x)) x (.ins C dx [])) (fun v H3 => v = .non ∧ Q (.ref x) H3) E0
section
variable {X : Cx} {k j : Nat} {C : Addr} {x : Str} {ks : List Str} {sp : Sp} {p pos : Pos} {kws : List Keyword} {t : TA}
theorem pe_mkk (c : MakK X.prog X.w X.K X.mg X.base k x C ks sp) (hr : Room j X.A) (hk : k + 1 ≤ j) (hg : Gl X x) (ha : PK X kws t)
    (hall : (backToKw pos (keywordEach kws X.env)).all (·.1.isSome) = true := by rfl) (hks : (backToKw pos (keywordEach kws X.env)).filterMap (·.1) = ks := by rfl) (hdb : (x == ("__debug__" : Str)) = false := by decide)
    (hpl : ((backTo pos (starEach [] X.env)).any (·.1) || (backToKw pos (keywordEach kws X.env)).any (·.1.isNone)) = false := by rfl) : PE X (.Call (.Name x p) [] kws pos) (tMakK C sp t) := by
  obtain ⟨f, fd, ps, spf, g, gV, M, F, hm, hb, hs⟩ := c.ex
  refine ⟨fun pins s σ H Q I h => wpAny_Call_Name_kw (ld_glob I hg hm (PySem.W.callWith_KW0 (h₀ := X.base) I.ok.mod.kin M.kp hall (thn (ha.run pos pins s σ H _ I h) fun ws s2 hh => ?_) hpl) hdb)⟩
  obtain ⟨zs, H2, I2, rz, q2⟩ := hh
  refine ⟨I2.kIn, ?_⟩
  rw [hks]
  have lz : zs.length = ks.length := (hs _ _ _ _ _ (q2 (s2.heap.objs.size + 1) s2.heap.objs.size (I2.hok.fresh (Nat.le_succ _)) (I2.hok.fresh (Nat.le_refl _)) (Nat.ne_of_lt (Nat.lt_succ_self _)))).1
  exact run_makeK (us := []) (vs := []) M F (hr.mono hk) hb pass0 I2 .nil rz rfl lz fun x dx n1 n2 n3 => (hs _ _ _ _ _ (q2 x dx n1 n2 n3)).2
end
/-! ## list.count of plain values -/
def rCntF (K : PySem.W.Frag) : V → List V → Hp → VK → Prop := fun x xs H Q => ∃ (a : Addr) (ys : List V) (y : V), x = .ref a ∧ xs = [y] ∧ SqL K H a ys ∧ flatV y = true ∧ ys.all flatV = true ∧ Q (.int ((ys.countP fun z => eqV z y : Nat) : Int)) H
theorem count_flat {y : V} : ∀ {ys : List V} {us : List Value}, Vals ys us → ys.all flatV = true → us.countP (eqU y) = ys.countP fun z => eqV z y
  | _, _, .nil, _ => rfl
  | _, _, .cons (a := z) (b := u) r t, f => by
    rw [List.all_cons, Bool.and_eq_true] at f
    rw [List.countP_cons, List.countP_cons, count_flat t f.2, eqU_of r f.1]
theorem mt_countF {X : Cx} : MtR X "list.count" (rCntF X.K) := by
  intro pins s σ H x xs v us Q I rx rxs h
  obtain ⟨a, ys, y, rfl, rfl, hs, fy, fys, q⟩ := h
  cases rx
  obtain ⟨uy, rfl, ry⟩ := rxs.one
  obtain ⟨its, rv, ⟨⟨cls, dd, data, sl⟩, n, ho, hc, hdn, hd⟩, hlen⟩ := I.list hs
  simp only at hc hd
  subst hc hd
  refine call_meets PySem.F.slot_list_count ⟨_, ho, rfl⟩ PySem.F.entry_list_count (PySem.F.args_list_count_2 _ _) (SeqAt.list_countAt a its.toArray n dd sl uy (eqU y)) ⟨ho, fun u2 hu2 => mem_eqAt ry fy rv fys u2 (by simpa using hu2), ?_⟩
  refine ⟨.int ((ys.countP fun z => eqV z y : Nat) : Int), H, I.tok _, ⟨s.toks, ?_⟩, q⟩
  show Value.int ((its.toArray.toList.countP (eqU y) : Nat) : Int) s.toks = _
  rw [List.toList_toArray, count_flat rv fys]
/-! ## a method, an __init__ called by place and by keywords -/
theorem kbn_self {K : PySem.W.Frag} {x qual : Str} {st : Stmt} {f : Addr} {fd : FuncData} {ps ks : List Str} (F : Fun K x qual st f fd) (g : {α : Type} → α → List α → List α) (hg : ∀ {v : V} {u : Value} {vs : List V} {us : List Value}, RelV v u → Vals vs us → Vals (g v vs) (g u us))
    (h : ∀ (kV doc pm : Value) (an : Option Addr) (cdv ct u : Value) (ws : List Value), ws.length = ks.length →
      bindArgs (PySem.W.fnOf x qual (defArgs st) (defBody st) (defScope st) .none kV doc pm an cdv ct) ⟨[u], ks.zip ws⟩ = pure (ps.zip (g u ws))) : KBn K fd ps 1 ks (fun us ws => match us with | [u] => g u ws | _ => ws) (fun us ws => match us with | [u] => g u ws | _ => ws) := by
  obtain ⟨oc, od, kV, doc, pm, an, cdv, ct, osl, rfl, lk, hcd⟩ := F.ex
  refine ⟨fun s us ws X l1 l2 => ?_, fun r1 r2 => ?_⟩
  · match us, l1 with
    | [u], _ => exact .of_eq (h kV doc pm an cdv ct u ws l2)
  · cases r1 with
    | nil => exact r2
    | cons a r => cases r with
      | nil => exact hg a r2
      | cons b r => exact r2
section
variable {P : Program} {w : World} {K : PySem.W.Frag} {mg : Str → Option Value} {base : Heap} {C : Addr} {m x qual : Str} {st : Stmt} {ps ks N : List Str} {k : Nat} {sp spk : Sp}
theorem MetAt.metKX (D : MetAt K C m qual st ps) (cl : Cls K C) (S : FnScope N ps (defScope st)) (len : ∀ vs H Q E, sp vs H Q E → vs.length = ps.length)
    (hb : ∀ (f : Addr) (cdv : Value) (A : Around) (outer : List Env) (s : Shared) (H : Hp) (vs : List V) (Q : VK) (E : XK), Room k (A.deeper (envOfC qual (defScope st) s.heap.objs.size f cdv)) → sp vs H Q E →
      (Takes (cxOf (L2.CX P w) P w K mg base N qual (defScope st) f cdv A outer s H E) fun cls d _ G => E cls d G) →
      ∃ t, PSs (cxOf (L2.CX P w) P w K mg base N qual (defScope st) f cdv A outer s H E) (defBody st) t ∧ t { nx := fun _ H' => Q .non H', rt := Q } (start N vs) H)
    (g : {α : Type} → α → List α → List α) (hg : ∀ {v : V} {u : Value} {vs : List V} {us : List Value}, RelV v u → Vals vs us → Vals (g v vs) (g u us))
    (h : ∀ (kV doc pm : Value) (an : Option Addr) (cdv ct u : Value) (ws : List Value), ws.length = ks.length →
      bindArgs (PySem.W.fnOf m qual (defArgs st) (defBody st) (defScope st) .none kV doc pm an cdv ct) ⟨[u], ks.zip ws⟩ = pure (ps.zip (g u ws)))
    (hs : ∀ x zs H Q E, spk (x :: zs) H Q E → zs.length = ks.length ∧ sp (g x zs) H Q E) : MetX P w K mg base (k + 1) C m sp ∧ MetKX P w K mg base (k + 1) C m ks spk := by
  obtain ⟨f, fd, F, hm, b⟩ := D.ex
  have ok := F.okX S len fun cdv A outer s H vs Q E hr hsp => hb f cdv A outer s H vs Q E hr hsp (takes_of rfl rfl rfl rfl)
  exact ⟨⟨f, fd, ps, cl, hm, ok, b⟩, ⟨f, fd, ps, sp, _, _, cl, hm, ok, kbn_self F g hg h, hs⟩⟩
theorem IniAt.makK (D : IniAt K mg C x qual st ps) (S : FnScope N ps (defScope st)) (len : ∀ vs H Q E, sp vs H Q E → vs.length = ps.length)
    (hb : ∀ (f : Addr) (cdv : Value) (A : Around) (outer : List Env) (s : Shared) (H : Hp) (vs : List V) (Q : VK) (E : XK), Room k (A.deeper (envOfC qual (defScope st) s.heap.objs.size f cdv)) → sp vs H Q E →
      (Takes (cxOf (L2.CX P w) P w K mg base N qual (defScope st) f cdv A outer s H E) fun cls d _ G => E cls d G) →
      ∃ t, PSs (cxOf (L2.CX P w) P w K mg base N qual (defScope st) f cdv A outer s H E) (defBody st) t ∧ t { nx := fun _ H' => Q .non H', rt := Q } (start N vs) H)
    (g : {α : Type} → α → List α → List α) (hg : ∀ {v : V} {u : Value} {vs : List V} {us : List Value}, RelV v u → Vals vs us → Vals (g v vs) (g u us))
    (h : ∀ (kV doc pm : Value) (an : Option Addr) (cdv ct u : Value) (ws : List Value), ws.length = ks.length →
      bindArgs (PySem.W.fnOf "__init__" qual (defArgs st) (defBody st) (defScope st) .none kV doc pm an cdv ct) ⟨[u], ks.zip ws⟩ = pure (ps.zip (g u ws)))
    (hs : ∀ x zs H Q E, spk (x :: zs) H Q E → zs.length = ks.length ∧ sp (g x zs) H Q E0) : MakX P w K mg base (k + 1) x C sp ∧ MakK P w K mg base (k + 1) x C ks spk := by
  obtain ⟨f, fd, F, hm, hg2, b⟩ := D.ex
  have ok := F.okX S len fun cdv A outer s H vs Q E hr hsp => hb f cdv A outer s H vs Q E hr hsp (takes_of rfl rfl rfl rfl)
  have ok0 : FnOk P w K mg base CX0 (k + 1) f fd ps (fun vs H Q _ => sp vs H Q E0) := fn_calm ok fun vs H Q E z => z
  exact ⟨⟨f, fd, ps, hm, ok, hg2, b⟩, ⟨f, fd, ps, _, _, _, hm, ok0, hg2, kbn_self F g hg h, hs⟩⟩
end
/-! ## [.. for i, x in enumerate(xs) ..] -/
theorem lc_enum {K : PySem.W.Frag} {a : Addr} {xs : List V} {g : TG} {tt : TT} {te : TE} {vs : List Nat} {σ : L2.St} {H1 : Hp} {D : Addr} {Qd : Hp → Prop} (Pv : Nat → Hp → Prop) (h0 : Pv 0 (upd H1 D (.lst []))) (hq : ∀ i H, Pv i H → SqL K H a xs)
    (hs : ∀ (i : Nat) (x : V) (T : Addr) (H : Hp), xs[i]? = some x → Pv i H → H T = none → g (.ref T) (wipe σ vs) (upd H T (.tup [.int (i : Nat), x])) fun σ2 H2 => wipe σ2 vs = wipe σ vs ∧ tt σ2 H2 fun b H3 =>
      if b = true then te σ2 H3 fun y H4 => ∃ acc, H4 D = some (.lst acc) ∧ acc.length < sizeLine ∧ Pv (i + 1) (upd H4 D (.lst (acc ++ [y]))) else Pv (i + 1) H3) (hd : ∀ H, Pv xs.length H → Qd H) :
    ∃ W : Nat → Nat → Hp → Prop, (∃ m, W 0 m (upd H1 D (.lst []))) ∧ ∀ i m H, W i m H →
      ((Ite K a).stop i H ∧ Qd H) ∨ ((Ite K a).go i H ∧ ∃ Nx : Hp → Prop, (∀ H', Nx H' → ∃ m', m' < m ∧ W (i + 1) m' H') ∧ ∀ x H', (Ite K a).yld i H x H' → g x (wipe σ vs) H' fun σ2 H2 => wipe σ2 vs = wipe σ vs ∧ tt σ2 H2 fun b H3 =>
        if b = true then te σ2 H3 fun y H4 => ∃ acc, H4 D = some (.lst acc) ∧ acc.length < sizeLine ∧ Nx (upd H4 D (.lst (acc ++ [y]))) else Nx H3) := by
  refine ⟨fun i m H => m + i = xs.length ∧ Pv i H, ⟨xs.length, rfl, h0⟩, fun i m H hW => ?_⟩
  obtain ⟨em, p⟩ := hW
  have q := hq i H p
  by_cases lt : i < xs.length
  · have ex : xs[i]? = some xs[i] := List.getElem?_eq_getElem lt
    refine .inr ⟨⟨xs, _, q, ex⟩, Pv (i + 1), fun H' p' => ⟨m - 1, by omega, by omega, p'⟩, fun v H' hy => ?_⟩
    obtain ⟨T, x, rfl, nT, rfl, f⟩ := hy
    exact hs i x T H (f xs q) p nT
  · have ei : i = xs.length := by omega
    subst ei
    exact .inl ⟨⟨xs, q, Nat.le_refl _⟩, hd H p⟩
/-! ## a kept exception stays -/
theorem Kept.same {H H' : Hp} {a C : Addr} {fs : List (Str × V)} (k : Kept H a C fs) (s : Same H H') : Kept H' a C fs := by
  obtain ⟨d, ⟨h1, h2⟩ | ⟨h1, h2⟩⟩ := k
  · exact ⟨d, .inl ⟨s _ _ h1, s _ _ h2⟩⟩
  · exact ⟨d, .inr ⟨s _ _ h1, s _ _ h2⟩⟩
theorem kept_new {H : Hp} {a C d : Addr} {fs : List (Str × V)} (na : H a = none) (hd : H d = some (.xd fs)) : Kept (upd H a (Xo a (.ref C) (some d))) a C fs := ⟨d, .inl ⟨upd_same, upd_keep na hd⟩⟩
theorem But.same {o : Addr} {H H1 H' : Hp} (b : But o H1 H') (s : Same H H1) (n : H o = none) : Same H H' := fun c u e => b c u (fun z => by
  rw [z, n] at e
  cases e) (s c u e)
theorem exm_mk {K : PySem.W.Frag} {C S : Addr} {b : Bool} (h1 : PySem.W.subIn K (.ref S) (.type "BaseException") = some true) (h2 : PySem.W.isClsIn K S = true) (h3 : PySem.W.typeIn K (.ref S) = some (.type "type")) (h4 : PySem.W.subIn K (.ref C) (.ref S) = some b) : PySem.W.exmOne K (.ref C) (.ref S) = some b := by
  have e1 : (PySem.W.subIn K (.ref S) (.type "BaseException") == some true) = true := by rw [h1] <;> rfl
  have e2 : ((PySem.W.clsIn K S).isSome && PySem.W.typeIn K (.ref S) == some (.type "type")) = true := by
    have h2' : (PySem.W.clsIn K S).isSome = true := h2
    rw [h2', h3] <;> rfl
  show (if (PySem.W.subIn K (.ref S) (.type "BaseException") == some true) = true then (if ((PySem.W.clsIn K S).isSome && PySem.W.typeIn K (.ref S) == some (.type "type")) = true then PySem.W.subIn K (.ref C) (.ref S) else none) else none) = some b
  rw [if_pos e1, if_pos e2]
  exact h4
end Sq


set_option Elab.async false
set_option maxRecDepth 100000
set_option maxHeartbeats 4000000
namespace Sq
open PySem PySem.Spec PyProof.Rows L2
/-! ## numbers of lists, as they are counted -/
def need (k L : Int) : Int := if k > L + 1 then L else if (L + 1 + k) / k + k - 3 > k - 1 then (L + 1 + k) / k + k - 3 else k - 1
theorem need_bd {k L : Int} (hk : 2 ≤ k) (hL : 0 ≤ L) : 0 ≤ need k L ∧ need k L ≤ L := by
  unfold need
  split
  · exact ⟨hL, Int.le_refl _⟩
  · have e : (L + 1 + k) / k = (L + 1 - k) / k + 2 := by
      rw [show L + 1 + k = (L + 1 - k) + 2 * k by omega, Int.add_mul_ediv_right _ _ (by omega)]
    have m := Int.ediv_le_self (a := L + 1 - k) k (by omega)
    have p := Int.ediv_nonneg (a := L + 1 - k) (b := k) (by omega) (by omega)
    split <;> omega
/-- the greatest reach of n replacements up to g -/
def gr (g : Int) : Nat → Int
  | 0 => 1
  | n + 1 => (gr g n + 3 - (if (gr g n + 3) / 2 < g then (gr g n + 3) / 2 else g)) * (if (gr g n + 3) / 2 < g then (gr g n + 3) / 2 else g) - 2
theorem gr_step {r b g : Int} (hr : 1 ≤ r) (hg : 2 ≤ g) (g60 : g ≤ 60) (hb : b = if (r + 3) / 2 < g then (r + 3) / 2 else g) : 2 ≤ b ∧ b ≤ 60 ∧ 2 ≤ r + 3 - b ∧ 1 ≤ (r + 3 - b) * b - 2 ∧ (r + 3 - b) * b - 2 ≤ 256 * r := by
  have h1 : 2 ≤ b ∧ b ≤ 60 ∧ 2 ≤ r + 3 - b := by
    subst hb
    split <;> omega
  have h2 : 2 * 2 ≤ (r + 3 - b) * b := Int.mul_le_mul h1.2.2 h1.1 (by decide) (by omega)
  have h3 : (r + 3 - b) * b ≤ (r + 1) * 60 := Int.mul_le_mul (by omega) h1.2.1 (by omega) (by omega)
  omega
theorem gr_pos {g : Int} (hg : 2 ≤ g) (g60 : g ≤ 60) : ∀ n : Nat, 1 ≤ gr g n
  | 0 => Int.le_refl 1
  | n + 1 => (gr_step (gr_pos hg g60 n) hg g60 rfl).2.2.2.1
theorem gr_le {g : Int} (hg : 2 ≤ g) (g60 : g ≤ 60) : ∀ n : Nat, gr g n ≤ 256 ^ n
  | 0 => Int.le_refl 1
  | n + 1 => by
    have a := (gr_step (gr_pos hg g60 n) hg g60 rfl).2.2.2.2
    have b := gr_le hg g60 n
    have e : (256 : Int) ^ (n + 1) = 256 * 256 ^ n := by rw [Int.pow_succ, Int.mul_comm]
    show _ - 2 ≤ _
    rw [e]
    have c := Int.mul_le_mul_of_nonneg_left b (show (0 : Int) ≤ 256 by decide)
    exact Int.le_trans a c
theorem gr_sm {g : Int} (hg : 2 ≤ g) (g60 : g ≤ 60) {n : Nat} (hn : n ≤ 100) : Sm 1000 (gr g n) := by
  have a := gr_pos hg g60 n
  have b := gr_le hg g60 n
  have e : ((256 ^ n : Nat) : Int) = (256 : Int) ^ n := by
    induction n with
    | zero => rfl
    | succ n ih => rw [Nat.pow_succ, Int.pow_succ, Int.natCast_mul, ih (by omega) (gr_pos hg g60 n) (gr_le hg g60 n)]; rfl
  have f : 256 ^ n ≤ 256 ^ 100 := Nat.pow_le_pow_right (by decide) hn
  have k : 256 ^ 100 < 2 ^ 1000 := by decide +kernel
  unfold Sm
  omega
def grs (g : Int) (N : Nat) : List Int := (List.range (N + 1)).map (gr g)
theorem grs_len (g : Int) (N : Nat) : (grs g N).length = N + 1 := by simp [grs]
theorem grs_get {g : Int} {N n : Nat} (h : n ≤ N) : (grs g N)[n]? = some (gr g n) := by
  unfold grs
  rw [List.getElem?_map, List.getElem?_range (by omega)]
  rfl
theorem grs_succ (g : Int) (N : Nat) : grs g N ++ [gr g (N + 1)] = grs g (N + 1) := by
  unfold grs
  rw [List.range_succ (n := N + 1), List.map_append]
  rfl
/-- the number of lists, as it is counted -/
def cntC (g : Int) : Nat → Int → Int
  | 0, L => if L > 1 then 0 else 1
  | n + 1, L => if L > gr g (n + 1) then 0 else ((List.range (g - 1).toNat).map fun j => cntC g n (need (2 + (j : Nat)) L)).sum
theorem sum_bd {b : Int} : ∀ {l : List Int}, (∀ x ∈ l, 0 ≤ x ∧ x ≤ b) → 0 ≤ l.sum ∧ l.sum ≤ l.length * b
  | [], _ => by simp
  | x :: r, h => by
    have ih := sum_bd (l := r) fun y hy => h y (List.mem_cons_of_mem _ hy)
    have hx := h x (List.mem_cons_self ..)
    rw [List.sum_cons, List.length_cons, Int.natCast_add, Int.add_mul]
    omega
theorem cntC_bd {g : Int} (g60 : g ≤ 60) : ∀ (n : Nat) (L : Int), 0 ≤ cntC g n L ∧ cntC g n L ≤ 64 ^ n
  | 0, L => by
    unfold cntC
    split <;> simp
  | n + 1, L => by
    have ih := fun L => cntC_bd g60 n L
    have p : (0 : Int) ≤ 64 ^ n := by
      have := ih 0
      omega
    have e : (64 : Int) ^ (n + 1) = 64 ^ n * 64 := Int.pow_succ ..
    show 0 ≤ (if L > gr g (n + 1) then 0 else ((List.range (g - 1).toNat).map fun j => cntC g n (need (2 + (j : Nat)) L)).sum) ∧ (if L > gr g (n + 1) then 0 else ((List.range (g - 1).toNat).map fun j => cntC g n (need (2 + (j : Nat)) L)).sum) ≤ 64 ^ (n + 1)
    rw [e]
    split
    · omega
    · have s := sum_bd (b := 64 ^ n) (l := (List.range (g - 1).toNat).map fun j => cntC g n (need (2 + (j : Nat)) L)) fun x hx => by
        obtain ⟨j, _, rfl⟩ := List.mem_map.mp hx
        exact ih _
      rw [List.length_map, List.length_range] at s
      have l : (((g - 1).toNat : Nat) : Int) ≤ 64 := by omega
      have m := Int.mul_le_mul_of_nonneg_right l p
      rw [Int.mul_comm 64] at m
      omega
/-- the list with a number, as it is found -/
def nthG (c : Nat → Int) (t : Nat → Int → Option (List Int)) : List Nat → Int → Option (List Int)
  | [], _ => none
  | j :: r, x => if x < c j then (t j x).map fun s => (2 + (j : Nat) : Int) :: s else nthG c t r (x - c j)
def nthC (g : Int) : Nat → Int → Int → Option (List Int)
  | 0, _, _ => some []
  | n + 1, L, x => nthG (fun j => cntC g n (need (2 + (j : Nat)) L)) (fun j x => nthC g n (need (2 + (j : Nat)) L) x) (List.range (g - 1).toNat) x
theorem nthC_succ (g : Int) (n : Nat) (L x : Int) : nthC g (n + 1) L x = nthG (fun j => cntC g n (need (2 + (j : Nat)) L)) (fun j x => nthC g n (need (2 + (j : Nat)) L) x) (List.range (g - 1).toNat) x := rfl
theorem cntC_eq (g : Int) (n : Nat) (L : Int) : cntC g (n + 1) L = if L > gr g (n + 1) then 0 else ((List.range (g - 1).toNat).map fun j => cntC g n (need (2 + (j : Nat)) L)).sum := rfl
theorem cntC_succ {g : Int} {n : Nat} {L x : Int} (h0 : 0 ≤ x) (h : x < cntC g (n + 1) L) : cntC g (n + 1) L = ((List.range (g - 1).toNat).map fun j => cntC g n (need (2 + (j : Nat)) L)).sum := by
  rw [cntC_eq] at h ⊢
  split at h
  · omega
  · rename_i c
    rw [if_neg c]
theorem map_map_app {o : Option (List Int)} (fs : List Int) (k : Int) : ((o.map fun s => k :: s).map fun t => fs ++ t) = o.map fun t => (fs ++ [k]) ++ t := by
  cases o with
  | none => rfl
  | some t => simp
/-! ### what is kept -/
def keyC (n L : Int) : List Key := [.inl n, .inl L]
theorem keyC_v (n L : Int) : (keyC n L).map kV = [V.int n, V.int L] := rfl
/-- what is kept is right -/
def Memo (g : Int) (kvs : List (List Key × V)) : Prop := (kvs.map (·.1)).Nodup ∧ ∀ p ∈ kvs, ∃ (n L : Nat), n ≤ 8 ∧ L ≤ 20000 ∧ p = (keyC n L, .int (cntC g n L))
theorem memo_nil (g : Int) : Memo g [] := ⟨List.nodup_nil, fun p hp => nomatch hp⟩
theorem nodup_lt : ∀ (n : Nat) (l : List Nat), l.Nodup → (∀ x ∈ l, x < n) → l.length ≤ n
  | 0, l, _, h => by
    cases l with
    | nil => exact Nat.le_refl _
    | cons a r => exact absurd (h a (List.mem_cons_self ..)) (Nat.not_lt_zero _)
  | n + 1, l, nd, h => by
    have ih := nodup_lt n (l.filter (· ≠ n)) (nd.sublist List.filter_sublist) (fun x hx => by
      rw [List.mem_filter] at hx
      have := h x hx.1
      have := of_decide_eq_true hx.2
      omega)
    have c : (l.filter (· ≠ n)).length + (l.filter (· = n)).length = l.length := by
      clear ih nd h
      induction l with
      | nil => rfl
      | cons a r ih =>
        by_cases z : a = n
        · rw [List.filter_cons_of_neg (by simp [z]), List.filter_cons_of_pos (by simp [z]), List.length_cons, List.length_cons]
          omega
        · rw [List.filter_cons_of_pos (by simp [z]), List.filter_cons_of_neg (by simp [z]), List.length_cons, List.length_cons]
          omega
    have d : (l.filter (· = n)).length ≤ 1 := by
      have nd2 : (l.filter (· = n)).Nodup := nd.sublist List.filter_sublist
      cases e : l.filter (· = n) with
      | nil => exact Nat.zero_le _
      | cons a r =>
        rw [e] at nd2
        cases r with
        | nil => exact Nat.le_refl _
        | cons b r =>
          have ha : a ∈ l.filter (· = n) := by rw [e]; simp
          have hb : b ∈ l.filter (· = n) := by rw [e]; simp
          rw [List.mem_filter] at ha hb
          have ea := of_decide_eq_true ha.2
          have eb := of_decide_eq_true hb.2
          rw [List.nodup_cons] at nd2
          exact absurd (by rw [ea, eb]; simp) nd2.1
    omega
theorem Memo.len {g : Int} {kvs : List (List Key × V)} (h : Memo g kvs) : kvs.length < sizeLine := by
  let code : List Key × V → Nat := fun p => match p.1 with | [.inl n, .inl L] => n.toNat * 20001 + L.toNat | _ => 0
  have inj : (kvs.map code).Nodup := by
    have nd := h.1
    have ok := h.2
    clear h
    induction kvs with
    | nil => exact List.nodup_nil
    | cons p r ih =>
      rw [List.map_cons, List.nodup_cons] at nd ⊢
      refine ⟨fun hm => ?_, ih nd.2 fun q hq => ok q (List.mem_cons_of_mem _ hq)⟩
      obtain ⟨q, hq, e⟩ := List.mem_map.mp hm
      obtain ⟨n, L, n8, L2, rfl⟩ := ok p (List.mem_cons_self ..)
      obtain ⟨n', L', n8', L2', rfl⟩ := ok q (List.mem_cons_of_mem _ hq)
      have e : ((n' : Int)).toNat * 20001 + ((L' : Int)).toNat = ((n : Int)).toNat * 20001 + ((L : Int)).toNat := e
      rw [Int.toNat_natCast, Int.toNat_natCast, Int.toNat_natCast, Int.toNat_natCast] at e
      have e1 : n' = n := by omega
      have e2 : L' = L := by omega
      subst e1
      subst e2
      exact nd.1 (List.mem_map.mpr ⟨_, hq, rfl⟩)
  have := nodup_lt 200000 (kvs.map code) inj fun x hx => by
    obtain ⟨p, hp, rfl⟩ := List.mem_map.mp hx
    obtain ⟨n, L, n8, L2, rfl⟩ := h.2 p hp
    show ((n : Int)).toNat * 20001 + ((L : Int)).toNat < _
    rw [Int.toNat_natCast, Int.toNat_natCast]
    omega
  rw [List.length_map] at this
  rw [sizeLine_eq]
  omega
theorem Memo.get {g : Int} {kvs : List (List Key × V)} (h : Memo g kvs) {n L : Nat} {v : V} (e : valV kvs (keyC n L) = some v) : v = .int (cntC g n L) := by
  unfold valV at e
  obtain ⟨p, hp, rfl⟩ := Option.map_eq_some_iff.mp e
  obtain ⟨n', L', _, _, rfl⟩ := h.2 p (List.mem_of_find?_eq_some hp)
  have k : keyC n' L' = keyC n L := by
    have z := List.find?_some hp
    simpa using z
  unfold keyC at k
  injection k with k1 k2
  injection k2 with k2 _
  injection k1 with k1
  injection k2 with k2
  have e1 : n' = n := by omega
  have e2 : L' = L := by omega
  rw [e1, e2]
theorem Memo.put {g : Int} {kvs : List (List Key × V)} (h : Memo g kvs) {n L : Nat} (n8 : n ≤ 8) (l2 : L ≤ 20000) : Memo g (putK kvs (keyC n L) (.int (cntC g n L))) ∧ valV (putK kvs (keyC n L) (.int (cntC g n L))) (keyC n L) = some (.int (cntC g n L)) := by
  unfold putK
  split
  · rename_i z
    have em : kvs.map (fun kv => if kv.1 = keyC n L then (kv.1, V.int (cntC g n L)) else kv) = kvs := by
      conv => rhs; rw [← List.map_id kvs]
      refine List.map_congr_left fun p hp => ?_
      split
      · rename_i k
        obtain ⟨n', L', _, _, rfl⟩ := h.2 p hp
        unfold keyC at k
        injection k with k1 k2
        injection k2 with k2 _
        injection k1 with k1
        injection k2 with k2
        have e1 : n' = n := by omega
        have e2 : L' = L := by omega
        rw [e1, e2]
        rfl
      · rfl
    rw [em]
    refine ⟨h, ?_⟩
    have a := valV_any (keyC n L) kvs
    rw [z] at a
    obtain ⟨v, hv⟩ := Option.isSome_iff_exists.mp a.symm
    rw [hv, h.get hv]
  · rename_i z
    have na : ∀ p ∈ kvs, p.1 ≠ keyC n L := fun p hp e => z (by
      rw [List.any_eq_true]
      exact ⟨p, hp, decide_eq_true e⟩)
    refine ⟨⟨?_, fun p hp => ?_⟩, ?_⟩
    · rw [List.map_append, List.nodup_append]
      refine ⟨h.1, by simp, fun a ha b hb e => ?_⟩
      obtain ⟨p, hp, rfl⟩ := List.mem_map.mp ha
      rw [List.map_cons, List.map_nil, List.mem_singleton] at hb
      exact na p hp (e.trans hb)
    · rcases List.mem_append.mp hp with y | y
      · exact h.2 p y
      · exact ⟨n, L, n8, l2, List.mem_singleton.mp y⟩
    · unfold valV
      rw [List.find?_append, List.find?_eq_none.mpr fun p hp => by simpa using na p hp]
      simp
end Sq


set_option Elab.async false
set_option maxRecDepth 100000
set_option maxHeartbeats 4000000
namespace Sq
open PySem PySem.Spec PyProof.Rows L2
/-! ## isinstance of a kept exception, with a tuple of classes -/
def rIsXT (K : PySem.W.Frag) : List V → Hp → VK → Prop := fun xs H Q => ∃ (a C : Addr) (fs : List (Str × V)) (tp : Addr) (cs : List V) (ws : List Value) (b : Bool), xs = [.ref a, .ref tp] ∧ Kept H a C fs ∧ ExcC K C ∧ H tp = some (.tup cs) ∧ Paired ClsV cs ws ∧ PySem.W.kitAny K (.ref C) ws = some b ∧ Q (.bl b) H
theorem call_isXT {X : Cx} {K : PySem.W.Frag} (h : X.K = K := by rfl) : CallR X (.builtin "isinstance") (rIsXT K) := by
  subst h
  intro pins s σ H xs us Q I r h
  obtain ⟨a, C, fs, tp, cs, ws, b, rfl, k, EC, hT, hc, e, q⟩ := h
  obtain ⟨oe, od, d, mA, J, _⟩ := kept_at I k
  obtain ⟨u0, u1, rfl, r0, r1⟩ := vals2 r
  obtain rfl : u0 = Value.ref a := r0
  obtain rfl : u1 = Value.ref tp := r1
  obtain ⟨_, its, rv, o, h1, h2, n, h3⟩ := (show ObjOk X.prog X.w H s.heap tp (.tup cs) from I.hok tp _ hT)
  have e3 := ClsV.all hc rv
  subst e3
  obtain ⟨oc, od2, dt, sl⟩ := o
  simp only at h2 h3
  subst h2 h3
  obtain ⟨cd, hcd, _⟩ := PySem.W.any_some EC.hd
  exact PySem.W.kia_tup (PySem.W.kitx_exc (by rw [hcd]; rfl) EC.hg EC.hk EC.hs EC.ha EC.hn EC.ht EC.hm) I.kIn J h1 e (fun z => nomatch z) fun tk => ⟨.bl b, H, I.kept (t' := tk) fun _ _ z => z, rfl, q⟩
/-! ## a def that may raise, called by place and by keywords -/
structure Def2X (P : Program) (w : World) (K : PySem.W.Frag) (mg : Str → Option Value) (base : Heap) (k : Nat) (x : Str) (st : Stmt) (ps : List Str) (sp : Sp) : Prop where
  ex : ∃ (f : Addr) (fd : FuncData), Fun K x x st f fd ∧ mg x = some (.ref f) ∧ Binds K fd ps [] ∧ FnOk P w K mg base (L2.CX P w) k f fd ps sp
section
variable {P : Program} {w : World} {K : PySem.W.Frag} {mg : Str → Option Value} {base : Heap} {x : Str} {st : Stmt} {ps N : List Str} {k : Nat} {sp sp' : Sp}
theorem DefAt.twoX (D : DefAt K mg x st ps) (S : FnScope N ps (defScope st)) (len : ∀ vs H Q E, sp vs H Q E → vs.length = ps.length)
    (hb : ∀ (f : Addr) (cdv : Value) (A : Around) (outer : List Env) (s : Shared) (H : Hp) (vs : List V) (Q : VK) (E : XK), Room k (A.deeper (envOfC x (defScope st) s.heap.objs.size f cdv)) → sp vs H Q E →
      (Takes (cxOf (L2.CX P w) P w K mg base N x (defScope st) f cdv A outer s H E) fun cls d _ G => E cls d G) →
      ∃ t, PSs (cxOf (L2.CX P w) P w K mg base N x (defScope st) f cdv A outer s H E) (defBody st) t ∧ t { nx := fun _ H' => Q .non H', rt := Q } (start N vs) H) : Def2X P w K mg base (k + 1) x st ps sp := by
  obtain ⟨f, fd, F, hm, b⟩ := D.ex
  exact ⟨f, fd, F, hm, b, F.okX S len fun cdv A outer s H vs Q E hr hsp => hb f cdv A outer s H vs Q E hr hsp (takes_of rfl rfl rfl rfl)⟩
theorem Def2X.calX (D : Def2X P w K mg base k x st ps sp) : CalX P w K mg base k x sp := by
  obtain ⟨f, fd, F, hm, b, ok⟩ := D.ex
  exact ⟨f, fd, ps, ok, hm, F.kp, b⟩
theorem Def2X.calm (D : Def2X P w K mg base k x st ps sp) (h : ∀ vs H Q E, sp' vs H Q E → sp vs H Q E0) : Def2 P w K mg base k x st ps sp' := by
  obtain ⟨f, fd, F, hm, b, ok⟩ := D.ex
  exact ⟨f, fd, F, hm, b, fn_calm ok h⟩
end
end Sq


set_option Elab.async false
set_option maxRecDepth 100000
set_option maxHeartbeats 4000000
namespace Sq
open PySem PySem.Spec PyProof.Rows L2
/-! ## the lists that are counted -/
theorem need_iff {R k L : Int} (hR : 1 ≤ R) (hk : 2 ≤ k) (hL : 0 ≤ L) : L ≤ rb R k ↔ need k L ≤ R := by
  unfold need
  by_cases c : k > L + 1
  · rw [if_pos c]
    constructor
    · intro h
      unfold rb at h
      split at h
      · exact h
      · omega
    · intro h
      exact Int.le_trans h (rb_pos hR hk)
  · rw [if_neg c]
    have hk0 : 0 < k := by omega
    -- L + 1 + k <= k * (R + 3 - k) + (k - 1)
    have key : (L + 1 + k) / k + k - 3 ≤ R ↔ L ≤ (R + 3 - k) * k - 2 := by
      have e : (L + 1 + k) / k ≤ R + 3 - k ↔ L + 1 + k < (R + 3 - k + 1) * k := by
        rw [← Int.ediv_lt_iff_lt_mul hk0]
        omega
      have m : (R + 3 - k + 1) * k = (R + 3 - k) * k + k := by rw [Int.add_mul, Int.one_mul]
      omega
    unfold rb
    by_cases d : k > R + 1
    · rw [if_pos d]
      constructor
      · intro h
        omega
      · intro h
        split at h <;> omega
    · rw [if_neg d, ← key]
      split <;> omega
theorem rb_mono {R R' k : Int} (hR : 1 ≤ R) (h : R ≤ R') (hk : 2 ≤ k) : rb R k ≤ rb R' k := by
  by_cases c : k > R' + 1
  · unfold rb
    rw [if_pos c, if_pos (by omega)]
    exact h
  · by_cases d : k > R + 1
    · have := rb_pos (R := R') (k := k) (by omega) hk
      unfold rb at this ⊢
      rw [if_pos d]
      omega
    · unfold rb
      rw [if_neg c, if_neg d]
      have := Int.mul_le_mul_of_nonneg_right (show R + 3 - k ≤ R' + 3 - k by omega) (show 0 ≤ k by omega)
      omega
theorem rb_best {R k g b : Int} (hR : 1 ≤ R) (hk : 2 ≤ k) (kg : k ≤ g) (hg : 2 ≤ g) (hb : b = if (R + 3) / 2 < g then (R + 3) / 2 else g) : rb R k ≤ (R + 3 - b) * b - 2 := by
  have b2 : 2 ≤ b ∧ b ≤ R + 1 ∧ 2 * b ≤ R + 3 ∧ (b < k → R + 3 - 2 * b ≤ 1) := by
    subst hb
    split <;> omega
  have id : (R + 3 - b) * b - (R + 3 - k) * k = (b - k) * (R + 3 - b - k) := by
    simp only [Int.sub_mul, Int.mul_sub, Int.add_mul, Int.mul_add]
    have e1 : b * R = R * b := Int.mul_comm ..
    have e2 : k * R = R * k := Int.mul_comm ..
    have e3 : k * b = b * k := Int.mul_comm ..
    omega
  have sq : 0 ≤ (b - k) * (R + 3 - b - k) := by
    by_cases c : k ≤ b
    · exact Int.mul_nonneg (by omega) (by omega)
    · have := b2.2.2.2 (by omega)
      exact Int.mul_nonneg_of_nonpos_of_nonpos (by omega) (by omega)
  by_cases d : k > R + 1
  · have := rb_pos (R := R) (k := b) hR b2.1
    unfold rb at this ⊢
    rw [if_pos d]
    rw [if_neg (by omega)] at this
    exact this
  · unfold rb
    rw [if_neg d]
    omega
theorem flatMap_same {α β : Type} {f h : α → List β} : ∀ {l : List α}, (∀ x ∈ l, f x = h x) → l.flatMap f = l.flatMap h
  | [], _ => rfl
  | a :: r, e => by
    rw [List.flatMap_cons, List.flatMap_cons, e a (List.mem_cons_self ..), flatMap_same fun x hx => e x (List.mem_cons_of_mem _ hx)]
def ks (g : Int) : List Int := (List.range (g - 1).toNat).map fun j => 2 + (j : Nat)
theorem ks_mem {g k : Int} : k ∈ ks g ↔ 2 ≤ k ∧ k ≤ g := by
  unfold ks
  rw [List.mem_map]
  constructor
  · rintro ⟨j, hj, rfl⟩
    rw [List.mem_range] at hj
    omega
  · intro h
    exact ⟨(k - 2).toNat, by rw [List.mem_range]; omega, by omega⟩
/-- all lists, as they are made: one number behind -/
def allL (g : Int) : Nat → List (List Int)
  | 0 => [[]]
  | n + 1 => (allL g n).flatMap fun one => (ks g).map fun k => one ++ [k]
theorem allL_front (g : Int) : ∀ n : Nat, allL g (n + 1) = (ks g).flatMap fun k => (allL g n).map fun r => k :: r
  | 0 => by
    have : ∀ l : List Int, (l.map fun k => [k]) = l.flatMap fun k => [[k]] := fun l => by
      induction l with
      | nil => rfl
      | cons a r ih =>
        rw [List.map_cons, ih]
        rfl
    show ((ks g).map fun k => [k]) ++ [] = (ks g).flatMap fun k => [[k]]
    rw [List.append_nil, this]
  | n + 1 => by
    have ih := allL_front g n
    show (allL g (n + 1)).flatMap _ = _
    conv => lhs; rw [ih]
    rw [List.flatMap_assoc]
    congr 1
    funext k
    show ((allL g n).map fun r => k :: r).flatMap _ = ((allL g n).flatMap _).map _
    rw [List.flatMap_map, List.map_flatMap]
    congr 1
    funext r
    rw [List.map_map]
    rfl
theorem allL_mem {g : Int} : ∀ {n : Nat} {ns : List Int}, ns ∈ allL g n → ns.length = n ∧ ∀ k ∈ ns, 2 ≤ k ∧ k ≤ g
  | 0, ns, h => by
    rw [List.mem_singleton.mp h]
    exact ⟨rfl, fun k hk => nomatch hk⟩
  | n + 1, ns, h => by
    obtain ⟨one, ho, hm⟩ := List.mem_flatMap.mp h
    obtain ⟨k, hk, rfl⟩ := List.mem_map.mp hm
    obtain ⟨a, b⟩ := allL_mem ho
    refine ⟨by simp [a], fun j hj => ?_⟩
    rcases List.mem_append.mp hj with z | z
    · exact b j z
    · rw [List.mem_singleton.mp z]
      exact ks_mem.mp hk
theorem reach_gr {g : Int} (hg : 2 ≤ g) (g60 : g ≤ 60) : ∀ {n : Nat} {ns : List Int}, ns.length = n → (∀ k ∈ ns, 2 ≤ k ∧ k ≤ g) → reachOf ns 1 ≤ gr g n
  | 0, ns, h, _ => by
    rw [List.eq_nil_of_length_eq_zero h]
    exact Int.le_refl 1
  | n + 1, [], h, _ => by cases h
  | n + 1, k :: r, h, hk => by
    have ih := reach_gr hg g60 (n := n) (ns := r) (by simpa using h) fun j hj => hk j (List.mem_cons_of_mem _ hj)
    have kk := hk k (List.mem_cons_self ..)
    have tr : Two r := fun j hj => (hk j (List.mem_cons_of_mem _ hj)).1
    have r1 := reach_pos (m := 1) (by decide) tr
    show rb (reachOf r 1) k ≤ _
    exact Int.le_trans (rb_mono r1 ih kk.1) (rb_best (gr_pos hg g60 n) kk.1 kk.2 hg rfl)
/-- the lists that reach a length -/
def dueL (g : Int) (n : Nat) (L : Int) : List (List Int) := (allL g n).filter fun ns => decide (L ≤ reachOf ns 1)
theorem dueL_zero (g L : Int) : dueL g 0 L = if L ≤ 1 then [[]] else [] := by
  unfold dueL allL
  by_cases c : L ≤ 1
  · rw [if_pos c, List.filter_cons_of_pos (by exact decide_eq_true c)]
    rfl
  · rw [if_neg c, List.filter_cons_of_neg (by
      rw [decide_eq_true_eq]
      exact c)]
    rfl
theorem dueL_succ {g : Int} {n : Nat} {L : Int} (hL : 0 ≤ L) : dueL g (n + 1) L = (ks g).flatMap fun k => (dueL g n (need k L)).map fun r => k :: r := by
  unfold dueL
  rw [allL_front, List.filter_flatMap]
  refine flatMap_same fun k hk => ?_
  rw [List.filter_map]
  refine congrArg _ (List.filter_congr fun r hr => ?_)
  have k2 := ks_mem.mp hk
  obtain ⟨_, b⟩ := allL_mem hr
  have r1 := reach_pos (m := 1) (row := r) (by decide) fun j hj => (b j hj).1
  show decide (L ≤ rb (reachOf r 1) k) = decide (need k L ≤ reachOf r 1)
  exact decide_eq_decide.mpr (need_iff r1 k2.1 hL)
theorem dueL_cut {g : Int} (hg : 2 ≤ g) (g60 : g ≤ 60) {n : Nat} {L : Int} (h : L > gr g n) : dueL g n L = [] := by
  unfold dueL
  rw [List.filter_eq_nil_iff]
  intro ns hns
  obtain ⟨a, b⟩ := allL_mem hns
  have := reach_gr hg g60 a b
  rw [decide_eq_true_eq]
  omega
theorem cnt_due {g : Int} (hg : 2 ≤ g) (g60 : g ≤ 60) : ∀ {n : Nat} {L : Int}, 0 ≤ L → cntC g n L = (dueL g n L).length
  | 0, L, hL => by
    rw [dueL_zero]
    show (if L > 1 then (0 : Int) else 1) = _
    by_cases c : L ≤ 1
    · rw [if_neg (by omega), if_pos c]
      rfl
    · rw [if_pos (by omega), if_neg c]
      rfl
  | n + 1, L, hL => by
    rw [cntC_eq]
    by_cases c : L > gr g (n + 1)
    · rw [if_pos c, dueL_cut hg g60 c]
      rfl
    · rw [if_neg c, dueL_succ hL]
      unfold ks
      rw [List.flatMap_map]
      generalize (g - 1).toNat = m
      have : ∀ l : List Nat, (l.map fun j => cntC g n (need (2 + (j : Nat)) L)).sum = ((l.flatMap fun j => (dueL g n (need (2 + (j : Nat)) L)).map fun r => (2 + (j : Nat) : Int) :: r).length : Nat) := by
        intro l
        induction l with
        | nil => rfl
        | cons j r ih =>
          rw [List.map_cons, List.sum_cons, ih, List.flatMap_cons, List.length_append, List.length_map, cnt_due hg g60 (need_bd (k := 2 + (j : Nat)) (by omega) hL).1, Int.natCast_add]
      exact this _
theorem nth_due {g : Int} (hg : 2 ≤ g) (g60 : g ≤ 60) : ∀ {n : Nat} {L x : Int}, 0 ≤ L → 0 ≤ x → x < cntC g n L → nthC g n L x = (dueL g n L)[x.toNat]?
  | 0, L, x, hL, h0, hx => by
    have hx : x < (if L > 1 then (0 : Int) else 1) := hx
    rw [dueL_zero]
    by_cases c : L ≤ 1
    · rw [if_neg (by omega)] at hx
      rw [if_pos c, show x = 0 by omega]
      rfl
    · rw [if_pos (by omega)] at hx
      omega
  | n + 1, L, x, hL, h0, hx => by
    rw [nthC_succ, dueL_succ hL]
    have e := cntC_succ h0 hx
    rw [e] at hx
    unfold ks
    rw [List.flatMap_map]
    clear e
    generalize (List.range (g - 1).toNat) = l at hx
    induction l generalizing x with
    | nil =>
      simp at hx
      omega
    | cons j r ih =>
      have nb := need_bd (k := 2 + ((j : Nat) : Int)) (L := L) (by omega) hL
      have cd := cnt_due hg g60 (n := n) nb.1
      rw [List.map_cons, List.sum_cons] at hx
      rw [List.flatMap_cons]
      show (if x < cntC g n (need (2 + (j : Nat)) L) then _ else _) = _
      by_cases c : x < cntC g n (need (2 + (j : Nat)) L)
      · rw [if_pos c]
        show Option.map _ (nthC g n (need (2 + (j : Nat)) L) x) = _
        rw [nth_due hg g60 nb.1 h0 c, List.getElem?_append_left (by rw [List.length_map]; omega), List.getElem?_map]
      · rw [if_neg c, ih (x - cntC g n (need (2 + (j : Nat)) L)) (by omega) (by omega), List.getElem?_append_right (by rw [List.length_map]; omega), List.length_map]
        congr 1
        omega
end Sq


set_option Elab.async false
set_option maxRecDepth 100000
set_option maxHeartbeats 4000000
namespace Sq
open PySem PySem.Spec PyProof.Rows L2
/-! ## lists of lists of ints in the heap -/
/-- at l: a list of lists, their numbers are rows; the lists are younger than G -/
def LL (G H : Hp) (l : Addr) (rows : List (List Int)) : Prop := ∃ ps : List Addr, H l = some (.lst (ps.map V.ref)) ∧ ps.length = rows.length ∧ (∀ p ∈ ps, p ≠ l ∧ G p = none) ∧ ∀ (i : Nat) (p : Addr) (ns : List Int), ps[i]? = some p → rows[i]? = some ns → H p = some (.lst (iv ns))
section
variable {G G' H H' : Hp} {l p : Addr} {rows rows2 : List (List Int)} {ns : List Int}
theorem LL.same (h : LL G H l rows) (s : Same H H') : LL G H' l rows := by
  obtain ⟨ps, a, b, c, d⟩ := h
  exact ⟨ps, s _ _ a, b, c, fun i p ns h1 h2 => s _ _ (d i p ns h1 h2)⟩
theorem LL.old (h : LL G' H l rows) (s : Same G G') : LL G H l rows := by
  obtain ⟨ps, a, b, c, d⟩ := h
  exact ⟨ps, a, b, fun p hp => ⟨(c p hp).1, s.free (c p hp).2⟩, d⟩
theorem LL.nil (h : H l = some (.lst [])) : LL G H l [] := ⟨[], h, rfl, (fun p hp => nomatch hp), fun i p ns h1 _ => by simp at h1⟩
/-- behind a store to another object -/
theorem LL.put {o : Addr} {u u' : HO} (h : LL G H l rows) (ho : G o = some u) (ne : o ≠ l) : LL G (upd H o u') l rows := by
  obtain ⟨ps, a, b, c, d⟩ := h
  refine ⟨ps, upd_off (Ne.symm ne) a, b, c, fun i p ns h1 h2 => upd_off (fun z => ?_) (d i p ns h1 h2)⟩
  have := (c p (List.mem_of_getElem? h1)).2
  rw [z, ho] at this
  cases this
theorem LL.get (h : LL G H l rows) {i : Nat} (e : rows[i]? = some ns) : ∃ p xs, H l = some (.lst xs) ∧ xs[i]? = some (.ref p) ∧ xs.length = rows.length ∧ H p = some (.lst (iv ns)) ∧ p ≠ l ∧ G p = none := by
  obtain ⟨ps, a, b, c, d⟩ := h
  have lt : i < ps.length := by
    rw [b]
    exact (List.getElem?_eq_some_iff.mp e).1
  have ep := List.getElem?_eq_getElem lt
  have cp := c _ (List.mem_of_getElem? ep)
  exact ⟨ps[i], ps.map V.ref, a, by rw [List.getElem?_map, ep]; rfl, by rw [List.length_map]; exact b, d i _ ns ep e, cp.1, cp.2⟩
theorem LL.len (h : LL G H l rows) : ∃ xs, H l = some (.lst xs) ∧ xs.length = rows.length := by
  obtain ⟨ps, a, b, _⟩ := h
  exact ⟨_, a, by rw [List.length_map]; exact b⟩
/-- one list more -/
theorem LL.snoc (h : LL G H l rows) (hp : H p = some (.lst (iv ns))) (np : p ≠ l) (gp : G p = none) : ∃ xs, H l = some (.lst xs) ∧ xs.length = rows.length ∧ LL G (upd H l (.lst (xs ++ [.ref p]))) l (rows ++ [ns]) := by
  obtain ⟨ps, a, b, c, d⟩ := h
  refine ⟨ps.map V.ref, a, by rw [List.length_map]; exact b, ps ++ [p], by rw [upd_same]; simp, by simp [b], fun q hq => ?_, fun i q ms h1 h2 => ?_⟩
  · rcases List.mem_append.mp hq with z | z
    · exact c q z
    · rw [List.mem_singleton.mp z]
      exact ⟨np, gp⟩
  · by_cases lt : i < ps.length
    · rw [List.getElem?_append_left lt] at h1
      rw [List.getElem?_append_left (by omega)] at h2
      exact upd_off (c q (List.mem_of_getElem? h1)).1 (d i q ms h1 h2)
    · rw [List.getElem?_append_right (by omega)] at h1
      rw [List.getElem?_append_right (by omega), ← b] at h2
      cases e : i - ps.length with
      | zero =>
        rw [e] at h1 h2
        have e1 : p = q := by simpa using h1
        have e2 : ns = ms := by simpa using h2
        rw [← e1, ← e2]
        exact upd_off np hp
      | succ k =>
        rw [e] at h1
        simp at h1
/-- the lists of another list behind it -/
theorem LL.ext {G2 : Hp} {d : Addr} {u : HO} (h : LL G H l rows) (h2 : LL G2 H d rows2) (s : Same G G2) (hl : G2 l = some u) : ∃ xs ys, H l = some (.lst xs) ∧ xs.length = rows.length ∧ H d = some (.lst ys) ∧ ys.length = rows2.length ∧ LL G (upd H l (.lst (xs ++ ys))) l (rows ++ rows2) := by
  obtain ⟨ps, a, b, c, e⟩ := h
  obtain ⟨qs, a2, b2, c2, e2⟩ := h2
  have nq : ∀ q ∈ qs, q ≠ l := fun q hq z => by
    have := (c2 q hq).2
    rw [z, hl] at this
    cases this
  refine ⟨ps.map V.ref, qs.map V.ref, a, by rw [List.length_map]; exact b, a2, by rw [List.length_map]; exact b2, ps ++ qs, by rw [upd_same]; simp, by simp [b, b2], fun q hq => ?_, fun i q ms h1 h2 => ?_⟩
  · rcases List.mem_append.mp hq with z | z
    · exact c q z
    · skip
      exact ⟨nq q z, s.free (c2 q z).2⟩
  · by_cases lt : i < ps.length
    · rw [List.getElem?_append_left lt] at h1
      rw [List.getElem?_append_left (by omega)] at h2
      exact upd_off (c q (List.mem_of_getElem? h1)).1 (e i q ms h1 h2)
    · rw [List.getElem?_append_right (by omega)] at h1
      rw [List.getElem?_append_right (by omega), ← b] at h2
      exact upd_off (nq q (List.mem_of_getElem? h1)) (e2 _ q ms h1 h2)
end
/-- all but the source is quiet from now on -/
theorem Sep.full {R : Rg} {G H : Hp} (s : Sep R G H) : ∃ G', Same G G' ∧ Sep R G' H ∧ ∀ a, ¬ R.S a → G' a = H a := by
  classical
  refine ⟨fun a => if R.S a then none else H a, fun b o e => ?_, ⟨s.inv, fun b o e => ?_, fun a ha => if_pos ha⟩, fun a ha => if_neg ha⟩
  · have nb : ¬ R.S b := fun z => by
      have := s.off b z
      rw [e] at this
      cases this
    show (if R.S b then none else H b) = some o
    rw [if_neg nb]
    exact s.same b o e
  · have e : (if R.S b then none else H b) = some o := e
    split at e
    · cases e
    · exact e
theorem LL.move {R : Rg} {G G' J J' : Hp} {l : Addr} {rows : List (List Int)} (h : LL J J' l rows) (hl : J l = none) (s : Sep R G J) (e : ∀ a, ¬ R.S a → G' a = J' a) : LL G G' l rows := by
  have ns : ∀ a, J a = none → ¬ R.S a := fun a ha z => R.has J a s.inv z ha
  obtain ⟨ps, a, b, c, d⟩ := h
  refine ⟨ps, by rw [e l (ns l hl)]; exact a, b, fun p hp => ⟨(c p hp).1, s.free (c p hp).2⟩, fun i p r h1 h2 => ?_⟩
  rw [e p (ns p (c p (List.mem_of_getElem? h1)).2)]
  exact d i p r h1 h2
open Classical in
/-- where the source stands -/
noncomputable def srcH (R : Rg) : Hp := fun a => if R.S a then some (.lst []) else none
theorem srcH_none {R : Rg} {a : Addr} : srcH R a = none ↔ ¬ R.S a := by
  unfold srcH
  split
  · rename_i c
    exact ⟨(fun z => nomatch z), (fun z => absurd c z)⟩
  · rename_i c
    exact ⟨fun _ => c, fun _ => rfl⟩
theorem LL.into {R : Rg} {G' J' : Hp} {l : Addr} {rows : List (List Int)} (h : LL (srcH R) J' l rows) (hl : ¬ R.S l) (e : ∀ a, ¬ R.S a → G' a = J' a) : LL (srcH R) G' l rows := by
  obtain ⟨ps, a, b, c, d⟩ := h
  refine ⟨ps, by rw [e l hl]; exact a, b, c, fun i p r h1 h2 => ?_⟩
  rw [e p (srcH_none.mp (c p (List.mem_of_getElem? h1)).2)]
  exact d i p r h1 h2
theorem Sep.src {R : Rg} {G H : Hp} {a : Addr} {o : HO} (s : Sep R G H) (h : G a = some o) : srcH R a = none := srcH_none.mpr fun z => by
  have := s.off a z
  rw [h] at this
  cases this
theorem Sep.srcN {R : Rg} {G H : Hp} {a : Addr} (s : Sep R G H) (h : H a = none) : ¬ R.S a := fun z => R.has H a s.inv z h
end Sq


set_option Elab.async false
set_option maxRecDepth 100000
set_option maxHeartbeats 4000000
namespace Sq
open PySem PySem.Spec PyProof.Rows L2
/-! ## reaches step by step -/
theorem rb_SmC {a b : Nat} {R k : Int} (hR : Sm a R) (hk : Sm b k) (hb : 10 ≤ b) (hk2 : 2 ≤ k) (hR1 : 1 ≤ R) : Sm (a + b) (rb R k) := by
  unfold rb
  split
  · exact hR.mono (by omega)
  · rename_i c
    have h1 : 0 ≤ (R + 3 - k) * k - 2 := by
      have := Int.mul_le_mul (show (2 : Int) ≤ R + 3 - k by omega) hk2 (by decide) (by omega)
      omega
    have h2 : (R + 3 - k) * k - 2 ≤ (R + 1) * k := by
      have := Int.mul_le_mul_of_nonneg_right (show R + 3 - k ≤ R + 1 by omega) (show 0 ≤ k by omega)
      omega
    unfold Sm at *
    have e1 : (R + 1).natAbs ≤ 2 ^ a := by omega
    have e2 : ((R + 1) * k).natAbs < 2 ^ (a + b) := by
      rw [Int.natAbs_mul, Nat.pow_add]
      calc (R + 1).natAbs * k.natAbs ≤ 2 ^ a * k.natAbs := Nat.mul_le_mul_right _ e1
        _ < 2 ^ a * 2 ^ b := Nat.mul_lt_mul_of_pos_left hk (Nat.pow_pos (by decide))
    omega
theorem foldr_take_revC {row : List Int} {m k : Int} {i : Nat} (h : row.reverse[i]? = some k) : (row.reverse.take (i + 1)).foldl rb m = rb ((row.reverse.take i).foldl rb m) k := by
  rw [List.take_add_one, h, List.foldl_append]
  rfl
theorem reachOf_revC (row : List Int) (m : Int) : row.reverse.foldl rb m = reachOf row m := by
  unfold reachOf
  rw [List.foldl_reverse]
theorem rbs_posC : ∀ {row : List Int} {m : Int}, 1 ≤ m → Two row → m ≤ row.foldl rb m
  | [], m, _, _ => Int.le_refl m
  | k :: r, m, h, t => by
    have p := rb_pos h (t k (List.mem_cons_self ..))
    exact Int.le_trans p (rbs_posC (row := r) (by omega) fun j hj => t j (List.mem_cons_of_mem _ hj))
theorem rbs_SmC : ∀ {row : List Int} {m : Int} {b c : Nat}, 1 ≤ m → Two row → (∀ k ∈ row, Sm b k) → Sm c m → 10 ≤ b → Sm (c + row.length * b) (row.foldl rb m)
  | [], m, b, c, _, _, _, h, _ => by simpa using h
  | k :: r, m, b, c, h1, t, hb, hc, h10 => by
    have hk := t k (List.mem_cons_self ..)
    have p := rb_pos h1 hk
    have ih := rbs_SmC (row := r) (m := rb m k) (b := b) (c := c + b) (by omega) (fun j hj => t j (List.mem_cons_of_mem _ hj)) (fun j hj => hb j (List.mem_cons_of_mem _ hj)) (rb_SmC hc (hb k (List.mem_cons_self ..)) h10 hk h1) h10
    have e : c + b + r.length * b = c + (k :: r).length * b := by
      rw [List.length_cons, Nat.add_mul]
      omega
    rw [e] at ih
    exact ih
theorem same_put {G H : Hp} {o : Addr} {u : HO} (s : Same G H) (n : G o = none) : Same G (upd H o u) := fun b x e => upd_off (fun z => by
  rw [z, n] at e
  cases e) (s b x e)
end Sq


set_option Elab.async false
set_option maxRecDepth 100000
set_option maxHeartbeats 4000000
namespace PySem.HandSPX
open PySem PySem.Spec PySem.W PySem.Calls PyProof.Rows
/-! ## an own exception made by a keyword: C(k = u) -/
section
variable {M : Model} {A : Around} {E : Value → Shared → Prop} {h : Heap} {g : Array GenState} {d : Drawn} {t : Nat} {os : OsState}
variable {nm q : Str} {C N : Addr} {bs bm bmB : List Value} {hdct : Bool} {sn : List Str} {sub : List Value} {ab : Bool} {col : Option Bool} {dd : Option Addr} {k0 k1 k2 k3 k5 : Option Value} {B newId initId : String}
theorem check_newK (F : ExcBaseFacts B newId initId bmB) (hT : ∀ X : String, bm.contains (.type X) = bmB.contains (.type X)) {ky : Str} {u : Value} {Q : Unit → Shared → Prop}
    (hC : h.get? C = some (excClassObj nm q C N bs bm hdct sn sub ab col dd k0 k1 k2 k3 k5 newId)) (hq : Q () ⟨h, g, d, t, os⟩) : wpAny M A (checkBuiltinCall newId ⟨[.ref C], [(ky, u)]⟩) Q E ⟨h, g, d, t, os⟩ := by
  have hcont : (Value.ref C :: bm).contains (.type B) = true := by rw [List.contains_cons, hT, F.hasB, Bool.or_true]
  have hstar := F.noStar
  simp only [checkBuiltinCall, F.newKind, F.newSplit, F.newRow]
  repeat (first | refine wpAny_loadPart_at hC ?_ | (refine wpAny_isSubtype_exc hC ?_; rw [hcont]) | refine wpAny_staticBase_exc hC ?_ | refine wpAny_madeBy_exc hC ?_ | simp only [bne_self_eq_false, Bool.false_eq_true, if_false] | wp_step)
  exact hq
end
section
variable {prog : Program} {w : World} {A : Around} {E : Value → Shared → Prop} {R : Result → Shared → Prop} {h : Heap} {g : Array GenState} {d : Drawn} {t : Nat} {os : OsState}
variable {nm q : Str} {C N : Addr} {bs bm bmB : List Value} {hdct : Bool} {sn : List Str} {sub : List Value} {ab : Bool} {col : Option Bool} {dd : Option Addr} {k0 k1 k2 k3 k5 : Option Value} {B newId initId : String}
theorem newK (F : ExcBaseFacts B newId initId bmB) (hT : ∀ X : String, bm.contains (.type X) = bmB.contains (.type X)) {ky : Str} {u : Value}
    (hC : h.get? C = some (excClassObj nm q C N bs bm hdct sn sub ab col dd k0 k1 k2 k3 k5 newId))
    (hq : R (.ok (.ret (.ref (h.objs.size + 1)))) ⟨(h.push { cls := .type "tuple", data := .seq ([] : List Value).toArray }).push
      { cls := .ref C, data := .fields #[.ref h.objs.size, .none, .none, .none, .bool false, .none] }, g, d, t, os⟩) :
    codeAny (model prog w) A (.builtin newId ⟨[.ref C], [(ky, u)]⟩) R ⟨h, g, d, t, os⟩ := by
  have hends := F.ends
  have hcB : (Value.ref C :: bm).contains (.type B) = true := by rw [List.contains_cons, hT, F.hasB, Bool.or_true]
  have hcA : (Value.ref C :: bm).contains (.type "AttributeError") = false := by rw [List.contains_cons, hT, F.noAttr]; rfl
  have hcN : (Value.ref C :: bm).contains (.type "NameError") = false := by rw [List.contains_cons, hT, F.noName]; rfl
  refine codeAny_builtinAt F.entry ?_
  unfold Builtin.«BaseException.__new__»
  refine wpAt_bind ?_
  show wpAt _ _ _ (stack >>= _) _ _ _
  refine wpAt_bind (wpAt_stack fun p below => wpAt_of_wpAny ?_)
  wp_walk
  refine wpAt_of_wpAny ?_
  rw [F.owner]
  repeat (first | with_reducible refine wpAny_madeHere_exc F.canon hC ?_ | with_reducible refine wpAny_loadPart_at hC ?_ | (with_reducible refine wpAny_isSubtype_exc hC ?_; first | rw [hcB] | rw [hcA] | rw [hcN]) | wp_step)
  show R _ _
  rw [Heap.size_push]
  exact hq
theorem type_callK (F : ExcBaseFacts B newId initId bmB) (hT : ∀ X : String, bm.contains (.type X) = bmB.contains (.type X)) {ky : Str} {u : Value} {fI : Addr} {Q : Fin → Shared → Prop}
    (hC : h.get? C = some (excClassObj nm q C N bs bm hdct sn sub ab col dd k0 k1 k2 k3 k5 newId))
    (hi : W.Looks (model prog w) h (typeLookup (.ref C) "__init__") (some (.ref fI))) (hb : ∀ self, W.Looks (model prog w) h (bindSpecial (.ref fI) self) (.ref fI, [self]))
    (hq : codeAny (model prog w) A (.call (.ref fI) ⟨[.ref (h.objs.size + 1)], [(ky, u)]⟩)
      (fun r s' => match r with | .ok (.ret v) => v = .none ∧ Q (.done (.ret (.ref (h.objs.size + 1)))) s' | .ok _ => False | .error e => E e s')
      ⟨(h.push (W.kdv_tup [])).push (excO C h.objs.size), g, d, t, os⟩) :
    wpAny (model prog w) A (Builtin.«type.__call__» ⟨[.ref C], [(ky, u)]⟩) Q E ⟨h, g, d, t, os⟩ := by
  repeat (first | with_reducible refine wpAny_loadPart_at hC ?_ | with_reducible refine wpAny_madeBy_exc hC ?_ | wp_step)
  refine codeAny_call_builtin_code (Code.quiet_builtin _ F.quiet) (check_newK F hT hC ?_)
  refine newK F hT hC ?_
  show wpAny _ _ _ _ _ _
  have k : ∀ b o, h.get? b = some o → ((h.push (W.kdv_tup [])).push (excO C h.objs.size)).get? b = some o := fun b o e => Heap.get?_push_of_some _ (Heap.get?_push_of_some _ e)
  have hC₁ := k _ _ hC
  have hget : ((h.push (W.kdv_tup [])).push (excO C h.objs.size)).get? (h.objs.size + 1) = some (excO C h.objs.size) := by heap_get
  have hcC : (Value.ref C :: bm).contains (.ref C) = true := by simp
  have i1 := hi.keeps k
  have b1 := (hb (.ref (h.objs.size + 1))).keeps k
  unfold isInstance
  repeat (first | with_reducible refine wpAny_loadPart_at hget ?_ | (with_reducible refine wpAny_isSubtype_exc hC₁ ?_; rw [hcC]) | wp_step)
  show wpAny _ _ (typeLookup (.ref C) _) _ _ _
  refine i1.at ?_
  refine wpAny_holding (wpAny_bind (b1.at ?_))
  refine wpAny_bind (wpAny_call (codeAny_mono hq fun r s' z => ?_))
  rcases r with e | (v | _ | _ | _) <;> first | exact z | exact z.elim | skip
  obtain ⟨rfl, z⟩ := z
  first
    | exact wpAny_pure (wpAny_pure z)
    | (wp_walk; exact z)
theorem call_ownK (F : ExcBaseFacts B newId initId bmB) (hT : ∀ X : String, bm.contains (.type X) = bmB.contains (.type X)) {ky : Str} {u : Value} {fI : Addr}
    (hC : h.get? C = some (excClassObj nm q C N bs bm hdct sn sub ab col dd k0 k1 k2 k3 k5 newId))
    (hi : W.Looks (model prog w) h (typeLookup (.ref C) "__init__") (some (.ref fI))) (hb : ∀ self, W.Looks (model prog w) h (bindSpecial (.ref fI) self) (.ref fI, [self]))
    (hq : codeAny (model prog w) (A.under (.builtin "type.__call__" ⟨[.ref C], [(ky, u)]⟩)) (.call (.ref fI) ⟨[.ref (h.objs.size + 1)], [(ky, u)]⟩) (W.InitBack (h.objs.size + 1) R)
      ⟨(h.push (W.kdv_tup [])).push (excO C h.objs.size), g, d, t, os⟩) :
    codeAny (model prog w) A (.call (.ref C) ⟨[], [(ky, u)]⟩) R ⟨h, g, d, t, os⟩ := by
  have f1 := tc_lookup
  have f2 := tc_bind (.ref C)
  have hTy : (⟨h, g, d, t, os⟩ : Shared).TypeIs (.ref C) "type" := ⟨_, hC, rfl⟩
  refine codeAny_of_tree ?_
  show wpAny _ _ (callAny (.ref C) _) _ _ _
  repeat (any_goals (first | assumption | with_reducible refine wpAny_loadPart_at hC ?_ | wp_step))
  refine ⟨rfl, ?_⟩
  refine codeAny_call_builtin_at (Code.quiet_builtin _ (by decide +kernel)) entry_typeCall (wpAny_check_type_call_sub hC (type_callK F hT hC hi hb ?_))
  refine codeAny_mono hq fun r s' z => ?_
  rcases r with e | (v | _ | _ | _) <;> exact z
end
end PySem.HandSPX

namespace Sq
open PySem PySem.Spec PyProof.Rows L2
/-! ## an own exception as a value: C(e), C(value = e) -/
structure OwnX (P : Program) (w : World) (K : PySem.W.Frag) (mg : Str → Option Value) (base : Heap) (k : Nat) (x : Str) (C : Addr) : Prop where
  ex : ∃ (f : Addr) (fd : FuncData), OexC K C ∧ PySem.W.findIn K (.ref C) "__init__" = some (some (.ref f)) ∧ PySem.W.typeIn K (.ref f) = some (.type "function") ∧ FnOk P w K mg base CX0 k f fd ["self", "value"] (spXI C) ∧ mg x = some (.ref C) ∧ L2.Binds K fd ["self", "value"] [] ∧
    ∀ (s : Shared) (u v : Value), BindsTo s fd ⟨[u], [("value", v)]⟩ ((["self", "value"] : List Str).zip [u, v])
def tOex (C : Addr) (te : TE) : TE := fun σ H Q => te σ H fun v H1 => ∀ a d, H1 a = none → H1 d = none → d ≠ a → Q (.ref a) (upd (upd H1 d (exd d [("value", v)])) a (exo a C (some d)))
theorem xi_sp {C a : Addr} {v : V} {H : Hp} {Q : VK} {E : XK} (na : H a = none) (q : ∀ a d, H a = none → H d = none → d ≠ a → Q (.ref a) (upd (upd H d (exd d [("value", v)])) a (exo a C (some d)))) :
    spXI C [.ref a, v] (upd H a (exo a C none)) (fun x H2 => x = .non ∧ Q (.ref a) H2) E := by
  refine ⟨a, v, rfl, upd_same, fun dx nd ne => ⟨rfl, ?_⟩⟩
  rw [upd_ne ne] at nd
  have e : upd (upd (upd H a (exo a C none)) dx (exd dx [("value", v)])) a (exo a C (some dx)) = upd (upd H dx (exd dx [("value", v)])) a (exo a C (some dx)) := by
    funext b
    by_cases h1 : b = a
    · rw [h1, upd_same, upd_same]
    · rw [upd_ne h1, upd_ne h1]
      by_cases h2 : b = dx
      · rw [h2, upd_same, upd_same]
      · rw [upd_ne h2, upd_ne h2, upd_ne h1]
  rw [e]
  exact q a dx na nd ne
section
variable {X : Cx} {k j : Nat} {C : Addr} {x : Str} {p pos : Pos} {e : Expr} {te : TE} {kws : List Keyword} {t : TA}
theorem pe_oex (c : OwnX X.prog X.w X.K X.mg X.base k x C) (hr : Room j X.A) (hk : k + 1 ≤ j) (hg : Gl X x) (ha : PE X e te)
    (hdb : (x == ("__debug__" : Str)) = false := by decide) (he : starEach [e] X.env = (false, eval e X.env) :: starEach [] X.env := by rfl) (hpl : (backTo pos (starEach [] X.env)).any (·.1) = false := by rfl) : PE X (.Call (.Name x p) [e] [] pos) (tOex C te) := by
  obtain ⟨f, fd, T, iC, tI, FO, hm, b, bk⟩ := c.ex
  obtain ⟨nm, q, N, bs, bm, sn, sub, ab, col, dd, k0, k1, k2, k3, k5, hC, hbm⟩ := T.cls
  refine ⟨fun pins s σ H Q I h => wpAny_Call_Name_kw (ld_glob I hg hm ?_ hdb)⟩
  have pa : PA X [e] (tCons (tWk te) tNil) := pa_cons (pe_wk ha) pa_nil he
  refine PySem.W.callWith_K (h₀ := X.base) I.ok.mod.kin T.kC (thn (pa.run pos pins s σ H (fun vs H1 => ∃ v, vs = [v] ∧ ∀ a d, H1 a = none → H1 d = none → d ≠ a → Q (.ref a) (upd (upd H1 d (exd d [("value", v)])) a (exo a C (some d)))) I ⟨_, h, fun v G q => ⟨v, rfl, q⟩⟩) fun us s1 hh => ?_) he hpl
  obtain ⟨vs, H1, I1, r1, v, rfl, q1⟩ := hh
  obtain ⟨u, rfl, ru⟩ := r1.one
  refine ⟨I1.kIn, ?_⟩
  show wpAny _ _ (call (.ref C) [u]) _ _ _
  obtain ⟨hp, g, dr, tk, os⟩ := s1
  have hsz : hp.objs.size ≤ hp.objs.size + 1 := Nat.le_succ _
  have hn : H1 (hp.objs.size + 1) = none := I1.hok.fresh hsz
  have kk : ∀ b o, hp.get? b = some o → ((hp.push (PySem.W.kdv_tup [u])).push (PySem.HandSPX.excO C hp.objs.size)).get? b = some o := fun b o e => Heap.get?_push_of_some _ (Heap.get?_push_of_some _ e)
  have hget : ((hp.push (PySem.W.kdv_tup [u])).push (PySem.HandSPX.excO C hp.objs.size)).get? (hp.objs.size + 1) = some (PySem.HandSPX.excO C hp.objs.size) := by heap_get
  have I2 : Inv X pins σ (upd H1 (hp.objs.size + 1) (exo (hp.objs.size + 1) C none)) ⟨(hp.push (PySem.W.kdv_tup [u])).push (PySem.HandSPX.excO C hp.objs.size), g, dr, tk, os⟩ :=
    I1.laid (t' := tk) (a := hp.objs.size + 1) (o := exo (hp.objs.size + 1) C none) (h' := (hp.push (PySem.W.kdv_tup [u])).push (PySem.HandSPX.excO C hp.objs.size)) kk hsz (exo_ok hget)
  have r2 : Vals [V.ref (hp.objs.size + 1), v] [Value.ref (hp.objs.size + 1), u] := .cons rfl (.cons ru .nil)
  have hq := xi_sp (E := E0) hn q1
  have bb := b _ [Value.ref (hp.objs.size + 1), u] I2.kIn rfl
  refine wpAny_call (PySem.HandSPX.call_own F.excBase_ValueError (fun Y => PySem.HandSPX.refsVE_contains Y bm hbm) (I1.kIn _ _ hC) (PySem.W.looks_findIn I1.kIn iC) (fun self => PySem.W.bind_fn I1.kIn self tI) (lit_len (Nat.le_of_ble_eq_true rfl))
    (codeAny_mono (FO.run _ X.stack _ _ ⟨[Value.ref (hp.objs.size + 1), u], []⟩ [Value.ref (hp.objs.size + 1), u] _ _ E0 ((hr.mono hk).make C [u] []) (I2.env0.make C [u] []) bb r2 hq) fun r s' hq' => ?_))
  cases r with
  | error er => exact False.elim hq'
  | ok fl =>
    cases fl with
    | ret u =>
      obtain ⟨v, H', I3, rv, ev, q3⟩ := I2.after hq'
      subst ev
      exact ⟨rv, ⟨V.ref (hp.objs.size + 1), H', I3, rfl, q3⟩⟩
    | next => exact False.elim hq'
    | brk => exact False.elim hq'
    | cont => exact False.elim hq'
theorem pe_oexK {kpos : Pos} (c : OwnX X.prog X.w X.K X.mg X.base k x C) (hr : Room j X.A) (hk : k + 1 ≤ j) (hg : Gl X x) (ha : PE X e te)
    (hall : (backToKw pos (keywordEach [⟨some "value", e, kpos⟩] X.env)).all (·.1.isSome) = true := by rfl) (hks : (backToKw pos (keywordEach [⟨some "value", e, kpos⟩] X.env)).filterMap (·.1) = (["value"] : List Str) := by rfl) (hdb : (x == ("__debug__" : Str)) = false := by decide)
    (hpl : ((backTo pos (starEach [] X.env)).any (·.1) || (backToKw pos (keywordEach [⟨some "value", e, kpos⟩] X.env)).any (·.1.isNone)) = false := by rfl) : PE X (.Call (.Name x p) [] [⟨some "value", e, kpos⟩] pos) (tOex C te) := by
  obtain ⟨f, fd, T, iC, tI, FO, hm, b, bk⟩ := c.ex
  obtain ⟨nm, q, N, bs, bm, sn, sub, ab, col, dd, k0, k1, k2, k3, k5, hC, hbm⟩ := T.cls
  have pk : PK X [⟨some "value", e, kpos⟩] (tCons (tWk te) tNil) := pk_cons (pe_wk ha) pk_nil
  refine ⟨fun pins s σ H Q I h => wpAny_Call_Name_kw (ld_glob I hg hm (PySem.W.callWith_KW0 (h₀ := X.base) I.ok.mod.kin T.kC hall (thn (pk.run pos pins s σ H (fun vs H1 => ∃ v, vs = [v] ∧ ∀ a d, H1 a = none → H1 d = none → d ≠ a → Q (.ref a) (upd (upd H1 d (exd d [("value", v)])) a (exo a C (some d)))) I ⟨_, h, fun v G q => ⟨v, rfl, q⟩⟩) fun us s1 hh => ?_) hpl) hdb)⟩
  obtain ⟨vs, H1, I1, r1, v, rfl, q1⟩ := hh
  obtain ⟨u, rfl, ru⟩ := r1.one
  refine ⟨I1.kIn, ?_⟩
  rw [hks]
  show wpAny _ _ (call (.ref C) [] [("value", u)]) _ _ _
  obtain ⟨hp, g, dr, tk, os⟩ := s1
  have hsz : hp.objs.size ≤ hp.objs.size + 1 := Nat.le_succ _
  have hn : H1 (hp.objs.size + 1) = none := I1.hok.fresh hsz
  have kk : ∀ b o, hp.get? b = some o → ((hp.push (PySem.W.kdv_tup [])).push (PySem.HandSPX.excO C hp.objs.size)).get? b = some o := fun b o e => Heap.get?_push_of_some _ (Heap.get?_push_of_some _ e)
  have hget : ((hp.push (PySem.W.kdv_tup [])).push (PySem.HandSPX.excO C hp.objs.size)).get? (hp.objs.size + 1) = some (PySem.HandSPX.excO C hp.objs.size) := by heap_get
  have I2 : Inv X pins σ (upd H1 (hp.objs.size + 1) (exo (hp.objs.size + 1) C none)) ⟨(hp.push (PySem.W.kdv_tup [])).push (PySem.HandSPX.excO C hp.objs.size), g, dr, tk, os⟩ :=
    I1.laid (t' := tk) (a := hp.objs.size + 1) (o := exo (hp.objs.size + 1) C none) (h' := (hp.push (PySem.W.kdv_tup [])).push (PySem.HandSPX.excO C hp.objs.size)) kk hsz (exo_ok hget)
  have r2 : Vals [V.ref (hp.objs.size + 1), v] [Value.ref (hp.objs.size + 1), u] := .cons rfl (.cons ru .nil)
  have hq := xi_sp (E := E0) hn q1
  refine wpAny_call (PySem.HandSPX.call_ownK F.excBase_ValueError (fun Y => PySem.HandSPX.refsVE_contains Y bm hbm) (I1.kIn _ _ hC) (PySem.W.looks_findIn I1.kIn iC) (fun self => PySem.W.bind_fn I1.kIn self tI)
    (codeAny_mono (FO.run _ X.stack _ _ ⟨[Value.ref (hp.objs.size + 1)], [("value", u)]⟩ [Value.ref (hp.objs.size + 1), u] _ _ E0 ((hr.mono hk).make C [] [("value", u)]) (I2.env0.make C [] [("value", u)]) (bk _ _ _) r2 hq) fun r s' hq' => ?_))
  cases r with
  | error er => exact False.elim hq'
  | ok fl =>
    cases fl with
    | ret u =>
      obtain ⟨v, H', I3, rv, ev, q3⟩ := I2.after hq'
      subst ev
      exact ⟨rv, ⟨V.ref (hp.objs.size + 1), H', I3, rfl, q3⟩⟩
    | next => exact False.elim hq'
    | brk => exact False.elim hq'
    | cont => exact False.elim hq'
end
theorem kept_own {H : Hp} {a C d : Addr} {v : V} (na : H a = none) (nd : H d = none) (ne : d ≠ a) : Kept (upd (upd H d (exd d [("value", v)])) a (exo a C (some d))) a C [("value", v)] := ⟨d, .inr ⟨upd_same, upd_off ne upd_same⟩⟩
theorem own_mk {P : Program} {w : World} {K : PySem.W.Frag} {h base : Heap} {mg : Str → Option Value} {x : Str} {C f cc cda N : Addr} {nm q qual m file : Str} {bs bm sub : List Value} {sn : List Str} {ab : Bool} {col : Option Bool} {dd cld cdd od an : Option Addr} {k0 k1 k2 k3 k5 : Option Value}
    {cl ccl oc kV doc pm ct : Value} {csl ccs osl : Array (Option Value)} {cvs : Array Value} {tf : Tok} {p0 p1 p2 p3 p4 p5 p6 p7 p8 p9 q0 q1 : Pos} (X : K.In h) (G : h.Ns mainGlobals mg) (hm : mg x = some (.ref C))
    (lC : K.lookup C = some (excClassObj nm q C N bs bm true sn sub ab col dd k0 k1 k2 k3 k5 "ValueError.__new__")) (rC : PySem.HandSPX.refsVE bm = true) (sa : PySem.W.findIn K (.ref C) "__setattr__" = some (some (.builtin "object.__setattr__")))
    (ex : PySem.W.subIn K (.ref C) (.type "BaseException") = some true) (ty : PySem.W.typeIn K (.ref C) = some (.type "type")) (kc : PySem.W.keepIn K (.ref C) = true)
    (ini : PySem.W.findIn K (.ref C) "__init__" = some (some (.ref f))) (tyf : PySem.W.typeIn K (.ref f) = some (.type "function"))
    (l : K.lookup f = some ⟨oc, od, .func (PySem.W.ksFn "__init__" qual (xiArgs q0 q1) (xiBody m p0 p1 p2 p3 p4 p5 p6 p7 p8 p9) xiScope .none kV doc pm an (.ref cda) ct cc), osl⟩)
    (co : PySem.W.codeIn K (.ref cda) qual = true) (cell : K.lookup cc = some ⟨cl, cld, .cell (some (.ref C)), csl⟩) (rec_ : K.lookup cda = some ⟨ccl, cdd, .fields cvs, ccs⟩) (v2 : cvs[2]? = some (.str file tf)) (fl : ((P.main.file : Str) == file) = true)
    (top : (P.main.scope.names.lookup ("super" : Str)).isSome = false) (opq : PySem.W.nsIn K PySem.cStatics "thirdparty.any" = some none) (sup : PySem.W.ks_superIn K C C "__init__" = some (some (.builtin "ValueError.__init__"))) (veb : PySem.W.subIn K (.ref C) (.type "ValueError") = some true)
    (slf : PySem.W.mroIn K C (.ref C) = some true) (val : PySem.W.findIn K (.ref C) "value" = some none) (ms : PySem.W.nsIn K mainGlobals "super" = some none) (he : XiCall qual f cc cda m p0 p1 p2 p3 p4)
    (hb : ∀ us : List Value, us.length = 2 → bindArgs (PySem.W.ksFn "__init__" qual (xiArgs q0 q1) (xiBody m p0 p1 p2 p3 p4 p5 p6 p7 p8 p9) xiScope .none kV doc pm an (.ref cda) ct cc) ⟨us, []⟩ = pure ((["self", "value"] : List Str).zip us))
    (hbk : ∀ u v : Value, bindArgs (PySem.W.ksFn "__init__" qual (xiArgs q0 q1) (xiBody m p0 p1 p2 p3 p4 p5 p6 p7 p8 p9) xiScope .none kV doc pm an (.ref cda) ct cc) ⟨[u], [("value", v)]⟩ = pure ((["self", "value"] : List Str).zip [u, v])) : OwnX P w K mg base 1 x C :=
  ⟨f, _, ⟨⟨nm, q, N, bs, bm, sn, sub, ab, col, dd, k0, k1, k2, k3, k5, lC, rC⟩, sa, ex, ty, kc⟩, ini, tyf,
    ok_xi ⟨⟨nm, q, N, bs, bm, sn, sub, ab, col, dd, k0, k1, k2, k3, k5, lC, rC⟩, sa, ex, ty, kc⟩ ⟨co, ⟨cl, cld, csl, cell⟩, ⟨ccl, cdd, cvs, ccs, tf, rec_, v2⟩, fl, top, opq, sup, veb, slf, val⟩ l (PySem.W.mg_none_of X G ms) he, hm, L2.Binds.all hb, fun _ u v => .of_eq (hbk u v)⟩
/-! ## repr of any plain value -/
@[irreducible] def rReprV (K : PySem.W.Frag) : List V → Hp → VK → Prop := fun xs H Q => ∃ (x : V) (d : PyData), xs = [x] ∧ Dp K H x d ∧ d.showable = true ∧ d.hasDict = false ∧ d.depth ≤ 30 ∧ d.shown.length ≤ sizeLine ∧ Q (.str d.shown) H
theorem call_reprVK {X : Cx} {K : PySem.W.Frag} (hG : X.A.guards = some []) (hu : X.A.units + 64 < cLine) (h : X.K = K := by rfl) : CallR X (.builtin "repr") (rReprV K) := by
  subst h
  intro pins s σ H xs us Q I r h
  unfold rReprV at h
  obtain ⟨x, d, rfl, hd, hs, hn, hdp, hz, q⟩ := h
  obtain ⟨v, rfl, rv⟩ := vals1 r
  have ref : ∀ a : Addr, x = .ref a → wpAny (model X.prog X.w) X.A (call (.builtin "repr") [v]) (EP X pins σ Q) X.xe s := fun a e => by
    subst e
    cases rv
    obtain ⟨as, rd⟩ := Dp.reads I d _ _ hd rfl
    refine repr_of_reads' rd hs (PyData.noDict_hsm hn) hG (by omega) (fun b o e => e) (fun h' t tk hk => ?_) hz
    exact ⟨.str d.shown, H, I.kept hk, ⟨_, rfl⟩, q⟩
  cases hd with
  | non =>
    cases rv
    simp only [PyData.shown] at q
    exact PySem.P.repr_of_none ⟨.str _, H, I.tok _, ⟨_, rfl⟩, q⟩
  | bl b =>
    cases rv
    simp only [PyData.shown] at q
    exact PySem.P.repr_of_bool ⟨.str _, H, I.tok _, ⟨_, rfl⟩, q⟩
  | int i =>
    obtain ⟨t, rfl⟩ := rv
    simp only [PyData.shown] at q
    exact PySem.P.repr_of_int (by simpa [PyData.showable] using hs) ⟨.str _, H, I.tok _, ⟨_, rfl⟩, q⟩
  | str a =>
    obtain ⟨t, rfl⟩ := rv
    simp only [PyData.shown] at q hz
    exact PySem.P.repr_of_str ⟨.str _, H, I.tok _, ⟨_, rfl⟩, q⟩ hz
  | lst h1 h2 => exact ref _ rfl
  | tup h1 h2 => exact ref _ rfl
theorem rReprV_of {K : PySem.W.Frag} {H : Hp} {x : V} {d : PyData} {Q : VK} (hd : Dp K H x d) (h1 : d.showable = true) (h2 : d.hasDict = false) (h3 : d.depth ≤ 30) (h4 : d.shown.length ≤ sizeLine) (q : Q (.str d.shown) H) : rReprV K [x] H Q := by
  unfold rReprV
  exact ⟨x, d, rfl, hd, h1, h2, h3, h4, q⟩
/-! ## text * number -/
def rRepS : R2 := fun x y H Q => ∃ (a : Str) (n : Int), x = .str a ∧ y = .int n ∧ MulOk a n ∧ Q (.str (Txt.mul a n)) H
theorem op_rep_str {X : Cx} : OpR X (binaryOp .Mult) rRepS := by
  intro pins s σ H x y v u Q I r1 r2 h
  obtain ⟨a, n, rfl, rfl, hm, q⟩ := h
  obtain ⟨t, rfl⟩ := r1
  obtain ⟨t', rfl⟩ := r2
  exact SB.mul hm fun t2 k => ⟨.str _, H, I.tok _, ⟨_, rfl⟩, q⟩
/-- a list of ints shown -/
theorem r_reprVI {K : PySem.W.Frag} {H : Hp} {a : Addr} {ns : List Int} {Q : VK} (h1 : SqL K H a (iv ns)) (hl : ns.length ≤ 5000) (hz : ∀ n ∈ ns, n.natAbs.log2 < 1920) (q : Q (.str (dI ns).shown) H) : rReprV K [.ref a] H Q := by
  refine rReprV_of (dp_iv h1) ?_ ?_ ?_ ?_ q
  · simp only [dI, PyData.showable]
    exact show_ints ns hz
  · simp only [dI, PyData.hasDict]
    exact nod_ints ns
  · simp only [dI, PyData.depth, dep_ints]
    decide
  · obtain ⟨e1, e2⟩ := shown_ints_len ns hz
    have e3 := listText_len_le (PyData.shownAll (ns.map .int))
    simp only [dI, PyData.shown]
    rw [sizeLine_eq]
    omega
theorem short_of {d : PyData} (h1 : d.leavesShort 2000 = true) (h2 : d.bulk ≤ 8000) : d.shown.length ≤ sizeLine := by
  have := PyData.shown_le_bulk 2000 (by decide) d h1
  have : (2000 + 2) * d.bulk ≤ (2000 + 2) * 8000 := Nat.mul_le_mul_left _ h2
  rw [sizeLine_eq]
  omega
/-- two texts -/
def dT2 (a b : List Nat) : PyData := .list [.str (SX.S a), .str (SX.S b)]
theorem short_str {a : List Nat} (h : ∀ c ∈ a, c < 16 ^ 8) : (PyData.str (SX.S a)).leavesShort 2000 = true := by
  simp only [PyData.leavesShort, List.all_eq_true, decide_eq_true_eq]
  exact h
theorem r_reprT2 {K : PySem.W.Frag} {H : Hp} {p : Addr} {a b : List Nat} {Q : VK} (h1 : H p = some (.lst [.str (SX.S a), .str (SX.S b)])) (ha : ∀ c ∈ a, c < 16 ^ 8) (hb : ∀ c ∈ b, c < 16 ^ 8) (la : a.length ≤ 3000) (lb : b.length ≤ 3000) (q : Q (.str (dT2 a b).shown) H) : rReprV K [.ref p] H Q := by
  refine rReprV_of (.lst (seqL_of h1) (.cons (.str _) (.cons (.str _) .nil))) ?_ ?_ ?_ ?_ q
  · simp [PyData.showable, PyData.showableAll]
  · simp [PyData.hasDict, PyData.hasDictAll]
  · simp [PyData.depth, PyData.depthAll]
  · refine short_of ?_ ?_
    · simp only [PyData.leavesShort, PyData.leavesShortAll, Bool.and_true, Bool.and_eq_true]
      exact ⟨by simpa [PyData.leavesShort] using short_str ha, by simpa [PyData.leavesShort] using short_str hb⟩
    · simp only [PyData.bulk, PyData.bulkAll]
      have e1 : a.toArray.size = a.length := SX.S_len a
      have e2 : b.toArray.size = b.length := SX.S_len b
      omega
end Sq

/-! ## own tactic words (local) -/
local macro_rules | `(tactic| walk_at "sq hp") => `(tactic| first
  | assumption
  | exact L2.upd_same
  | (refine Sq.Sep.get (by assumption) ?_; walk_at "sq hp")
  | (refine Sq.upd_keep (by assumption) ?_; walk_at "sq hp")
  | (refine Sq.Same.get (by assumption) ?_; walk_at "sq hp")
  | (refine Sq.upd_off (by assumption) ?_; walk_at "sq hp")
  | (refine Sq.upd_off (Ne.symm (by assumption)) ?_; walk_at "sq hp"))
local macro_rules | `(tactic| walk_at "sq sql") => `(tactic| first
  | assumption
  | exact Sq.seqL_of (by walk_at "sq hp")
  | exact L2.Same.seq (by assumption) (by assumption)
  | exact L2.Same.seq (Sq.Sep.same (by assumption)) (by assumption))
local macro_rules | `(tactic| walk_at "sq len") => `(tactic| (
  (try simp only [List.length_map, List.length_append, List.length_cons, List.length_nil, List.length_take, List.length_drop, List.length_reverse]); (try rw [PySem.sizeLine_eq]); omega))
local macro_rules | `(tactic| walk_at "sq side") => `(tactic| first
  | exact rfl
  | exact Nat.zero_le _
  | exact Sq.lit_len (Nat.le_of_ble_eq_true rfl)
  | ((with_reducible show L2.SqL _ _ _ _); walk_at "sq sql")
  | ((with_reducible show L2.SqT _ _ _ _); exact L2.SqT.of (by walk_at "sq hp"))
  | (apply Exists.intro; walk_at "sq sql")
  | ((with_reducible show _ = some _); walk_at "sq hp")
  | ((with_reducible show Sq.Sep _ _ _); assumption)
  | ((with_reducible show L2.ClsV _ _); first | exact .ty _ | exact .own _)
  | ((with_reducible show L2.TyX _ _ _ _); first | exact .base .non | exact .base (.bl _) | exact .base (.int _) | exact .base (.str _) | exact Sq.tyx_lst (by walk_at "sq sql") | exact Sq.tyx_tup (by exact L2.SqT.of (by walk_at "sq hp")) | assumption)
  | ((with_reducible show Sq.CPowW _ _); first | assumption | exact ⟨by decide, by decide, by decide⟩)
  | ((with_reducible show L2.CMulW _ _); first | assumption | exact (by decide +kernel))
  | ((with_reducible show L2.CDivW _ _); first | assumption | exact ⟨by decide, by decide⟩)
  | ((with_reducible show L2.tyV _ "list" _ _); exact Or.inl ⟨rfl, _, by walk_at "sq sql"⟩)
  | ((with_reducible show _ < PySem.sizeLine); walk_at "sq len")
  | ((with_reducible show _ ≤ PySem.sizeLine); walk_at "sq len")
  | ((with_reducible show (0 : Int) < _); first | assumption | decide | omega)
  | decide
  | omega)
local macro_rules | `(tactic| walk_at "sq go") => `(tactic| repeat (first
  | exact rfl
  | (fail_if_success (show ∃ W : Nat → Nat → L2.St → L2.Hp → Prop, _)
     fail_if_success (show ∃ W : Nat → Nat → L2.Hp → Prop, _)
     fail_if_success (show ∃ W : Nat → L2.St → L2.Hp → Prop, _)
     fail_if_success (show ∃ W : Nat → Nat → List L2.V → L2.St → L2.Hp → Prop, _)
     apply Exists.intro)
  | (apply And.intro; focus walk_at "sq side")
  | refine L2.iteT ?_
  | refine L2.iteF ?_))
namespace Sq
open PySem PySem.Spec PyProof.Rows L2
def topS (i : Nat) : Stmt := PySem.Challenge.pw_squeezelists_k24_lists_counted_by_trying.main.body.getD i (.Pass ⟨0, 0, 0, 0⟩)
structure Bt (mg : Str → Option Value) : Prop where
  «ValueError» : mg "ValueError" = none
  «abs» : mg "abs" = none
  «all» : mg "all" = none
  «len» : mg "len" = none
  «list» : mg "list" = none
  «max» : mg "max" = none
  «min» : mg "min" = none
  «range» : mg "range" = none
  «repr» : mg "repr" = none
  «sum» : mg "sum" = none
section
variable {P : Program} {w : World} {K : PySem.W.Frag} {mg : Str → Option Value} {base : Heap}

/-! ### numbers of lists, counted and kept -/
abbrev s_needed_reach : Stmt := topS 4
theorem sc_needed_reach : FnScope ["replacement", "length"] ["replacement", "length"] (defScope s_needed_reach) := ⟨rfl, rfl, rfl, by decide +kernel, rfl, by decide +kernel, by decide +kernel⟩

def spNeed : Sp := fun vs H Q _ => ∃ k L : Int, vs = [.int k, .int L] ∧ Keep (2 ≤ k ∧ k ≤ 60) ∧ Q (.int (need k L)) H
theorem cal_needed (D : DefAt K mg "needed_reach" s_needed_reach ["replacement", "length"]) (B : Bt mg) : Cal P w K mg base 1 "needed_reach" spNeed [] := by
  refine D.cal sc_needed_reach (fun vs H Q E h => ?_) (fun f cdv A outer s H vs Q E hr h => ?_)
  · obtain ⟨k, L, rfl, _⟩ := h
    rfl
  · obtain ⟨k, L, rfl, ⟨k2, k60⟩, q⟩ := h
    refine ⟨_, (pss_cons (ps_if (pt_cmpR op_gt (pv 0) (pe_op op_add (pv 1) pe_int) (nomark _)) (pss_one (ps_ret (pv 1))) pss_nil)
  (pss_one (ps_ret (pe_callB (call_max2 rfl) (by rfl) B.max (by decide +kernel) (pa_cons (pe_op op_sub (pv 0) pe_int) (pa_cons (pe_op op_sub (pe_op op_add (pe_op op_fdivW (pe_op op_add (pe_op op_add (pv 1) pe_int) (pv 0)) (pv 0)) (pv 0)) pe_int) pa_nil)))))), ?_⟩
    have c : CDivW (L + 1 + k) k := div_ok (by omega) (Int.lt_of_le_of_lt k60 (by decide))
    walk_at "sq go"
    refine ifD (fun h1 => ?_) (fun h1 => ?_)
    · walk_at "sq go"
      unfold need at q
      rw [if_pos h1] at q
      exact q
    · walk_at "sq go"
      unfold need at q
      rw [if_neg h1] at q
      exact q
abbrev s_greatest_reaches : Stmt := topS 5
theorem sc_greatest_reaches : FnScope ["steps", "greatest", "found", "step", "best"] ["steps", "greatest"] (defScope s_greatest_reaches) := ⟨rfl, rfl, rfl, by decide +kernel, rfl, by decide +kernel, by decide +kernel⟩

def spGrs : Sp := fun vs H Q _ => ∃ (n : Nat) (g : Int), vs = [.int (n : Nat), .int g] ∧ Keep (n ≤ 100 ∧ 2 ≤ g ∧ g ≤ 60) ∧ ∀ p, H p = none → Q (.ref p) (upd H p (.lst (iv (grs g n))))
theorem cal_greatest (D : DefAt K mg "greatest_reaches" s_greatest_reaches ["steps", "greatest"]) (B : Bt mg) : Cal P w K mg base 1 "greatest_reaches" spGrs [] := by
  refine D.cal sc_greatest_reaches (fun vs H Q E h => ?_) (fun f cdv A outer s H vs Q E hr h => ?_)
  · obtain ⟨n, g, rfl, _⟩ := h
    rfl
  · obtain ⟨n, g, rfl, ⟨n100, g2, g60⟩, q⟩ := h
    refine ⟨_, (pss_cons (ps_set (i := 2) sc_greatest_reaches.nd rfl (Or.inl rfl) (pe_lst (pa_cons pe_int pa_nil)))
  (pss_cons (ps_for PassesOwn.never rfl (pi_range1 (by rfl) B.range (pa_cons (pv 0) pa_nil)) (pg_name (i := 3) sc_greatest_reaches.nd rfl (Or.inl rfl))
   (pss_cons (ps_set (i := 4) sc_greatest_reaches.nd rfl (Or.inl rfl) (pe_callB (call_min2 rfl) (by rfl) B.min (by decide +kernel) (pa_cons (pv 1) (pa_cons (pe_op op_fdivW (pe_op op_add (pe_ix (ix_listK (K := K)) (pv 2) (pe_un un_neg pe_int) (fun _ _ => rfl)) pe_int) pe_int) pa_nil))))
  (pss_one (ps_expr (pe_bm PySem.F.plainAttrs_list PySem.F.slot_list_append PySem.F.type_list_append mt_append (pv 2) (pa_cons (pe_op op_sub (pe_op op_mulW (pe_op op_sub (pe_op op_add (pe_ix (ix_listK (K := K)) (pv 2) (pe_un un_neg pe_int) (fun _ _ => rfl)) pe_int) (pv 4)) (pv 4)) pe_int) pa_nil))))))
  (pss_one (ps_ret (pv 2))))), ?_⟩
    walk_at "sq go"
    intro p np
    walk_at "sq go"
    refine for_range (lo := 0) (n := n) (fun i σ H' => Keep (∃ y z, σ = [some (.int (n : Nat)), some (.int g), some (.ref p), y, z] ∧ H' = upd H p (.lst (iv (grs g i))))) ⟨none, none, rfl, rfl⟩ (fun i σ H' hi h => ?_) (fun σ H' h => ?_)
    · obtain ⟨y, z, rfl, rfl⟩ := h.o
      have at1 : atI (iv (grs g i)) (-1) = some (.int (gr g i)) := by
        unfold atI ixN
        rw [iv_len, grs_len, if_neg (by decide), if_pos (by omega)]
        show (iv (grs g i))[(-1 + ((i + 1 : Nat) : Int)).toNat]? = _
        rw [show (-1 + ((i + 1 : Nat) : Int)).toNat = i by omega, List.getElem?_map, grs_get (Nat.le_refl _)]
        rfl
      have hp : upd H p (.lst (iv (grs g i))) p = some (.lst (iv (grs g i))) := upd_same
      have r1 := gr_pos g2 g60 i
      have rs := gr_sm g2 g60 (n := i) (by omega)
      have st := gr_step r1 g2 g60 rfl
      have wm : CMulW (gr g i + 3 - (if (gr g i + 3) / 2 < g then (gr g i + 3) / 2 else g)) (if (gr g i + 3) / 2 < g then (gr g i + 3) / 2 else g) :=
        Sm.wide (a := 1001) (b := 10) (Sm.le (j := gr g i + 3) (Sm.add rs (Sm.of (by decide) (by decide))) (by omega) (by omega)) (by unfold Sm; omega) (by decide) (by decide) (by decide)
      have lp : (iv (grs g i)).length < sizeLine := by
        rw [iv_len, grs_len]
        exact small1000 (by omega)
      walk_at "sq go"
      refine ⟨_, _, rfl, ?_⟩
      rw [upd_upd, iv_app]
      exact congrArg (fun z => upd H p (.lst (iv z))) (grs_succ g i)
    · obtain ⟨y, z, rfl, rfl⟩ := h.o
      walk_at "sq go"
      exact q p np
theorem But.offC {o a : Addr} {H H' : Hp} {u : HO} (b : But o H H') (n : H a = none) : But o H (upd H' a u) := fun c x k e => by
  rw [upd_ne fun z => by
    rw [z, n] at e
    cases e]
  exact b c x k e
theorem But.freeC {o t : Addr} {H H' : Hp} {u : HO} (b : But o H H') (e : H' o = some u) (n : H' t = none) : H t = none := by
  cases q : H t with
  | none => rfl
  | some v =>
    rw [b t v (fun z => by rw [z, e] at n; cases n) q] at n
    cases n
def cf (g : Int) (l d : Addr) : List (Str × V) := [("greatest", .int g), ("reaches", .ref l), ("known", .ref d)]
theorem cf_g (g : Int) (l d : Addr) : (cf g l d).lookup ("greatest" : Str) = some (.int g) := rfl
theorem cf_r (g : Int) (l d : Addr) : (cf g l d).lookup ("reaches" : Str) = some (.ref l) := rfl
theorem cf_k (g : Int) (l d : Addr) : (cf g l d).lookup ("known" : Str) = some (.ref d) := rfl
theorem cf_1 (g : Int) (l d : Addr) : (cf g l d).lookup ("count" : Str) = none := rfl
theorem cf_2 (g : Int) (l d : Addr) : (cf g l d).lookup ("firsts" : Str) = none := rfl
theorem cf_3 (g : Int) (l d : Addr) : (cf g l d).lookup ("count_behind" : Str) = none := rfl
theorem cf_new (g : Int) (l d : Addr) : putF "known" (.ref d) (putF "reaches" (.ref l) (putF "greatest" (.int g) [])) = cf g l d := rfl
structure Cho (K : PySem.W.Frag) (C : Addr) : Prop where
  cl : Cls K C
  nG : NoAttr K C "greatest"
  nR : NoAttr K C "reaches"
  nK : NoAttr K C "known"
/-- an object that counts, at o -/
structure Ch1 (C o dx l d : Addr) (g : Int) (N : Nat) (H : Hp) (kvs : List (List Key × V)) : Prop where
  ho : H o = some (.ins C dx (cf g l d))
  hl : H l = some (.lst (iv (grs g N)))
  hd : H d = some (.dT kvs)
  me : Memo g kvs
theorem Ch1.same {C o dx l d : Addr} {g : Int} {N : Nat} {H H' : Hp} {kvs : List (List Key × V)} (h : Ch1 C o dx l d g N H kvs) (s : Same H H') : Ch1 C o dx l d g N H' kvs := ⟨s _ _ h.ho, s _ _ h.hl, s _ _ h.hd, h.me⟩
theorem Ch1.but {C o dx l d : Addr} {g : Int} {N : Nat} {H H' : Hp} {kvs kvs' : List (List Key × V)} (h : Ch1 C o dx l d g N H kvs) (s : But d H H') (e : H' d = some (.dT kvs')) (m : Memo g kvs') : Ch1 C o dx l d g N H' kvs' := by
  refine ⟨s _ _ (fun z => ?_) h.ho, s _ _ (fun z => ?_) h.hl, e, m⟩
  · have a := h.ho
    rw [z, h.hd] at a
    cases a
  · have a := h.hl
    rw [z, h.hd] at a
    cases a
theorem Ch1.put {C o dx l d a : Addr} {g : Int} {N : Nat} {H : Hp} {kvs : List (List Key × V)} {u : HO} (h : Ch1 C o dx l d g N H kvs) (no : a ≠ o) (nl : a ≠ l) (nd : a ≠ d) : Ch1 C o dx l d g N (upd H a u) kvs :=
  ⟨by rw [upd_ne (Ne.symm no)]; exact h.ho, by rw [upd_ne (Ne.symm nl)]; exact h.hl, by rw [upd_ne (Ne.symm nd)]; exact h.hd, h.me⟩
theorem Ch1.free {C o dx l d a : Addr} {g : Int} {N : Nat} {H : Hp} {kvs : List (List Key × V)} (h : Ch1 C o dx l d g N H kvs) (n : H a = none) : a ≠ o ∧ a ≠ l ∧ a ≠ d :=
  ⟨(fun z => by rw [z, h.ho] at n; cases n), (fun z => by rw [z, h.hl] at n; cases n), (fun z => by rw [z, h.hd] at n; cases n)⟩
local macro_rules | `(tactic| walk_at "sq side") => `(tactic| first
  | ((with_reducible show List.lookup _ _ = _); first | exact cf_g _ _ _ | exact cf_r _ _ _ | exact cf_k _ _ _ | exact cf_1 _ _ _ | exact cf_2 _ _ _ | exact cf_3 _ _ _)
  | ((with_reducible show Cls _ _); assumption)
  | ((with_reducible show NoAttr _ _ _); assumption)
  | ((with_reducible show RgOk _ _); exact RgOk.of_le (by omega) (by omega) (by omega) (by omega))
  | ((with_reducible show List.length _ < 1000); exact Nat.le_of_ble_eq_true rfl))
abbrev s_Choices___init__ : Stmt := inClass (topS 6) 0
theorem sc_Choices___init__ : FnScope ["self", "steps", "greatest"] ["self", "steps", "greatest"] (defScope s_Choices___init__) := ⟨rfl, rfl, rfl, by decide +kernel, rfl, by decide +kernel, by decide +kernel⟩

def spCInit (C : Addr) : Sp := fun vs H Q _ => ∃ (x dx : Addr) (n : Nat) (g : Int), vs = [.ref x, .int (n : Nat), .int g] ∧ H x = some (.ins C dx []) ∧ Keep (n ≤ 8 ∧ 2 ≤ g ∧ g ≤ 60) ∧
  ∀ l d H', But x H H' → H d = none → Ch1 C x dx l d g n H' [] → Q .non H'
theorem mak_choices {C : Addr} (D : IniAt K mg C "Choices" "Choices.__init__" s_Choices___init__ ["self", "steps", "greatest"]) (hi : Cho K C) (B : Bt mg) (c_greatest_reaches : Cal P w K mg base 1 "greatest_reaches" spGrs []) :
    Mak P w K mg base 2 "Choices" C (spCInit C) := by
  refine D.mak sc_Choices___init__ (fun vs H Q E h => ?_) (fun f cdv A outer s H vs Q E hr h => ?_)
  · obtain ⟨x, dx, n, g, rfl, _⟩ := h
    rfl
  · obtain ⟨x, dx, n, g, rfl, hx, ⟨n8, g2, g60⟩, q⟩ := h
    obtain ⟨cl, nG, nR, nK⟩ := hi
    refine ⟨_, (pss_cons (ps_fldK (K := K) (pv 0) (pv 2) rfl)
  (pss_cons (ps_fldK (K := K) (pv 0) (pe_c c_greatest_reaches hr (by first | decide | omega) (by rfl) (pa_cons (pv 1) (pa_cons (pv 2) pa_nil))) rfl)
  (pss_one (ps_fldK (K := K) (pv 0) pe_dnewT rfl)))), ?_⟩
    walk_at "sq go"
    refine ⟨⟨by omega, g2, g60⟩, fun l nl => ?_⟩
    have nlx : l ≠ x := fun e => by
      rw [e, upd_same] at nl
      cases nl
    have hx1 := upd_keep (o := .lst (iv (grs g n))) nl (upd_same (H := H) (a := x) (o := .ins C dx (putF "greatest" (.int g) [])))
    walk_at "sq go"
    intro d nd
    have ndx : d ≠ x := fun e => by
      rw [e, upd_same] at nd
      cases nd
    have ndl : d ≠ l := fun e => by
      rw [e, upd_ne nlx, upd_same] at nd
      cases nd
    have hx2 := upd_keep (o := .dT []) nd (upd_same (H := (upd (upd H x (.ins C dx (putF "greatest" (.int g) []))) l (.lst (iv (grs g n))))) (a := x) (o := .ins C dx (putF "reaches" (.ref l) (putF "greatest" (.int g) []))))
    walk_at "sq go"
    have gl : H l = none := by
      rw [upd_ne nlx] at nl
      exact nl
    have gd : H d = none := by
      rw [upd_ne ndx, upd_ne ndl, upd_ne ndx] at nd
      exact nd
    refine q l d _ (((But.put.trans (But.of (same_new (by rw [upd_ne nlx]; exact gl)))).trans But.put).trans ((But.of (same_new nd)).trans But.put)) gd ⟨?_, ?_, ?_, memo_nil g⟩
    · rw [upd_same, cf_new]
    · rw [upd_ne nlx, upd_ne (Ne.symm ndl), upd_ne nlx, upd_same]
    · rw [upd_ne ndx, upd_same]
abbrev s_Choices_firsts : Stmt := inClass (topS 6) 2
theorem sc_Choices_firsts : FnScope ["self"] ["self"] (defScope s_Choices_firsts) := ⟨rfl, rfl, rfl, by decide +kernel, rfl, by decide +kernel, by decide +kernel⟩

def spFirsts (C : Addr) : Sp := fun vs H Q _ => ∃ (o dx l d : Addr) (g : Int), vs = [.ref o] ∧ H o = some (.ins C dx (cf g l d)) ∧ Keep (2 ≤ g ∧ g ≤ 60) ∧ ∀ p, H p = none → Q (.ref p) (upd H p (.lst (rgV 2 (g + 1))))
theorem met_firsts {C : Addr} (D : MetAt K C "firsts" "Choices.firsts" s_Choices_firsts ["self"]) (hi : Cho K C) (B : Bt mg) : Met P w K mg base 1 C "firsts" (spFirsts C) := by
  refine D.met hi.cl sc_Choices_firsts (fun vs H Q E h => ?_) (fun f cdv A outer s H vs Q E hr h => ?_)
  · obtain ⟨o, dx, l, d, g, rfl, _⟩ := h
    rfl
  · obtain ⟨o, dx, l, d, g, rfl, ho, ⟨g2, g60⟩, q⟩ := h
    obtain ⟨cl, nG, nR, nK⟩ := hi
    refine ⟨_, (pss_one (ps_ret (pe_listRg rfl (by rfl) B.list (prg_2 (by rfl) B.range pe_int (pe_op op_add (pe_fldK (K := K) (pv 0)) pe_int))))), ?_⟩
    walk_at "sq go"
    exact q
/-- a promise of count for n steps -/
def spCount (C : Addr) (M : Nat) : Sp := fun vs H Q _ => ∃ (n : Nat) (o dx l d : Addr) (g : Int) (N : Nat) (L : Nat) (kvs : List (List Key × V)), vs = [.ref o, .int (n : Nat), .int (L : Nat)] ∧ Ch1 C o dx l d g N H kvs ∧ Keep (n ≤ M ∧ n ≤ N ∧ N ≤ 8 ∧ 2 ≤ g ∧ g ≤ 60 ∧ L ≤ 20000) ∧
  ∀ H' kvs', But d H H' → Ch1 C o dx l d g N H' kvs' → Q (.int (cntC g n L)) H'
def spBehind (C : Addr) (M : Nat) : Sp := fun vs H Q _ => ∃ (n : Nat) (o dx l d : Addr) (g : Int) (N : Nat) (k : Int) (L : Nat) (kvs : List (List Key × V)), vs = [.ref o, .int k, .int ((n + 1 : Nat) : Nat), .int (L : Nat)] ∧ Ch1 C o dx l d g N H kvs ∧ Keep (n + 1 ≤ M ∧ n ≤ N ∧ N ≤ 8 ∧ 2 ≤ g ∧ g ≤ 60 ∧ L ≤ 20000 ∧ 2 ≤ k ∧ k ≤ 60) ∧
  ∀ H' kvs', But d H H' → Ch1 C o dx l d g N H' kvs' → Q (.int (cntC g n (need k L))) H'
abbrev s_Choices_count_behind : Stmt := inClass (topS 6) 3
theorem sc_Choices_count_behind : FnScope ["self", "first", "steps", "length"] ["self", "first", "steps", "length"] (defScope s_Choices_count_behind) := ⟨rfl, rfl, rfl, by decide +kernel, rfl, by decide +kernel, by decide +kernel⟩

theorem met_behind {C : Addr} {M j : Nat} (D : MetAt K C "count_behind" "Choices.count_behind" s_Choices_count_behind ["self", "first", "steps", "length"]) (hi : Cho K C) (B : Bt mg) (c_needed_reach : Cal P w K mg base 1 "needed_reach" spNeed []) (h1 : 1 ≤ j)
    (c_count : Met P w K mg base j C "count" (spCount C M)) : Met P w K mg base (j + 1) C "count_behind" (spBehind C (M + 1)) := by
  refine D.met hi.cl sc_Choices_count_behind (fun vs H Q E h => ?_) (fun f cdv A outer s H vs Q E hr h => ?_)
  · obtain ⟨n, o, dx, l, d, g, N, k, L, kvs, rfl, _⟩ := h
    rfl
  · obtain ⟨n, o, dx, l, d, g, N, k, L, kvs, rfl, ch, ⟨nM, nN, N8, g2, g60, l2, k2, k60⟩, q⟩ := h
    have ho := ch.ho
    refine ⟨_, (pss_one (ps_ret (pe_m c_count hr (by first | decide | omega) (pv 0) (pa_cons (pe_op op_sub (pv 2) pe_int) (pa_cons (pe_c c_needed_reach hr (by first | decide | omega) (by rfl) (pa_cons (pv 1) (pa_cons (pv 3) pa_nil))) pa_nil))))), ?_⟩
    have e1 : ((n + 1 : Nat) : Int) - 1 = (n : Nat) := by omega
    obtain ⟨b0, b1⟩ := need_bd (k := k) (L := L) k2 (by omega)
    obtain ⟨m, em⟩ := Int.eq_ofNat_of_zero_le b0
    walk_at "sq go"
    refine ⟨⟨k2, k60⟩, ?_⟩
    rw [em]
    rw [em] at q
    walk_at "sq go"
    refine ⟨?_, ch, ⟨Nat.le_of_succ_le_succ nM, nN, N8, g2, g60, by omega⟩, fun H1 kvs1 b1 c1 => q H1 kvs1 b1 c1⟩
    show [V.ref o, V.int (((n + 1 : Nat) : Int) - 1), V.int (m : Nat)] = [V.ref o, V.int (n : Nat), V.int (m : Nat)]
    rw [e1]
abbrev s_Choices_count : Stmt := inClass (topS 6) 1
theorem sc_Choices_count : FnScope ["self", "steps", "length", "first"] ["self", "steps", "length"] (defScope s_Choices_count) := ⟨rfl, rfl, rfl, by decide +kernel, rfl, by decide +kernel, by decide +kernel⟩

theorem met_count0 {C : Addr} (D : MetAt K C "count" "Choices.count" s_Choices_count ["self", "steps", "length"]) (hi : Cho K C) (B : Bt mg) (M j : Nat) (h1 : 1 ≤ j) (c_firsts : Met P w K mg base 1 C "firsts" (spFirsts C))
    (c_count_behind : Met P w K mg base j C "count_behind" (spBehind C M)) : Met P w K mg base (j + 1) C "count" (spCount C M) := by
  refine D.met hi.cl sc_Choices_count (fun vs H Q E h => ?_) (fun f cdv A outer s H vs Q E hr h => ?_)
  · obtain ⟨n, o, dx, l, d, g, N, L, kvs, rfl, _⟩ := h
    rfl
  · obtain ⟨n, o, dx, l, d, g, N, L, kvs, rfl, ch, ⟨nM, nN, N8, g2, g60, l2⟩, q⟩ := h
    have ho := ch.ho
    have hl := ch.hl
    have hd := ch.hd
    obtain ⟨cl, nG, nR, nK⟩ := hi
    refine ⟨_, (pss_cons (ps_if (pt_cmpR op_gt (pv 2) (pe_ix (ix_listK (K := K)) (pe_fldK (K := K) (pv 0)) (pv 1) (fun _ _ => rfl)) (nomark _)) (pss_one (ps_ret pe_int)) pss_nil)
  (pss_cons (ps_if (pt_cmpR op_eq (pv 1) pe_int (nomark _)) (pss_one (ps_ret pe_int)) pss_nil)
  (pss_cons (ps_if (pt_cmp (pc_dnotin (hu_of hr) (pe_tup (pa_cons (pv 1) (pa_cons (pv 2) pa_nil))) (pe_fldK (K := K) (pv 0))) (by rfl)) (pss_one (ps_dput (hu_of hr) (pe_fldK (K := K) (pv 0)) (pe_tup (pa_cons (pv 1) (pa_cons (pv 2) pa_nil))) (pe_callB (cr_sumK (K := K) rfl) (by rfl) B.sum (by decide +kernel) (pa_cons (pe_lc (own := [("first", 3)]) (g := gName 3) (by rfl) sc_Choices_count.nd (pi_listK (K := K) (pe_m0 c_firsts hr (by first | decide | omega) (pv 0))) (blkOk_by (own := [("first", 3)]) (N := ["self", "steps", "length", "first"]) (sc := defScope s_Choices_count) (by decide +kernel)) (fun _ _ _ _ _ => (pg_name (i := 3) sc_Choices_count.nd rfl (Or.inl rfl))) (fun _ _ _ _ _ => pts_nil) (fun _ _ _ _ _ => (pe_m c_count_behind hr (by first | decide | omega) (pv 0) (pa_cons (pv 3) (pa_cons (pv 1) (pa_cons (pv 2) pa_nil)))))) pa_nil)) rfl)) pss_nil)
  (pss_one (ps_ret (pe_dget (hu_of hr) (pe_fldK (K := K) (pv 0)) (pe_tup (pa_cons (pv 1) (pa_cons (pv 2) pa_nil))) (fun _ _ => rfl))))))), ?_⟩
    have ar : atI (iv (grs g N)) ((n : Nat) : Int) = some (.int (gr g n)) := atI_nat (by rw [List.getElem?_map, grs_get nN]; rfl)
    walk_at "sq go"
    refine ifD (fun c => ?_) (fun c => ?_)
    · walk_at "sq go"
      have e : cntC g n L = 0 := by
        cases n with
        | zero => exact if_pos c
        | succ n => exact if_pos c
      rw [e] at q
      exact q H kvs (.refl _ _) ch
    · walk_at "sq go"
      cases n with
      | zero =>
        refine ifI (fun _ => ?_) (fun z => absurd rfl z)
        walk_at "sq go"
        have e : cntC g 0 L = 1 := if_neg c
        rw [e] at q
        exact q H kvs (.refl _ _) ch
      | succ n =>
        refine ifI (fun z => absurd z (by omega)) (fun _ => ?_)
        walk_at "sq go"
        intro T nT
        have ch1 := ch.same (same_new (o := .tup [.int ((n + 1 : Nat) : Int), .int ((L : Nat) : Int)]) nT)
        have ho1 := ch1.ho
        have hd1 := ch1.hd
        have hl1 := ch1.hl
        have dT : ∀ {G : Hp} {a : Addr} {u : HO}, G d = some (.dT kvs) → G a = none → a ≠ d := fun h1 h2 z => by
          rw [z, h1] at h2
          cases h2
        walk_at "sq go"
        refine ⟨DGet.t (k := keyC ((n + 1 : Nat) : Int) ((L : Nat) : Int)) hd1 upd_same, ?_⟩
        cases hv : valV kvs (keyC ((n + 1 : Nat) : Int) ((L : Nat) : Int)) with
        | some v =>
          have ev := ch.me.get hv
          walk_at "sq go"
          intro T2 nT2
          have ch2 := ch1.same (same_new (o := .tup [.int ((n + 1 : Nat) : Int), .int ((L : Nat) : Int)]) nT2)
          have ho2 := ch2.ho
          have hd2 := ch2.hd
          walk_at "sq go"
          refine ⟨by rw [← hv]; exact DGet.t (k := keyC ((n + 1 : Nat) : Int) ((L : Nat) : Int)) hd2 upd_same, ?_⟩
          rw [ev]
          exact q _ kvs ((But.of (same_new nT)).trans (But.of (same_new nT2))) ch2
        | none =>
          walk_at "sq go"
          refine ⟨⟨g2, g60⟩, fun p np => ?_⟩
          have ch2 := ch1.same (same_new (o := .lst (rgV 2 (g + 1))) np)
          have b2 : But d H (upd (upd H T (.tup [.int ((n + 1 : Nat) : Int), .int ((L : Nat) : Int)])) p (.lst (rgV 2 (g + 1)))) := (But.of (same_new nT)).trans (But.of (same_new np))
          have hp2 : upd (upd H T (.tup [.int ((n + 1 : Nat) : Int), .int ((L : Nat) : Int)])) p (.lst (rgV 2 (g + 1))) p = some (.lst (rgV 2 (g + 1))) := upd_same
          generalize upd (upd H T (.tup [.int ((n + 1 : Nat) : Int), .int ((L : Nat) : Int)])) p (.lst (rgV 2 (g + 1))) = H2 at ch2 b2 hp2
          walk_at "sq go"
          intro D1 nD1
          have ch3 := ch2.same (same_new (o := .lst []) nD1)
          have gD1 : H D1 = none := b2.freeC ch2.hd nD1
          have fD := ch2.free nD1
          have npD : p ≠ D1 := fun z => by
            rw [← z, hp2] at nD1
            cases nD1
          have hp3 := upd_keep (o := .lst []) nD1 hp2
          have lrg : (rgV 2 (g + 1)).length = (g - 1).toNat := by
            rw [rgV_length]
            congr 1
            omega
          refine lc_list (K := K) (a := p) (xs := rgV 2 (g + 1)) (fun i H' => Keep (∃ kvs', But d H H' ∧ Ch1 C o dx l d g N H' kvs' ∧ H' p = some (.lst (rgV 2 (g + 1))) ∧ H' D1 = some (.lst (iv ((List.range i).map fun j => cntC g n (need (2 + (j : Nat)) L)))))) ⟨kvs, b2.trans (But.of (same_new nD1)), ch3, hp3, upd_same⟩ (fun i H' _ h => ?_) (fun i x H' hx h => ?_) (fun H' h => ?_)
          · obtain ⟨kvs', _, _, hp, _⟩ := h.o
            exact seqL_of hp
          · obtain ⟨kvs', bH, chH, hpH, hDH⟩ := h.o
            have li := (List.getElem?_eq_some_iff.mp hx).1
            rw [lrg] at li
            obtain rfl : x = .int (2 + ((i : Nat) : Int)) := by
              unfold rgV at hx
              rw [List.getElem?_map, List.getElem?_range (by omega)] at hx
              exact (Option.some.inj hx).symm
            have nDd : D1 ≠ d := fun z => by
              rw [z, chH.hd] at hDH
              cases hDH
            have npd : p ≠ d := fun z => by
              rw [z, chH.hd] at hpH
              cases hpH
            have hoH := chH.ho
            walk_at "sq go"
            refine ⟨⟨nM, by omega, N8, g2, g60, l2, by omega, by omega⟩, fun H4 kvs4 b4 ch4 => ?_⟩
            have hD4 := b4 _ _ nDd hDH
            have hp4 := b4 _ _ npd hpH
            have lacc : (iv ((List.range i).map fun j => cntC g n (need (2 + (j : Nat)) L))).length < sizeLine := by
              rw [iv_len, List.length_map, List.length_range]
              exact small1000 (by omega)
            walk_at "sq go"
            refine ⟨kvs4, (bH.trans b4).offC gD1, ch4.put fD.1 fD.2.1 fD.2.2, upd_off npD hp4, ?_⟩
            · rw [upd_same, List.range_succ, List.map_append]
              exact congrArg (fun z => some (HO.lst z)) (iv_app _ _)
          · obtain ⟨kvs', bH, chH, hpH, hDH⟩ := h.o
            rw [lrg] at hDH
            have hoH := chH.ho
            walk_at "sq go"
            intro T3 nT3
            have ch4 := chH.same (same_new (o := .tup [.int ((n + 1 : Nat) : Int), .int ((L : Nat) : Int)]) nT3)
            have ho4 := ch4.ho
            have hd4 := ch4.hd
            have esum : ((List.range (g - 1).toNat).map fun j => cntC g n (need (2 + (j : Nat)) L)).sum = cntC g (n + 1) L := (if_neg c).symm
            have mp := ch4.me.put (n := n + 1) (L := L) (by omega) l2
            walk_at "sq go"
            rw [esum]
            refine ⟨DPut.t (k := keyC ((n + 1 : Nat) : Int) ((L : Nat) : Int)) hd4 upd_same ch4.me.len, ?_⟩
            have ch5 : Ch1 C o dx l d g N (upd (upd H' T3 (.tup [.int ((n + 1 : Nat) : Int), .int ((L : Nat) : Int)])) d (.dT (putK kvs' (keyC ((n + 1 : Nat) : Int) ((L : Nat) : Int)) (.int (cntC g (n + 1) L))))) (putK kvs' (keyC ((n + 1 : Nat) : Int) ((L : Nat) : Int)) (.int (cntC g (n + 1) L))) := ch4.but But.put upd_same mp.1
            have b5 := (bH.trans (But.of (same_new (o := .tup [.int ((n + 1 : Nat) : Int), .int ((L : Nat) : Int)]) nT3))).trans (But.put (u := .dT (putK kvs' (keyC ((n + 1 : Nat) : Int) ((L : Nat) : Int)) (.int (cntC g (n + 1) L)))))
            generalize upd (upd H' T3 (.tup [.int ((n + 1 : Nat) : Int), .int ((L : Nat) : Int)])) d (.dT (putK kvs' (keyC ((n + 1 : Nat) : Int) ((L : Nat) : Int)) (.int (cntC g (n + 1) L)))) = H5 at ch5 b5
            have ho5 := ch5.ho
            walk_at "sq go"
            intro T4 nT4
            have ch6 := ch5.same (same_new (o := .tup [.int ((n + 1 : Nat) : Int), .int ((L : Nat) : Int)]) nT4)
            have ho6 := ch6.ho
            have hd6 := ch6.hd
            walk_at "sq go"
            refine ⟨by rw [← mp.2]; exact DGet.t (k := keyC ((n + 1 : Nat) : Int) ((L : Nat) : Int)) hd6 upd_same, ?_⟩
            exact q _ _ (b5.trans (But.of (same_new nT4))) ch6
/-- count for each number of steps -/
theorem met_count {C : Addr} (D : MetAt K C "count" "Choices.count" s_Choices_count ["self", "steps", "length"]) (D2 : MetAt K C "count_behind" "Choices.count_behind" s_Choices_count_behind ["self", "first", "steps", "length"]) (hi : Cho K C) (B : Bt mg) (c1 : Cal P w K mg base 1 "needed_reach" spNeed []) (c2 : Met P w K mg base 1 C "firsts" (spFirsts C)) : ∀ M : Nat, Met P w K mg base (2 * M + 2) C "count" (spCount C M)
  | 0 => met_count0 D hi B 0 1 (by decide) c2 (D2.met hi.cl sc_Choices_count_behind (fun vs H Q E h => by
      obtain ⟨n, o, dx, l, d, g, N, k, L, kvs, rfl, _⟩ := h
      rfl) (fun _ _ _ _ _ _ _ _ _ _ h => by
      obtain ⟨n, o, dx, l, d, g, N, k, L, kvs, rfl, ch, ⟨nM, _⟩, _⟩ := h
      exact absurd nM (by omega)))
  | M + 1 => met_count0 D hi B (M + 1) (2 * M + 3) (by omega) c2 (met_behind D2 hi B c1 (by omega) (met_count D D2 hi B c1 c2 M))
abbrev s_check_arguments : Stmt := topS 7
theorem sc_check_arguments : FnScope ["steps", "greatest", "length"] ["steps", "greatest", "length"] (defScope s_check_arguments) := ⟨rfl, rfl, rfl, by decide +kernel, rfl, by decide +kernel, by decide +kernel⟩

def spArgs (CN : Addr) : Sp := fun vs H Q E => ∃ a g L : Int, vs = [.int a, .int g, .int L] ∧ Keep ((0 ≤ a → 2 ≤ g → 0 ≤ L → Q .non H) ∧ (∀ v : Int, (a < 0 ∧ v = a ∨ 0 ≤ a ∧ g < 2 ∧ v = g ∨ 0 ≤ a ∧ 2 ≤ g ∧ L < 0 ∧ v = L) → ∀ d H', Same H H' → H' d = some (.xd [("value", .int v)]) → E (.ref CN) (some d) H'))
theorem cal_args {CN : Addr} (D : DefAt K mg "check_arguments" s_check_arguments ["steps", "greatest", "length"]) (B : Bt mg) (c_InvalidNumber : Rai P w K mg base 1 "InvalidNumber" CN) : CalX P w K mg base 3 "check_arguments" (spArgs CN) := by
  refine D.calX sc_check_arguments (fun vs H Q E h => ?_) (fun f cdv A outer s H vs Q E hr h tk => ?_)
  · obtain ⟨a, g, L, rfl, _⟩ := h
    rfl
  · obtain ⟨a, g, L, rfl, ⟨q, qe⟩⟩ := h
    refine ⟨_, (pss_cons (ps_if (pt_cmpR op_lt (pv 0) pe_int (nomark _)) (pss_one (ps_rx c_InvalidNumber hr (by first | decide | omega) (by rfl) tk (pv 0))) pss_nil)
  (pss_cons (ps_if (pt_cmpR op_lt (pv 1) pe_int (nomark _)) (pss_one (ps_rx c_InvalidNumber hr (by first | decide | omega) (by rfl) tk (pv 1))) pss_nil)
  (pss_one (ps_if (pt_cmpR op_lt (pv 2) pe_int (nomark _)) (pss_one (ps_rx c_InvalidNumber hr (by first | decide | omega) (by rfl) tk (pv 2))) pss_nil)))), ?_⟩
    walk_at "sq go"
    refine ifD (fun c => ?_) (fun c => ?_)
    · walk_at "sq go"
      intro d nd
      exact qe a (.inl ⟨c, rfl⟩) d _ (same_new nd) upd_same
    · walk_at "sq go"
      refine ifD (fun c2 => ?_) (fun c2 => ?_)
      · walk_at "sq go"
        intro d nd
        exact qe g (.inr (.inl ⟨by omega, c2, rfl⟩)) d _ (same_new nd) upd_same
      · walk_at "sq go"
        refine ifD (fun c3 => ?_) (fun c3 => ?_)
        · walk_at "sq go"
          intro d nd
          exact qe L (.inr (.inr ⟨by omega, by omega, c3, rfl⟩)) d _ (same_new nd) upd_same
        · exact q (by omega) (by omega) (by omega)
abbrev s_count_lists : Stmt := topS 8
theorem sc_count_lists : FnScope ["steps", "greatest", "length"] ["steps", "greatest", "length"] (defScope s_count_lists) := ⟨rfl, rfl, rfl, by decide +kernel, rfl, by decide +kernel, by decide +kernel⟩

/-- the errors of three numbers -/
def Bad3 (a g L v : Int) : Prop := a < 0 ∧ v = a ∨ 0 ≤ a ∧ g < 2 ∧ v = g ∨ 0 ≤ a ∧ 2 ≤ g ∧ L < 0 ∧ v = L
def spCountL (CN : Addr) : Sp := fun vs H Q E => ∃ a g L : Int, vs = [.int a, .int g, .int L] ∧ Keep ((0 ≤ a → 2 ≤ g → 0 ≤ L → a ≤ 8 ∧ g ≤ 60 ∧ L ≤ 20000 ∧ ∀ H', Same H H' → Q (.int (cntC g a.toNat L)) H') ∧ (∀ v : Int, Bad3 a g L v → ∀ d H', Same H H' → H' d = some (.xd [("value", .int v)]) → E (.ref CN) (some d) H'))
theorem two_countL {C CN : Addr} (D : DefAt K mg "count_lists" s_count_lists ["steps", "greatest", "length"]) (B : Bt mg) (c_check_argumentsX : CalX P w K mg base 3 "check_arguments" (spArgs CN)) (c_Choices : Mak P w K mg base 2 "Choices" C (spCInit C)) (c_count : Met P w K mg base 18 C "count" (spCount C 8)) :
    Def2X P w K mg base 20 "count_lists" s_count_lists ["steps", "greatest", "length"] (spCountL CN) := by
  refine D.twoX sc_count_lists (fun vs H Q E h => ?_) (fun f cdv A outer s H vs Q E hr h tk => ?_)
  · obtain ⟨a, g, L, rfl, _⟩ := h
    rfl
  · obtain ⟨a, g, L, rfl, ⟨q, qe⟩⟩ := h
    refine ⟨_, (pss_cons (ps_expr (pe_cx c_check_argumentsX hr (by first | decide | omega) tk (by rfl) (pa_cons (pv 0) (pa_cons (pv 1) (pa_cons (pv 2) pa_nil)))))
  (pss_one (ps_ret (pe_m c_count hr (by first | decide | omega) (pe_mk c_Choices hr (by first | decide | omega) (by rfl) (pa_cons (pv 0) (pa_cons (pv 1) pa_nil))) (pa_cons (pv 0) (pa_cons (pv 2) pa_nil)))))), ?_⟩
    walk_at "sq go"
    refine ⟨fun a0 g2 L0 => ?_, fun v hv d H1 s1 hd => qe v hv d H1 s1 hd⟩
    obtain ⟨a8, g60, L2, q⟩ := q a0 g2 L0
    obtain ⟨n, rfl⟩ := Int.eq_ofNat_of_zero_le a0
    obtain ⟨l, rfl⟩ := Int.eq_ofNat_of_zero_le L0
    walk_at "sq go"
    intro x dx nx ndx ne
    have nx1 : upd H dx (.own x) x = none := by
      rw [upd_ne (Ne.symm ne)]
      exact nx
    have s1 : Same H (upd (upd H dx (.own x)) x (.ins C dx [])) := (same_new ndx).trans (same_new nx1)
    walk_at "sq go"
    refine ⟨⟨by omega, g2, g60⟩, fun l1 d1 H1 b1 gd1 ch => ?_⟩
    have s2 := b1.same s1 nx
    have ho1 := ch.ho
    walk_at "sq go"
    refine ⟨⟨by omega, Nat.le_refl _, by omega, g2, g60, by omega⟩, fun H2 kvs2 b2 ch2 => ?_⟩
    exact q _ (b2.same s2 (s1.free gd1))
abbrev s_nth_list : Stmt := topS 9
theorem sc_nth_list : FnScope ["steps", "greatest", "length", "number", "choices", "found", "left", "first", "ways"] ["steps", "greatest", "length", "number"] (defScope s_nth_list) := ⟨rfl, rfl, rfl, by decide +kernel, rfl, by decide +kernel, by decide +kernel⟩

def spNth (CN : Addr) : Sp := fun vs H Q E => ∃ a g L x : Int, vs = [.int a, .int g, .int L, .int x] ∧ Keep ((0 ≤ a → 2 ≤ g → 0 ≤ L → a ≤ 8 ∧ g ≤ 60 ∧ L ≤ 20000 ∧ (0 ≤ x → x < cntC g a.toNat L → ∀ ns p H', nthC g a.toNat L x = some ns → ns.length = a.toNat → Same H H' → H p = none → H' p = some (.lst (iv ns)) → Q (.ref p) H')) ∧
  (∀ v : Int, (Bad3 a g L v ∨ (0 ≤ a ∧ 2 ≤ g ∧ 0 ≤ L ∧ ¬ (0 ≤ x ∧ x < cntC g a.toNat L) ∧ v = x)) → ∀ d H', Same H H' → H' d = some (.xd [("value", .int v)]) → E (.ref CN) (some d) H'))
theorem two_nth {C CN : Addr} (D : DefAt K mg "nth_list" s_nth_list ["steps", "greatest", "length", "number"]) (B : Bt mg) (c_check_argumentsX : CalX P w K mg base 3 "check_arguments" (spArgs CN)) (c_Choices : Mak P w K mg base 2 "Choices" C (spCInit C)) (c_count : Met P w K mg base 18 C "count" (spCount C 8))
    (c_count_behind : Met P w K mg base 19 C "count_behind" (spBehind C 9)) (c_firsts : Met P w K mg base 1 C "firsts" (spFirsts C)) (c_needed_reach : Cal P w K mg base 1 "needed_reach" spNeed []) (c_InvalidNumber : Rai P w K mg base 1 "InvalidNumber" CN) :
    Def2X P w K mg base 20 "nth_list" s_nth_list ["steps", "greatest", "length", "number"] (spNth CN) := by
  refine D.twoX sc_nth_list (fun vs H Q E h => ?_) (fun f cdv A outer s H vs Q E hr h tk => ?_)
  · obtain ⟨a, g, L, x, rfl, _⟩ := h
    rfl
  · obtain ⟨a, g, L, x, rfl, ⟨q, qe⟩⟩ := h
    refine ⟨_, (pss_cons (ps_expr (pe_cx c_check_argumentsX hr (by first | decide | omega) tk (by rfl) (pa_cons (pv 0) (pa_cons (pv 1) (pa_cons (pv 2) pa_nil)))))
  (pss_cons (ps_set (i := 4) sc_nth_list.nd rfl (Or.inl rfl) (pe_mk c_Choices hr (by first | decide | omega) (by rfl) (pa_cons (pv 0) (pa_cons (pv 1) pa_nil))))
  (pss_cons (ps_if (pt_not (pt_chain op_le op_lt pe_int (pv 3) (pe_m c_count hr (by first | decide | omega) (pv 4) (pa_cons (pv 0) (pa_cons (pv 2) pa_nil))))) (pss_one (ps_rx c_InvalidNumber hr (by first | decide | omega) (by rfl) tk (pv 3))) pss_nil)
  (pss_cons (ps_set (i := 5) sc_nth_list.nd rfl (Or.inl rfl) (pe_lst pa_nil))
  (pss_cons (ps_while PassesOwn.leaving (pt_cmpR op_lt (pe_callB (len_seqK (K := K)) (by rfl) B.len boot_len (pa_cons (pv 5) pa_nil)) (pv 0) (nomark _))
   (pss_cons (ps_set (i := 6) sc_nth_list.nd rfl (Or.inl rfl) (pe_op op_sub (pv 0) (pe_callB (len_seqK (K := K)) (by rfl) B.len boot_len (pa_cons (pv 5) pa_nil))))
  (pss_one (ps_for PassesOwn.leaving rfl (pi_listK (K := K) (pe_m0 c_firsts hr (by first | decide | omega) (pv 4))) (pg_name (i := 7) sc_nth_list.nd rfl (Or.inl rfl))
   (pss_cons (ps_set (i := 8) sc_nth_list.nd rfl (Or.inl rfl) (pe_m c_count_behind hr (by first | decide | omega) (pv 4) (pa_cons (pv 7) (pa_cons (pv 6) (pa_cons (pv 2) pa_nil)))))
  (pss_cons (ps_if (pt_cmpR op_lt (pv 3) (pv 8) (nomark _)) (pss_cons (ps_expr (pe_bm PySem.F.plainAttrs_list PySem.F.slot_list_append PySem.F.type_list_append mt_append (pv 5) (pa_cons (pv 7) pa_nil)))
  (pss_cons (ps_set (i := 2) sc_nth_list.nd rfl (Or.inl rfl) (pe_c c_needed_reach hr (by first | decide | omega) (by rfl) (pa_cons (pv 7) (pa_cons (pv 2) pa_nil))))
  (pss_one ps_break))) pss_nil)
  (pss_one (ps_aug (i := 3) sc_nth_list.nd rfl (Or.inl rfl) (pv 8) ip_sub))))))))
  (pss_one (ps_ret (pv 5)))))))), ?_⟩
    walk_at "sq go"
    refine ⟨fun a0 g2 L0 => ?_, fun v hv d H1 s1 hd => qe v (.inl hv) d H1 s1 hd⟩
    obtain ⟨a8, g60, L2, q⟩ := q a0 g2 L0
    obtain ⟨n, rfl⟩ := Int.eq_ofNat_of_zero_le a0
    obtain ⟨l, rfl⟩ := Int.eq_ofNat_of_zero_le L0
    rw [Int.toNat_natCast] at q qe
    walk_at "sq go"
    intro xo dx nx ndx ne
    have nx1 : upd H dx (.own xo) xo = none := by
      rw [upd_ne (Ne.symm ne)]
      exact nx
    have s1 : Same H (upd (upd H dx (.own xo)) xo (.ins C dx [])) := (same_new ndx).trans (same_new nx1)
    walk_at "sq go"
    refine ⟨⟨by omega, g2, g60⟩, fun l1 d1 H1 b1 gd1 ch => ?_⟩
    have s2 := b1.same s1 nx
    have gd := s1.free gd1
    have ho1 := ch.ho
    walk_at "sq go"
    refine ifD (fun x0 => ?_) (fun x0 => ?_)
    case refine_2 =>
      walk_at "sq go"
      intro d nd
      exact qe x (.inr ⟨a0, g2, L0, fun z => x0 z.1, rfl⟩) d _ (s2.trans (same_new nd)) upd_same
    walk_at "sq go"
    refine ⟨⟨by omega, Nat.le_refl _, by omega, g2, g60, by omega⟩, fun H2 kvs2 b2 ch2 => ?_⟩
    have s3 := b2.same s2 gd
    walk_at "sq go"
    refine ifN (fun xc => ?_) (fun xc => ?_)
    · walk_at "sq go"
      intro d nd
      exact qe x (.inr ⟨a0, g2, L0, fun z => xc z.2, rfl⟩) d _ (s3.trans (same_new nd)) upd_same
    replace q := q x0 xc
    walk_at "sq go"
    intro F nF
    have fF := ch2.free nF
    have gF := s3.free nF
    refine ⟨fun k σ H' => Keep (∃ (fs : List Int) (lc : Nat) (xc : Int) (kvs : List (List Key × V)) (y1 y2 y3 : Option V), σ = [some (.int (n : Nat)), some (.int g), some (.int (lc : Nat)), some (.int xc), some (.ref xo), some (.ref F), y1, y2, y3] ∧ n = fs.length + k ∧ lc ≤ 20000 ∧ 0 ≤ xc ∧ xc < cntC g k lc ∧
        nthC g n l x = (nthC g k lc xc).map (fun t => fs ++ t) ∧ Same H H' ∧ Ch1 C xo dx l1 d1 g n H' kvs ∧ H' F = some (.lst (iv fs))), ⟨n, [], l, x, kvs2, _, _, _, rfl, by simp, by omega, x0, xc, by simp, s3.trans (same_new nF), ch2.same (same_new nF), upd_same⟩, fun k σ H' h => ?_⟩
    obtain ⟨fs, lc, x1, kvs3, y1, y2, y3, rfl, en, lc2, x10, x1c, eq, sH, chH, hF⟩ := h.o
    clear h
    have lf : (iv fs).length = fs.length := iv_len _
    walk_at "sq go"
    refine ifD (fun c => ?_) (fun c => ?_)
    · obtain ⟨k, rfl⟩ : ∃ m, k = m + 1 := ⟨k - 1, by omega⟩
      refine ⟨fun σ H' => Keep (∃ (fs : List Int) (lc : Nat) (xc : Int) (kvs : List (List Key × V)) (y1 y2 y3 : Option V), σ = [some (.int (n : Nat)), some (.int g), some (.int (lc : Nat)), some (.int xc), some (.ref xo), some (.ref F), y1, y2, y3] ∧ n = fs.length + k ∧ lc ≤ 20000 ∧ 0 ≤ xc ∧ xc < cntC g k lc ∧
        nthC g n l x = (nthC g k lc xc).map (fun t => fs ++ t) ∧ Same H H' ∧ Ch1 C xo dx l1 d1 g n H' kvs ∧ H' F = some (.lst (iv fs))), fun σ' H3 h3 => ⟨k, by omega, h3⟩, ?_⟩
      have hoH := chH.ho
      walk_at "sq go"
      refine ⟨⟨g2, g60⟩, fun p np => ?_⟩
      have eleft : ((n : Nat) : Int) - (((iv fs).length : Nat) : Int) = ((k + 1 : Nat) : Int) := by omega
      have ch4 := chH.same (same_new (o := .lst (rgV 2 (g + 1))) np)
      have hF4 := upd_keep (o := .lst (rgV 2 (g + 1))) np hF
      have hp4 : upd H' p (.lst (rgV 2 (g + 1))) p = some (.lst (rgV 2 (g + 1))) := upd_same
      have s4 := sH.trans (same_new (o := .lst (rgV 2 (g + 1))) np)
      have npF : p ≠ F := fun z => by
        rw [z, hF] at np
        cases np
      generalize upd H' p (.lst (rgV 2 (g + 1))) = H4 at ch4 hF4 hp4 s4
      have lrg : (rgV 2 (g + 1)).length = (g - 1).toNat := by
        rw [rgV_length]
        congr 1
        omega
      walk_at "sq go"
      refine for_list (K := K) (a := p) (xs := rgV 2 (g + 1)) (fun i σ' H'' => Keep (∃ (x2 : Int) (kvs' : List (List Key × V)) (y2 y3 : Option V), σ' = [some (.int (n : Nat)), some (.int g), some (.int (lc : Nat)), some (.int x2), some (.ref xo), some (.ref F), some (.int ((k + 1 : Nat) : Int)), y2, y3] ∧ Same H H'' ∧ Ch1 C xo dx l1 d1 g n H'' kvs' ∧ H'' F = some (.lst (iv fs)) ∧ H'' p = some (.lst (rgV 2 (g + 1))) ∧ 0 ≤ x2 ∧
          x2 < ((((List.range (g - 1).toNat).drop i).map fun j => cntC g k (need (2 + (j : Nat)) lc))).sum ∧ nthG (fun j => cntC g k (need (2 + (j : Nat)) lc)) (fun j x => nthC g k (need (2 + (j : Nat)) lc) x) ((List.range (g - 1).toNat).drop i) x2 = nthC g (k + 1) lc x1)) ⟨x1, kvs3, y2, y3, (by
        show [some (V.int (n : Nat)), some (V.int g), some (V.int (lc : Nat)), some (V.int x1), some (V.ref xo), some (V.ref F), some (V.int (((n : Nat) : Int) - (((iv fs).length : Nat) : Int))), y2, y3] = _
        rw [eleft]), s4, ch4, hF4, hp4, x10, ?_, rfl⟩ (fun i σ' H'' _ h => ?_) (fun i v σ' H'' hx h => ?_) (fun σ' H'' h => ?_)
      · rw [List.drop_zero, ← cntC_succ x10 x1c]
        exact x1c
      · obtain ⟨x2, kvs', y2, y3, _, _, _, _, hp, _⟩ := h.o
        exact seqL_of hp
      · obtain ⟨x2, kvs', y2, y3, rfl, s5, ch5, hF5, hp5, x20, x2c, e2⟩ := h.o
        have li := (List.getElem?_eq_some_iff.mp hx).1
        rw [lrg] at li
        obtain rfl : v = .int (2 + ((i : Nat) : Int)) := by
          unfold rgV at hx
          rw [List.getElem?_map, List.getElem?_range (by omega)] at hx
          exact (Option.some.inj hx).symm
        have dr : (List.range (g - 1).toNat).drop i = i :: (List.range (g - 1).toNat).drop (i + 1) := by
          rw [List.drop_eq_getElem_cons (by rw [List.length_range]; exact li), List.getElem_range]
        rw [dr] at x2c e2
        have ho5 := ch5.ho
        walk_at "sq go"
        refine ⟨⟨by omega, by omega, by omega, g2, g60, lc2, by omega, by omega⟩, fun H6 kvs6 b6 ch6 => ?_⟩
        have gd1' := gd
        have s6 := b6.same s5 gd
        have nFd : F ≠ d1 := fF.2.2
        have npd : p ≠ d1 := fun z => by
          rw [z, ch5.hd] at hp5
          cases hp5
        have hF6 := b6 _ _ nFd hF5
        have hp6 := b6 _ _ npd hp5
        walk_at "sq go"
        refine ifD (fun c6 => ?_) (fun c6 => ?_)
        · have lfz : (iv fs).length < sizeLine := by
            rw [lf]
            exact small1000 (by omega)
          walk_at "sq go"
          refine ⟨⟨by omega, by omega⟩, ?_⟩
          obtain ⟨nb0, nb1⟩ := need_bd (k := 2 + ((i : Nat) : Int)) (L := ((lc : Nat) : Int)) (by omega) (by omega)
          obtain ⟨m, em⟩ := Int.eq_ofNat_of_zero_le nb0
          refine ⟨fs ++ [2 + ((i : Nat) : Int)], m, x2, kvs6, some (.int ((k + 1 : Nat) : Int)), some (.int (2 + ((i : Nat) : Int))), some (.int (cntC g k (need (2 + ((i : Nat) : Int)) ((lc : Nat) : Int)))), ?_, by simp; omega, by omega, x20, by rw [← em]; exact c6, ?_, fun b u e => upd_off (fun z => by rw [z, gF] at e; cases e) (s6 b u e), ch6.put fF.1 fF.2.1 fF.2.2, by rw [upd_same, iv_app]⟩
          · rw [← em]
            rfl
          · rw [eq, ← e2]
            show ((if x2 < cntC g k (need (2 + ((i : Nat) : Int)) lc) then (nthC g k (need (2 + ((i : Nat) : Int)) lc) x2).map (fun s => (2 + ((i : Nat) : Int)) :: s) else _).map _) = _
            rw [if_pos c6, map_map_app, em]
        · rw [List.map_cons, List.sum_cons] at x2c
          walk_at "sq go"
          refine ⟨x2 - cntC g k (need (2 + ((i : Nat) : Int)) ((lc : Nat) : Int)), kvs6, some (.int (2 + ((i : Nat) : Int))), some (.int (cntC g k (need (2 + ((i : Nat) : Int)) ((lc : Nat) : Int)))), rfl, s6, ch6, hF6, hp6, by omega, by omega, ?_⟩
          rw [← e2]
          exact (if_neg c6).symm
      · obtain ⟨x2, kvs', y2, y3, rfl, s5, ch5, hF5, hp5, x20, x2c, e2⟩ := h.o
        rw [lrg, List.drop_of_length_le (by simp)] at x2c
        exact absurd x2c (by simp; omega)
    · have k0 : k = 0 := by omega
      subst k0
      walk_at "sq go"
      refine q fs F H' ?_ (by omega) sH gF hF
      rw [eq]
      show some (fs ++ []) = some fs
      rw [List.append_nil]

/-! ### the bag of draws (a dict: great cells, what is left, a count, a blend) -/
def bagK (d : Addr) (a t m : Int) : List (Key × V) := [(.inr "great", .ref d), (.inr "left", .int a), (.inr "turn", .int t), (.inr "blend", .int m)]
theorem bag_g (d : Addr) (a t m : Int) : valV (bagK d a t m) (.inr ("great" : Str)) = some (.ref d) := rfl
theorem bag_l (d : Addr) (a t m : Int) : valV (bagK d a t m) (.inr ("left" : Str)) = some (.int a) := rfl
theorem bag_t (d : Addr) (a t m : Int) : valV (bagK d a t m) (.inr ("turn" : Str)) = some (.int t) := rfl
theorem bag_b (d : Addr) (a t m : Int) : valV (bagK d a t m) (.inr ("blend" : Str)) = some (.int m) := rfl
theorem bag_pl (d : Addr) (a t m a' : Int) : putK (bagK d a t m) (.inr ("left" : Str)) (.int a') = bagK d a' t m := rfl
theorem bag_pt (d : Addr) (a t m t' : Int) : putK (bagK d a t m) (.inr ("turn" : Str)) (.int t') = bagK d a t' m := rfl
def RD (r d : Addr) (N : Int) (ds : List Int) (a t m : Int) (H : Hp) : Prop :=
  H r = some (.dK (bagK d a t m)) ∧ H d = some (.lst (iv ds)) ∧ d ≠ r ∧ 0 ≤ m ∧ m < 2305843009213693952 ∧ 0 ≤ t ∧ t ≤ N
def rgD (r d : Addr) (N : Int) : Rg where
  I := fun H => ∃ ds a t m, RD r d N ds a t m H
  S := fun x => x = r ∨ x = d
  loc := fun H H' e ⟨ds, a, t, m, h1, h2, h3⟩ => ⟨ds, a, t, m, (e r (.inl rfl)).trans h1, (e d (.inr rfl)).trans h2, h3⟩
  has := fun H x ⟨ds, a, t, m, h1, h2, _⟩ hx => by
    rcases hx with rfl | rfl
    · rw [h1]; exact fun z => nomatch z
    · rw [h2]; exact fun z => nomatch z
theorem SepD.redo {r d : Addr} {N N' : Int} {G H H' : Hp} (s : Sep (rgD r d N) G H) (e : ∀ b o, b ≠ r → b ≠ d → H b = some o → H' b = some o) (h : ∃ ds a t m, RD r d N' ds a t m H') : Sep (rgD r d N') G H' := by
  refine ⟨h, fun b o q => ?_, s.off⟩
  have nr : b ≠ r := fun z => by
    have := s.off b (.inl z)
    rw [q] at this
    cases this
  have nd : b ≠ d := fun z => by
    have := s.off b (.inr z)
    rw [q] at this
    cases this
  exact e b o nr nd (s.same b o q)
theorem SepD.mono {r d : Addr} {N N' : Int} {G H : Hp} (s : Sep (rgD r d N) G H) (h : N ≤ N') : Sep (rgD r d N') G H := by
  obtain ⟨ds, a, t, m, h1, h2, h3, h4, h5, h6, h7⟩ := s.inv
  exact SepD.redo s (fun _ _ _ _ z => z) ⟨ds, a, t, m, h1, h2, h3, h4, h5, h6, by omega⟩
abbrev s_law_bag : Stmt := topS 11
theorem sc_law_bag : FnScope ["script", "blend", "great", "cell"] ["script"] (defScope s_law_bag) := ⟨rfl, rfl, rfl, by decide +kernel, rfl, by decide +kernel, by decide +kernel⟩

def spBag (K : PySem.W.Frag) : Sp := fun vs H Q _ => ∃ (p : Addr) (ns : List Int), vs = [.ref p] ∧ SqL K H p (iv ns) ∧ ns.length ≤ 63 ∧ ∀ r d H', Same H H' → Sep (rgD r d 0) H H' → Q (.ref r) H'
theorem cal_bag (D : DefAt K mg "_law_bag" s_law_bag ["script"]) (B : Bt mg) : Cal P w K mg base 1 "_law_bag" (spBag K) [] := by
  refine D.cal sc_law_bag (fun vs H Q E h => ?_) (fun f cdv A outer s H vs Q E hr h => ?_)
  · obtain ⟨p, ns, rfl, _⟩ := h
    rfl
  · obtain ⟨p, ns, rfl, hS, hl, q⟩ := h
    refine ⟨_, (pss_cons (ps_par (i := 1) (j := 2) rfl sc_law_bag.nd rfl rfl (by decide) rfl rfl (pa_cons pe_int (pa_cons (pe_lst pa_nil) pa_nil)) (by rfl))
  (pss_cons (ps_for PassesOwn.never rfl (pi_listK (K := K) (pv 0)) (pg_name (i := 3) sc_law_bag.nd rfl (Or.inl rfl))
   (pss_cons (ps_set (i := 1) sc_law_bag.nd rfl (Or.inl rfl) (pe_op op_mod (pe_op op_add (pe_op op_mulW (pv 1) pe_int) (pv 3)) pe_int))
  (pss_one (ps_if (pt_cmpR op_ge (pe_callB call_abs (by rfl) B.abs (by decide +kernel) (pa_cons (pv 3) pa_nil)) (pe_op op_powW pe_int pe_int) (nomark _)) (pss_one (ps_expr (pe_bm PySem.F.plainAttrs_list PySem.F.slot_list_append PySem.F.type_list_append mt_append (pv 2) (pa_cons (pe_callB call_abs (by rfl) B.abs (by decide +kernel) (pa_cons (pv 3) pa_nil)) pa_nil)))) pss_nil))))
  (pss_one (ps_ret (pe_disp (pps_cons pe_str (pv 2) (pps_cons pe_str pe_int (pps_cons pe_str pe_int (pps_cons pe_str (pv 1) pps_nil)))) rfl rfl (List.cons_ne_nil _ _) (by decide)))))), ?_⟩
    walk_at "sq go"
    intro d nd
    have s1 : Same H (upd H d (.lst [])) := same_new nd
    have npd : ∀ H' : Hp, Same H H' → SqL K H' p (iv ns) := fun H' s => s.seq hS
    walk_at "sq go"
    refine for_list (K := K) (a := p) (xs := iv ns) (fun i σ H' => Keep (∃ ds m z, σ = [some (.ref p), some (.int m), some (.ref d), z] ∧ H' = upd H d (.lst (iv ds)) ∧ 0 ≤ m ∧ m < 2305843009213693952 ∧ ds.length ≤ i)) ⟨[], 11, none, rfl, rfl, by decide, by decide, Nat.le_refl _⟩ (fun i σ H' _ h => ?_) (fun i x σ H' hx h => ?_) (fun σ H' h => ?_)
    · obtain ⟨ds, m, z, _, rfl, _⟩ := h.o
      exact npd _ (same_new nd)
    · obtain ⟨ds, m, z, rfl, rfl, m0, m1, hds⟩ := h.o
      obtain ⟨n, hn, rfl⟩ := iv_get hx
      have hi : i < ns.length := (List.getElem?_eq_some_iff.mp hn).1
      have hm : CMulW m 1000003 := Sm.wide (a := 61) (b := 20) (by unfold Sm; omega) (by unfold Sm; decide) (by decide) (by decide) (by decide)
      have r0 : ∀ y : Int, 0 ≤ y % 2305843009213693951 := fun y => Int.emod_nonneg y (by decide)
      have r1 : ∀ y : Int, y % 2305843009213693951 < 2305843009213693951 := fun y => Int.emod_lt_of_pos y (by decide)
      have lds : (iv ds).length < sizeLine := by
        rw [iv_len]
        exact small1000 (by omega)
      walk_at "sq go"
      refine ifD (fun c => ?_) (fun c => ?_)
      · walk_at "sq go"
        refine ⟨ds ++ [if n < 0 then -n else n], _, _, rfl, ?_, r0 _, Int.lt_trans (r1 _) (by decide), ?_⟩
        · rw [upd_upd, iv_app]
        · rw [List.length_append, List.length_singleton]
          omega
      · exact ⟨ds, _, _, rfl, rfl, r0 _, Int.lt_trans (r1 _) (by decide), by omega⟩
    · obtain ⟨ds, m, z, rfl, rfl, m0, m1, hds⟩ := h.o
      walk_at "sq go"
      intro r nr
      have ndr : d ≠ r := fun e => by
        rw [← e, upd_same] at nr
        cases nr
      have s2 : Same H (upd H d (.lst (iv ds))) := same_new nd
      walk_at "sq go"
      refine ⟨(rfl : _ = (bagK d 0 0 m).map (fun kv => (kV kv.1, kv.2))), (by decide : 4 ≤ 15), ?_⟩
      have em : mergeK [] (bagK d 0 0 m) = bagK d 0 0 m := rfl
      rw [upd_upd, em]
      refine q r d _ (s2.trans (same_new nr)) ⟨⟨ds, 0, 0, m, upd_same, by rw [upd_ne ndr, upd_same], ndr, m0, m1, by decide, by decide⟩, s2.trans (same_new nr), fun a ha => ?_⟩
      rcases ha with rfl | rfl
      · exact s2.free nr
      · exact nd
theorem dg_g {H : Hp} {r d : Addr} {a t m : Int} (h : H r = some (.dK (bagK d a t m))) : DGet H r (.str ("great" : Str)) (some (.ref d)) := DGet.k (kvs := bagK d a t m) (k := .inr ("great" : Str)) h
theorem dg_l {H : Hp} {r d : Addr} {a t m : Int} (h : H r = some (.dK (bagK d a t m))) : DGet H r (.str ("left" : Str)) (some (.int a)) := DGet.k (kvs := bagK d a t m) (k := .inr ("left" : Str)) h
theorem dg_t {H : Hp} {r d : Addr} {a t m : Int} (h : H r = some (.dK (bagK d a t m))) : DGet H r (.str ("turn" : Str)) (some (.int t)) := DGet.k (kvs := bagK d a t m) (k := .inr ("turn" : Str)) h
theorem dg_b {H : Hp} {r d : Addr} {a t m : Int} (h : H r = some (.dK (bagK d a t m))) : DGet H r (.str ("blend" : Str)) (some (.int m)) := DGet.k (kvs := bagK d a t m) (k := .inr ("blend" : Str)) h
theorem dp_l {H : Hp} {r d : Addr} {a t m a' : Int} (h : H r = some (.dK (bagK d a t m))) : DPut H r (.str ("left" : Str)) (.int a') (upd H r (.dK (bagK d a' t m))) := DPut.k (kvs := bagK d a t m) (k := .inr ("left" : Str)) (v := .int a') h (Nat.le_of_ble_eq_true rfl)
theorem dp_t {H : Hp} {r d : Addr} {a t m t' : Int} (h : H r = some (.dK (bagK d a t m))) : DPut H r (.str ("turn" : Str)) (.int t') (upd H r (.dK (bagK d a t' m))) := DPut.k (kvs := bagK d a t m) (k := .inr ("turn" : Str)) (v := .int t') h (Nat.le_of_ble_eq_true rfl)
local macro_rules | `(tactic| walk_at "sq side") => `(tactic| first
  | ((with_reducible show DGet _ _ _ _); first | exact dg_l (by first | assumption | exact upd_same) | exact dg_t (by first | assumption | exact upd_same) | exact dg_b (by first | assumption | exact upd_same) | exact dg_g (by first | assumption | exact upd_same))
  | ((with_reducible show DPut _ _ _ _ _); first | exact dp_l (by first | assumption | exact upd_same) | exact dp_t (by first | assumption | exact upd_same)))
abbrev s_law_draw : Stmt := topS 12
theorem sc_law_draw : FnScope ["bag", "many", "drawn", "turn", "mixed"] ["bag", "many"] (defScope s_law_draw) := ⟨rfl, rfl, rfl, by decide +kernel, rfl, by decide +kernel, by decide +kernel⟩

def spDrawD : Sp := fun vs H Q _ => ∃ (r d : Addr) (m N : Int) (G : Hp), vs = [.ref r, .int m] ∧ Sep (rgD r d N) G H ∧ Keep (0 < m ∧ m < 2 ^ 240 ∧ N < 2 ^ 60) ∧ ∀ v H', 0 ≤ v → v < m → Sep (rgD r d (N + 1)) G H' → Q (.int v) H'
theorem cal_drawD (D : DefAt K mg "_law_draw" s_law_draw ["bag", "many"]) (B : Bt mg) : Cal P w K mg base 1 "_law_draw" spDrawD [] := by
  refine D.cal sc_law_draw (fun vs H Q E h => ?_) (fun f cdv A outer s H vs Q E hr h => ?_)
  · obtain ⟨r, d, m, N, G, rfl, _⟩ := h
    rfl
  · obtain ⟨r, d, m, N, G, rfl, hS, ⟨hm, hmb, hN⟩, q⟩ := h
    have hmz : m.natAbs.log2 < 9000 := Nat.lt_trans ((show Sm 240 m by unfold Sm; omega).lg (by decide)) (by decide)
    obtain ⟨ds, a, t, b, hr0, hd0, ndr, b0, b1, t0, t1⟩ := id hS.inv
    refine ⟨_, (pss_cons (ps_if (PW.pt (pw_and (pt_cmpR op_lt (pe_dget (hu_of hr) (pv 0) pe_str (fun _ _ => rfl)) (pv 1) (nomark _)) (pw_and1 (pt_cmpR op_gt (pe_callB (len_seqK (K := K)) (by rfl) B.len boot_len (pa_cons (pe_dget (hu_of hr) (pv 0) pe_str (fun _ _ => rfl)) pa_nil)) pe_int (nomark _))))) (pss_one (ps_dput (hu_of hr) (pv 0) pe_str (pe_bm PySem.F.plainAttrs_list PySem.F.slot_list_pop PySem.F.type_list_pop mt_popAt (pe_dget (hu_of hr) (pv 0) pe_str (fun _ _ => rfl)) (pa_cons pe_int pa_nil)) rfl)) pss_nil)
  (pss_cons (ps_if (pt_cmpR op_ge (pe_dget (hu_of hr) (pv 0) pe_str (fun _ _ => rfl)) (pv 1) (nomark _)) (pss_cons (ps_set (i := 2) sc_law_draw.nd rfl (Or.inl rfl) (pe_op op_mod (pe_dget (hu_of hr) (pv 0) pe_str (fun _ _ => rfl)) (pv 1)))
  (pss_cons (ps_dput (hu_of hr) (pv 0) pe_str (pe_op op_fdivW (pe_dget (hu_of hr) (pv 0) pe_str (fun _ _ => rfl)) (pv 1)) rfl)
  (pss_one (ps_ret (pv 2))))) pss_nil)
  (pss_cons (ps_daug (hu_of hr) (pv 0) pe_str pe_int in_add (fun _ _ _ => rfl))
  (pss_cons (ps_set (i := 3) sc_law_draw.nd rfl (Or.inl rfl) (pe_dget (hu_of hr) (pv 0) pe_str (fun _ _ => rfl)))
  (pss_cons (ps_set (i := 4) sc_law_draw.nd rfl (Or.inl rfl) (pe_op op_add (pe_op op_mulW (pe_op op_add (pe_dget (hu_of hr) (pv 0) pe_str (fun _ _ => rfl)) (pe_op op_mulW pe_int (pv 3))) (pe_op op_powW (pe_op op_add (pv 3) pe_int) pe_int)) (pe_op op_mulW pe_int (pv 3))))
  (pss_one (ps_ret (pe_op op_mod (pe_op op_fdivW (pe_op op_mod (pe_op op_powW (pe_op op_mod (pv 4) pe_int) pe_int) (pe_op op_add (pe_op op_powW pe_int pe_int) pe_int)) pe_int) (pv 1))))))))), ?_⟩
    have p3 : CPowW (((b + 17 * (t + 1)) * (t + 1 + 29) ^ (2 : Int).toNat + 7919 * (t + 1)) % 2305843009213693951) 3 := by
      generalize (b + 17 * (t + 1)) * (t + 1 + 29) ^ (2 : Int).toNat + 7919 * (t + 1) = y
      exact ⟨by decide, by decide, Nat.lt_trans ((show Sm 61 (y % 2305843009213693951) by unfold Sm; omega).lg (by decide)) (by decide)⟩
    have p2 : CPowW (t + 1 + 29) 2 := ⟨by decide, by decide, Nat.lt_trans ((show Sm 61 (t + 1 + 29) by unfold Sm; omega).lg (by decide)) (by decide)⟩
    have m1 : CMulW 17 (t + 1) := Sm.wide (a := 20) (b := 61) (by unfold Sm; decide) (by unfold Sm; omega) (by decide) (by decide) (by decide)
    have m2 : CMulW 7919 (t + 1) := Sm.wide (a := 20) (b := 61) (by unfold Sm; decide) (by unfold Sm; omega) (by decide) (by decide) (by decide)
    have m3 : CMulW (b + 17 * (t + 1)) ((t + 1 + 29) ^ (2 : Int).toNat) := by
      have e1 : Sm 70 (b + 17 * (t + 1)) := by unfold Sm; omega
      have e2 : Sm 61 (t + 1 + 29) := by unfold Sm; omega
      have e3 : (t + 1 + 29) ^ (2 : Int).toNat = (t + 1 + 29) * (t + 1 + 29) := by
        show (t + 1 + 29) ^ 2 = _
        rw [Int.pow_succ, Int.pow_succ, Int.pow_zero, Int.one_mul]
      rw [e3]
      exact e1.wide (e2.mul e2) (by decide) (by decide) (by decide)
    have d64 : ∀ y, CDivW y 64 := fun y => div_ok (by decide) (by decide)
    have v0 : ∀ y : Int, 0 ≤ y % m := fun y => Int.emod_nonneg y (show m ≠ 0 by omega)
    have v1 : ∀ y : Int, y % m < m := fun y => Int.emod_lt_of_pos y hm
    walk_at "sq go"
    refine ifD (fun c1 => ?_) (fun c1 => ?_)
    · walk_at "sq go"
      refine ifD (fun c2 => ?_) (fun c2 => ?_)
      · obtain ⟨x, rest, rfl⟩ : ∃ x rest, ds = x :: rest := by
          cases ds with
          | nil => exact absurd c2 (by decide)
          | cons x rest => exact ⟨x, rest, rfl⟩
        have hr1 : upd H d (.lst (iv rest)) r = some (.dK (bagK d a t b)) := by
          rw [upd_ne (Ne.symm ndr)]
          exact hr0
        walk_at "sq go"
        refine ⟨seqIx0 (by simp), ?_⟩
        walk_at "sq go"
        have gr : upd (upd H d (.lst (iv rest))) r (.dK (bagK d x t b)) r = some (.dK (bagK d x t b)) := upd_same
        have gd : upd (upd H d (.lst (iv rest))) r (.dK (bagK d x t b)) d = some (.lst (iv rest)) := by
          rw [upd_ne ndr, upd_same]
        have ge : ∀ b' o, b' ≠ r → b' ≠ d → H b' = some o → upd (upd H d (.lst (iv rest))) r (.dK (bagK d x t b)) b' = some o := fun b' o h1 h2 z => upd_off h1 (upd_off h2 z)
        walk_at "sq go"
        refine ifD (fun c4 => ?_) (fun c4 => ?_)
        · walk_at "sq go"
          try refine ⟨⟨hm, hmz⟩, ?_⟩
          try walk_at "sq go"
          exact q _ _ (v0 _) (v1 _) (SepD.redo hS (fun b' o k1 k2 z => upd_off k1 (ge b' o k1 k2 z)) ⟨_, _, _, _, upd_same, by rw [upd_ne ndr]; exact gd, ndr, b0, b1, t0, by omega⟩)
        · walk_at "sq go"
          exact q _ _ (v0 _) (v1 _) (SepD.redo hS (fun b' o k1 k2 z => upd_off k1 (ge b' o k1 k2 z)) ⟨_, _, _, _, upd_same, by rw [upd_ne ndr]; exact gd, ndr, b0, b1, by omega, by omega⟩)
      · have gr := hr0
        have gd := hd0
        have ge : ∀ b o, b ≠ r → b ≠ d → H b = some o → H b = some o := fun _ _ _ _ z => z
        walk_at "sq go"
        refine ifD (fun c4 => ?_) (fun c4 => ?_)
        · walk_at "sq go"
          try refine ⟨⟨hm, hmz⟩, ?_⟩
          try walk_at "sq go"
          exact q _ _ (v0 _) (v1 _) (SepD.redo hS (fun b' o k1 k2 z => upd_off k1 (ge b' o k1 k2 z)) ⟨_, _, _, _, upd_same, by rw [upd_ne ndr]; exact gd, ndr, b0, b1, t0, by omega⟩)
        · walk_at "sq go"
          exact q _ _ (v0 _) (v1 _) (SepD.redo hS (fun b' o k1 k2 z => upd_off k1 (ge b' o k1 k2 z)) ⟨_, _, _, _, upd_same, by rw [upd_ne ndr]; exact gd, ndr, b0, b1, by omega, by omega⟩)
    · have gr := hr0
      have gd := hd0
      have ge : ∀ b o, b ≠ r → b ≠ d → H b = some o → H b = some o := fun _ _ _ _ z => z
      walk_at "sq go"
      refine ifD (fun c4 => ?_) (fun c4 => ?_)
      · walk_at "sq go"
        try refine ⟨⟨hm, hmz⟩, ?_⟩
        try walk_at "sq go"
        exact q _ _ (v0 _) (v1 _) (SepD.redo hS (fun b' o k1 k2 z => upd_off k1 (ge b' o k1 k2 z)) ⟨_, _, _, _, upd_same, by rw [upd_ne ndr]; exact gd, ndr, b0, b1, t0, by omega⟩)
      · walk_at "sq go"
        exact q _ _ (v0 _) (v1 _) (SepD.redo hS (fun b' o k1 k2 z => upd_off k1 (ge b' o k1 k2 z)) ⟨_, _, _, _, upd_same, by rw [upd_ne ndr]; exact gd, ndr, b0, b1, by omega, by omega⟩)

abbrev s_law_after : Stmt := topS 13
theorem sc_law_after : FnScope ["many", "steps_now", "k"] ["many", "steps_now"] (defScope s_law_after) := ⟨rfl, rfl, rfl, by decide +kernel, rfl, by decide +kernel, by decide +kernel⟩

def spAfter (K : PySem.W.Frag) : Sp := fun vs H Q _ => ∃ (n : Int) (p : Addr) (ns : List Int), vs = [.int n, .ref p] ∧ SqL K H p (iv ns) ∧ Keep (Mid ns) ∧ Q (.int (sqz n ns)) H
theorem cal_after (D : DefAt K mg "_law_after" s_law_after ["many", "steps_now"]) (B : Bt mg) : Cal P w K mg base 1 "_law_after" (spAfter K) [] := by
  refine D.cal sc_law_after (fun vs H Q E h => ?_) (fun f cdv A outer s H vs Q E hr h => ?_)
  · obtain ⟨n, p, ns, rfl, _⟩ := h
    rfl
  · obtain ⟨n, p, ns, rfl, hS, ⟨hm⟩, q⟩ := h
    refine ⟨_, (pss_cons (ps_for PassesOwn.never rfl (pi_listK (K := K) (pv 1)) (pg_name (i := 2) sc_law_after.nd rfl (Or.inl rfl))
   (pss_one (ps_set (i := 0) sc_law_after.nd rfl (Or.inl rfl) (pe_op op_add (pe_op op_fdivW (pv 0) (pv 2)) (pe_op op_mod (pv 0) (pv 2))))))
  (pss_one (ps_ret (pv 0)))), ?_⟩
    walk_at "sq go"
    refine for_list (K := K) (a := p) (xs := iv ns) (fun i σ H' => Keep (∃ x, σ = [some (.int (sqz n (ns.take i))), some (.ref p), x] ∧ H' = H)) ⟨none, rfl, rfl⟩ (fun i σ H' _ h => ?_) (fun i x σ H' hx h => ?_) (fun σ H' h => ?_)
    · obtain ⟨x, _, rfl⟩ := h.o
      exact hS
    · obtain ⟨x, rfl, rfl⟩ := h.o
      obtain ⟨k, hk, rfl⟩ := iv_get hx
      have km := hm k (List.mem_of_getElem? hk)
      have c : CDivW (sqz n (ns.take i)) k := div_ok (by omega) km.2
      walk_at "sq go"
      exact ⟨_, by rw [sqz_take hk]; rfl, rfl⟩
    · obtain ⟨x, rfl, rfl⟩ := h.o
      have e : (iv ns).length = ns.length := iv_len _
      rw [e, List.take_length]
      walk_at "sq go"
      exact q
/-- small lists -/
def Sml (ns : List Int) : Prop := (∀ k ∈ ns, 2 ≤ k ∧ k ≤ 60) ∧ ns.length ≤ 8
theorem Sml.mid {ns : List Int} (h : Sml ns) : Mid ns := fun k hk => ⟨(h.1 k hk).1, Int.lt_of_le_of_lt (h.1 k hk).2 (by decide)⟩
abbrev s_law_reach : Stmt := topS 14
theorem sc_law_reach : FnScope ["steps_now", "found", "k"] ["steps_now"] (defScope s_law_reach) := ⟨rfl, rfl, rfl, by decide +kernel, rfl, by decide +kernel, by decide +kernel⟩

def spLReach (K : PySem.W.Frag) : Sp := fun vs H Q _ => ∃ (p : Addr) (ns : List Int), vs = [.ref p] ∧ SqL K H p (iv ns) ∧ Keep (Sml ns) ∧ ∀ H', Same H H' → Q (.int (reachOf ns 1)) H'
theorem cal_lreach (D : DefAt K mg "_law_reach" s_law_reach ["steps_now"]) (B : Bt mg) : Cal P w K mg base 1 "_law_reach" (spLReach K) [] := by
  refine D.cal sc_law_reach (fun vs H Q E h => ?_) (fun f cdv A outer s H vs Q E hr h => ?_)
  · obtain ⟨p, ns, rfl, _⟩ := h
    rfl
  · obtain ⟨p, ns, rfl, hS, ⟨sml⟩, q⟩ := h
    have h2 : Two ns := sml.mid.two
    refine ⟨_, (pss_cons (ps_set (i := 1) sc_law_reach.nd rfl (Or.inl rfl) pe_int)
  (pss_cons (ps_for PassesOwn.never rfl (pi_listK (K := K) (pe_revLK (K := K) (pv 0))) (pg_name (i := 2) sc_law_reach.nd rfl (Or.inl rfl))
   (pss_one (ps_if (pt_cmpR op_le (pv 2) (pe_op op_add (pv 1) pe_int) (nomark _)) (pss_one (ps_set (i := 1) sc_law_reach.nd rfl (Or.inl rfl) (pe_op op_sub (pe_op op_mulW (pe_op op_sub (pe_op op_add (pv 1) pe_int) (pv 2)) (pv 2)) pe_int))) pss_nil)))
  (pss_one (ps_ret (pv 1))))), ?_⟩
    walk_at "sq go"
    intro t nt
    have sm := same_new (o := .lst (iv ns).reverse) nt
    have ht : SqL K (upd H t (.lst (iv ns).reverse)) t (iv ns.reverse) := by
      have e : iv ns.reverse = (iv ns).reverse := List.map_reverse ..
      rw [e]
      exact seqL_of upd_same
    walk_at "sq go"
    refine for_list (K := K) (a := t) (xs := iv ns.reverse) (fun i σ H' => Keep (∃ z, σ = [some (.ref p), some (.int ((ns.reverse.take i).foldl rb 1)), z] ∧ H' = upd H t (.lst (iv ns).reverse))) ⟨none, rfl, rfl⟩ (fun i σ H' _ h => ?_) (fun i x σ H' hx h => ?_) (fun σ H' h => ?_)
    · obtain ⟨_, _, rfl⟩ := h.o
      exact ht
    · obtain ⟨z, rfl, rfl⟩ := h.o
      obtain ⟨k, hk, rfl⟩ := iv_get hx
      have mk : k ∈ ns := List.mem_reverse.mp (List.mem_of_getElem? hk)
      have tk : Two (ns.reverse.take i) := fun j hj => h2 j (List.mem_reverse.mp (List.mem_of_mem_take hj))
      have len : (ns.reverse.take i).length ≤ ns.length := by
        rw [List.length_take, List.length_reverse]
        omega
      have sR := rbs_SmC (row := ns.reverse.take i) (m := 1) (b := 10) (c := 10) (by decide) tk (fun j hj => by
        have := sml.1 j (List.mem_reverse.mp (List.mem_of_mem_take hj))
        unfold Sm
        omega) (by unfold Sm; decide) (by decide)
      have pR := rbs_posC (m := 1) (by decide) tk
      have e2 := foldr_take_revC (m := 1) hk
      have l8 := sml.2
      have sR2 : Sm 90 ((ns.reverse.take i).foldl rb 1) := sR.mono (by omega)
      generalize (ns.reverse.take i).foldl rb 1 = R at sR2 pR e2 ⊢
      have k2 := sml.1 k mk
      walk_at "sq go"
      refine ifD (fun c => ?_) (fun c => ?_)
      · have wm : CMulW (R + 3 - k) k := Sm.wide (a := 91) (b := 10) (Sm.le (j := R + 3) (Sm.add sR2 (Sm.of (by decide) (by decide))) (by omega) (by omega)) (by unfold Sm; omega) (by decide) (by decide) (by decide)
        walk_at "sq go"
        refine ⟨_, by rw [e2]; unfold rb; rw [if_neg (by omega)]; rfl, rfl⟩
      · refine ⟨_, by rw [e2]; unfold rb; rw [if_pos (by omega)]; rfl, rfl⟩
    · obtain ⟨z, rfl, rfl⟩ := h.o
      have e : (iv ns.reverse).length = ns.reverse.length := iv_len _
      rw [e, List.take_length, reachOf_revC]
      walk_at "sq go"
      exact q _ sm
abbrev s_law_all_lists : Stmt := topS 15
theorem sc_law_all_lists : FnScope ["many", "largest", "found", "spot", "longer", "one", "k"] ["many", "largest"] (defScope s_law_all_lists) := ⟨rfl, rfl, rfl, by decide +kernel, rfl, by decide +kernel, by decide +kernel⟩

def spAllL : Sp := fun vs H Q _ => ∃ (n : Nat) (g : Int), vs = [.int (n : Nat), .int g] ∧ Keep (n ≤ 4 ∧ 2 ≤ g ∧ g ≤ 7) ∧ ∀ l H', Same H H' → H l = none → LL H H' l (allL g n) → Q (.ref l) H'
theorem allL_len {g : Int} (g7 : g ≤ 7) : ∀ n : Nat, (allL g n).length ≤ 6 ^ n
  | 0 => Nat.le_refl 1
  | n + 1 => by
    have ih := allL_len g7 n
    have : ∀ l : List (List Int), (l.flatMap fun one => (ks g).map fun k => one ++ [k]).length ≤ l.length * 6 := fun l => by
      induction l with
      | nil => exact Nat.zero_le _
      | cons a r ih2 =>
        have lk : (ks g).length ≤ 6 := by
          unfold ks
          rw [List.length_map, List.length_range]
          omega
        rw [List.flatMap_cons, List.length_append, List.length_map, List.length_cons, Nat.add_mul]
        omega
    have t := this (allL g n)
    rw [Nat.pow_succ]
    exact Nat.le_trans t (Nat.mul_le_mul_right 6 ih)
theorem cal_allL (D : DefAt K mg "_law_all_lists" s_law_all_lists ["many", "largest"]) (B : Bt mg) : Cal P w K mg base 1 "_law_all_lists" spAllL [] := by
  refine D.cal sc_law_all_lists (fun vs H Q E h => ?_) (fun f cdv A outer s H vs Q E hr h => ?_)
  · obtain ⟨n, g, rfl, _⟩ := h
    rfl
  · obtain ⟨n, g, rfl, ⟨n4, g2, g7⟩, q⟩ := h
    refine ⟨_, (pss_cons (ps_set (i := 2) sc_law_all_lists.nd rfl (Or.inl rfl) (pe_lst (pa_cons (pe_lst pa_nil) pa_nil)))
  (pss_cons (ps_for PassesOwn.never rfl (pi_range1 (by rfl) B.range (pa_cons (pv 0) pa_nil)) (pg_name (i := 3) sc_law_all_lists.nd rfl (Or.inl rfl))
   (pss_cons (ps_set (i := 4) sc_law_all_lists.nd rfl (Or.inl rfl) (pe_lst pa_nil))
  (pss_cons (ps_for PassesOwn.never rfl (pi_listK (K := K) (pv 2)) (pg_name (i := 5) sc_law_all_lists.nd rfl (Or.inr rfl))
   (pss_one (ps_expr (pe_bm PySem.F.plainAttrs_list PySem.F.slot_list_extend PySem.F.type_list_extend mt_extend (pv 4) (pa_cons (pe_lc (own := [("k", 6)]) (g := gName 6) (by rfl) sc_law_all_lists.nd (pi_range2 (by rfl) B.range (pa_cons pe_int (pa_cons (pe_op op_add (pv 1) pe_int) pa_nil))) (blkOk_by (own := [("k", 6)]) (N := ["many", "largest", "found", "spot", "longer", "one", "k"]) (sc := defScope s_law_all_lists) (by decide +kernel)) (fun _ _ _ _ _ => (pg_name (i := 6) sc_law_all_lists.nd rfl (Or.inl rfl))) (fun _ _ _ _ _ => pts_nil) (fun _ _ _ _ _ => (pe_op op_cat (pv 5) (pe_lst (pa_cons (pv 6) pa_nil))))) pa_nil)))))
  (pss_one (ps_set (i := 2) sc_law_all_lists.nd rfl (Or.inl rfl) (pv 4))))))
  (pss_one (ps_ret (pv 2))))), ?_⟩
    walk_at "sq go"
    intro p0 np0
    walk_at "sq go"
    intro l0 nl0
    have npl : p0 ≠ l0 := fun z => by
      rw [← z, upd_same] at nl0
      cases nl0
    have gl0 : H l0 = none := (same_new (o := .lst []) np0).free nl0
    have h0 : LL H (upd (upd H p0 (.lst [])) l0 (.lst [.ref p0])) l0 (allL g 0) := ⟨[p0], upd_same, rfl, fun p hp => by
      rw [List.mem_singleton.mp hp]
      exact ⟨npl, np0⟩, fun i p ns h1 h2 => by
      cases i with
      | zero =>
        have e1 : p0 = p := Option.some.inj h1
        have e2 : [] = ns := Option.some.inj h2
        rw [← e1, ← e2, upd_ne npl, upd_same]
        rfl
      | succ i => cases h1⟩
    walk_at "sq go"
    refine for_range (lo := 0) (n := n) (fun i σ H' => Keep (∃ l x3 x4 x5 x6, σ = [some (.int (n : Nat)), some (.int g), some (.ref l), x3, x4, x5, x6] ∧ Same H H' ∧ H l = none ∧ LL H H' l (allL g i))) ⟨l0, none, none, none, none, rfl, (same_new np0).trans (same_new nl0), gl0, h0⟩ (fun i σ H' hi h => ?_) (fun σ H' h => ?_)
    · obtain ⟨l, x3, x4, x5, x6, rfl, sH, gl, hL⟩ := h.o
      walk_at "sq go"
      intro lo nlo
      have glo := sH.free nlo
      have sL := same_new (o := .lst []) nlo
      obtain ⟨xs, ex, lx⟩ := hL.len
      have ex1 := sL _ _ ex
      have lA : (allL g i).length ≤ 1296 := by
        have a := allL_len g7 i
        have b : 6 ^ i ≤ 6 ^ 4 := Nat.pow_le_pow_right (by decide) (by omega)
        omega
      walk_at "sq go"
      refine for_list (K := K) (a := l) (xs := xs) (fun j σ' H'' => Keep (∃ x5 x6, σ' = [some (.int (n : Nat)), some (.int g), some (.ref l), some (.int (0 + ((i : Nat) : Int))), some (.ref lo), x5, x6] ∧ Same H' H'' ∧ LL H' H'' lo (((allL g i).take j).flatMap fun one => (ks g).map fun k => one ++ [k]))) ⟨x5, x6, rfl, sL, LL.nil upd_same⟩ (fun j σ' H'' _ h => ?_) (fun j v σ' H'' hx h => ?_) (fun σ' H'' h => ?_)
      · obtain ⟨x5, x6, _, s1, _⟩ := h.o
        exact seqL_of (s1 _ _ ex)
      · obtain ⟨x5, x6, rfl, s1, hLo⟩ := h.o
        have lj : j < (allL g i).length := by
          have := (List.getElem?_eq_some_iff.mp hx).1
          omega
        have eo := List.getElem?_eq_getElem lj
        generalize (allL g i)[j] = one at eo
        obtain ⟨p, xs', ex', exj, _, hp, _, gp⟩ := hL.get eo
        have exx : xs' = xs := by
          rw [ex] at ex'
          exact (HO.lst.inj (Option.some.inj ex')).symm
        subst exx
        obtain rfl : v = .ref p := by
          rw [exj] at hx
          exact (Option.some.inj hx).symm
        have hp1 := s1 _ _ hp
        have l4 : one.length ≤ 4 := by
          rw [(allL_mem (List.mem_of_getElem? eo)).1]
          omega
        have tk : ((allL g i).take (j + 1)).flatMap (fun one => (ks g).map fun k => one ++ [k]) = ((allL g i).take j).flatMap (fun one => (ks g).map fun k => one ++ [k]) ++ (ks g).map fun k => one ++ [k] := by
          rw [List.take_add_one, eo, List.flatMap_append]
          simp
        obtain ⟨ys, ey, ly⟩ := hLo.len
        have lks : (ks g).length = (g - 1).toNat := by
          unfold ks
          rw [List.length_map, List.length_range]
        have lro : (((allL g i).take j).flatMap (fun one => (ks g).map fun k => one ++ [k])).length ≤ 20000 := by
          have : ∀ l : List (List Int), (l.flatMap fun one => (ks g).map fun k => one ++ [k]).length ≤ l.length * 6 := fun l => by
            induction l with
            | nil => exact Nat.zero_le _
            | cons a r ih2 =>
              rw [List.flatMap_cons, List.length_append, List.length_map, List.length_cons, Nat.add_mul]
              omega
          have t := this ((allL g i).take j)
          rw [List.length_take] at t
          omega
        walk_at "sq go"
        intro D nD
        refine lc_range (lo := 2) (n := (g + 1 - 2).toNat) (fun m H3 => Keep (Same H'' H3 ∧ LL H'' H3 D (((ks g).take m).map fun k => one ++ [k]))) ⟨same_new nD, LL.nil upd_same⟩ (fun m H3 hm h3 => ?_) (fun H3 h3 => ?_)
        · obtain ⟨s3, hD⟩ := h3.o
          have hp3 := s3 _ _ hp1
          walk_at "sq go"
          intro e ne
          have hp4 := upd_keep (o := .lst [.int (2 + ((m : Nat) : Int))]) ne hp3
          have he4 : upd H3 e (.lst [.int (2 + ((m : Nat) : Int))]) e = some (.lst [.int (2 + ((m : Nat) : Int))]) := upd_same
          have lone : (iv one).length + [V.int (2 + ((m : Nat) : Int))].length ≤ sizeLine := by
            rw [iv_len, sizeLine_eq]
            show one.length + 1 ≤ _
            omega
          walk_at "sq go"
          intro q nq
          have sE := (same_new (o := .lst [.int (2 + ((m : Nat) : Int))]) ne).trans (same_new (o := .lst (iv one ++ [.int (2 + ((m : Nat) : Int))])) nq)
          have hD4 := hD.same sE
          have ek : (ks g)[m]? = some (2 + ((m : Nat) : Int)) := by
            unfold ks
            rw [List.getElem?_map, List.getElem?_range (by omega)]
            rfl
          have hq : upd (upd H3 e (.lst [.int (2 + ((m : Nat) : Int))])) q (.lst (iv one ++ [.int (2 + ((m : Nat) : Int))])) q = some (.lst (iv (one ++ [2 + ((m : Nat) : Int)]))) := by
            rw [upd_same, iv_app]
          have s4 := s3.trans sE
          have gq : H'' q = none := (s3.trans (same_new ne)).free nq
          have nqD : q ≠ D := fun z => by
            obtain ⟨zs, ez, _⟩ := hD.len
            have := same_new (o := .lst [.int (2 + ((m : Nat) : Int))]) ne _ _ ez
            rw [← z, nq] at this
            cases this
          obtain ⟨zs, ez, lz, hD5⟩ := hD4.snoc hq nqD gq
          have lzs : zs.length < sizeLine := by
            rw [lz, List.length_map, List.length_take]
            exact small1000 (by omega)
          walk_at "sq go"
          refine ⟨same_put s4 nD, ?_⟩
          rw [List.take_add_one, ek, List.map_append]
          exact hD5
        · obtain ⟨s3, hD⟩ := h3.o
          have em : (ks g).take (g + 1 - 2).toNat = ks g := List.take_of_length_le (by omega)
          rw [em] at hD
          have hLo3 := hLo.same s3
          obtain ⟨as, bs, ea, la, eb, lb, hX⟩ := hLo3.ext hD s1 ey
          have lab : as.length + bs.length ≤ sizeLine := by
            rw [la, lb, List.length_map, sizeLine_eq]
            omega
          walk_at "sq go"
          refine ⟨_, _, rfl, same_put (s1.trans s3) nlo, ?_⟩
          rw [tk]
          exact hX
      · obtain ⟨x5, x6, rfl, s1, hLo⟩ := h.o
        rw [lx, List.take_length] at hLo
        walk_at "sq go"
        refine ⟨lo, _, _, _, _, rfl, sH.trans s1, glo, ?_⟩
        exact hLo.old sH
    · obtain ⟨l, x3, x4, x5, x6, rfl, sH, gl, hL⟩ := h.o
      walk_at "sq go"
      exact q l H' sH gl hL
theorem exm_self {h : Heap} {C : Addr} {y : Str} (_ : K.In h) (_ : mg y = some (.ref C)) (x1 : PySem.W.subIn K (.ref C) (.type "BaseException") = some true) (x2 : PySem.W.isClsIn K C = true) (x3 : PySem.W.typeIn K (.ref C) = some (.type "type")) (x4 : PySem.W.subIn K (.ref C) (.ref C) = some true) : PySem.W.exmOne K (.ref C) (.ref C) = some true := exm_mk x1 x2 x3 x4
structure Xv1 (K : PySem.W.Frag) (C : Addr) : Prop where
  xf : XfC K C
  nv : PySem.W.findIn K (.ref C) "value" = some none
theorem xv_mk {h : Heap} {C : Addr} {y : Str} (_ : K.In h) (_ : mg y = some (.ref C)) (hg : PySem.W.findIn K (.ref C) "__getattribute__" = some (some (.builtin "BaseException.__getattribute__"))) (hk : PySem.W.findIn K (.ref C) "__getattr__" = some none) (hs : PySem.W.subIn K (.ref C) (.type "BaseException") = some true) (hd : PySem.W.hasDictIn K C = true)
    (nv : PySem.W.findIn K (.ref C) "value" = some none) : Xv1 K C := ⟨⟨hg, hk, hs, hd⟩, nv⟩
local macro_rules | `(tactic| walk_at "sq side") => `(tactic| first
  | ((with_reducible show XfC _ _); assumption)
  | ((with_reducible show Kept _ _ _ _); assumption)
  | ((with_reducible show PySem.W.exmOne _ _ _ = some _); assumption)
  | ((with_reducible show PySem.W.findIn _ _ _ = some _); assumption))
/-- arguments of these laws -/
def Ok3 (n : Nat) (g : Int) (L : Nat) : Prop := n ≤ 8 ∧ 2 ≤ g ∧ g ≤ 60 ∧ L ≤ 20000
abbrev s_law_is_refused : Stmt := topS 16
theorem sc_law_is_refused : FnScope ["many", "largest", "far", "spot", "e"] ["many", "largest", "far", "spot"] (defScope s_law_is_refused) := ⟨rfl, rfl, rfl, by decide +kernel, rfl, by decide +kernel, by decide +kernel⟩

def spRefused : Sp := fun vs H Q _ => ∃ (n : Nat) (g : Int) (L : Nat) (x : Int), vs = [.int (n : Nat), .int g, .int (L : Nat), .int x] ∧ Keep (Ok3 n g L ∧ ¬ (0 ≤ x ∧ x < cntC g n L)) ∧ ∀ H', Same H H' → Q (.bl true) H'
theorem cal_refused {CN : Addr} (D : DefAt K mg "_law_is_refused" s_law_is_refused ["many", "largest", "far", "spot"]) (B : Bt mg) (m_InvalidNumber : mg "InvalidNumber" = some (.ref CN)) (ex : PySem.W.exmOne K (.ref CN) (.ref CN) = some true) (kn : Xv1 K CN)
    (c_nth_listX : CalX P w K mg base 20 "nth_list" (spNth CN)) : Cal P w K mg base 22 "_law_is_refused" spRefused [] := by
  refine D.cal sc_law_is_refused (fun vs H Q E h => ?_) (fun f cdv A outer s H vs Q E hr h => ?_)
  · obtain ⟨n, g, L, x, rfl, _⟩ := h
    rfl
  · obtain ⟨n, g, L, x, rfl, ⟨⟨n8, g2, g60, l2⟩, no⟩, q⟩ := h
    have xf := kn.xf
    have nv := kn.nv
    refine ⟨_, (pss_cons (ps_try_keep (i := 4) rfl rfl sc_law_is_refused.nd rfl rfl rfl ⟨rfl, by decide, .inl m_InvalidNumber⟩ takes0
   (fun W pn xe tk po => (pss_one (ps_expr (pe_cx c_nth_listX hr (by first | decide | omega) tk (by rfl) (pa_cons (pv 0) (pa_cons (pv 1) (pa_cons (pv 2) (pa_cons (pv 3) pa_nil))))))))
   (fun a cls d pn => (pss_one (ps_ret (pe_cmpR op_eq (pe_xv (K := K) (pv 4)) (pv 3) (nomark _))))))
  (pss_one (ps_ret pe_bl))), ?_⟩
    walk_at "sq go"
    refine ⟨⟨fun a0 g2 L0 => ⟨by omega, g60, by omega, fun x0 x1 => absurd ⟨x0, x1⟩ no⟩, fun v hv d H1 s1 hd => ⟨true, ex, fun _ ax na => ?_, fun z => nomatch z⟩⟩⟩
    have ev : v = x := by
      rcases hv with (⟨h1, _⟩ | ⟨_, h2, _⟩ | ⟨_, _, h3, _⟩) | ⟨_, _, _, _, e⟩
      · omega
      · omega
      · omega
      · exact e
    subst ev
    have s3 := s1.trans (same_new (o := Xo ax (.ref CN) (some d)) na)
    have ka := kept_new (C := CN) na hd
    walk_at "sq go"
    have z := q _ s3
    rw [show decide (V.int v = V.int v) = true from decide_eq_true rfl]
    exact z
theorem all_single {one : List Int} {L : Nat} (h : Two one) : (((List.range L).map fun i => decide (V.int (sqz (1 + ((i : Nat) : Int)) one) = V.int 1))).all id = decide (((L : Nat) : Int) ≤ reachOf one 1) := by
  rw [Bool.eq_iff_iff, List.all_eq_true, decide_eq_true_eq]
  constructor
  · intro a
    refine Int.not_lt.mp fun c => ?_
    have p := reach_pos (m := 1) (by decide) h
    obtain ⟨j, ej⟩ := Int.eq_ofNat_of_zero_le (show 0 ≤ reachOf one 1 by omega)
    have m := a _ (List.mem_map.mpr ⟨j, by rw [List.mem_range]; omega, rfl⟩)
    have e : V.int (sqz (1 + ((j : Nat) : Int)) one) = V.int 1 := of_decide_eq_true m
    have n := reach_next (m := 1) (by decide) h
    rw [ej, Int.add_comm] at n
    rw [n] at e
    exact absurd (V.int.inj e) (by decide)
  · intro c b hb
    obtain ⟨j, hj, rfl⟩ := List.mem_map.mp hb
    rw [List.mem_range] at hj
    have u := reach_all (m := 1) (n := 1 + ((j : Nat) : Int)) (by decide) h (by omega) (by omega)
    have l := sqz_pos (n := 1 + ((j : Nat) : Int)) (by omega) h
    exact decide_eq_true (congrArg V.int (by omega))
theorem r_reprN {H : Hp} {n : Int} {Q : VK} (h0 : 0 ≤ n) (h : n < 10 ^ 200) (q : Q (.str (PyData.int n).shown) H) : rReprV K [.int n] H Q := by
  have lg : n.natAbs.log2 < 1920 := Nat.lt_trans ((show Sm 700 n by unfold Sm; omega).lg (by decide)) (by decide)
  refine rReprV_of (.int n) ?_ ?_ ?_ ?_ q
  · simp only [PyData.showable]
    exact decide_eq_true lg
  · simp [PyData.hasDict]
  · simp [PyData.depth]
  · have e := int_text_length_le (k := 1920) (by decide) lg
    show (Str.ofString (toString n)).length ≤ _
    rw [PySem.ofString_length, sizeLine_eq]
    omega
abbrev s_law : Stmt := topS 17
theorem sc_law : FnScope ["script", "bag", "turn", "many", "largest", "every", "reached", "far", "due", "spots", "spot", "one", "place", "run"] ["script"] (defScope s_law) := ⟨rfl, rfl, rfl, by decide +kernel, rfl, by decide +kernel, by decide +kernel⟩

def spLaw (K : PySem.W.Frag) : Sp := fun vs H Q _ => ∃ (a : Addr) (ns : List Int), vs = [.ref a] ∧ SqL K H a (iv ns) ∧ ns.length ≤ 63 ∧ ∀ H', Q (.bl true) H'
def spCount3 : Sp := fun vs H Q _ => ∃ (n : Nat) (g : Int) (L : Nat), vs = [.int (n : Nat), .int g, .int (L : Nat)] ∧ Keep (Ok3 n g L) ∧ ∀ H', Same H H' → Q (.int (cntC g n L)) H'
def spCount3K : Sp := fun zs H Q E => ∃ a b c, zs = [c, b, a] ∧ spCount3 [a, b, c] H Q E
def spNth4 : Sp := fun vs H Q _ => ∃ (n : Nat) (g : Int) (L : Nat) (x : Int), vs = [.int (n : Nat), .int g, .int (L : Nat), .int x] ∧ Keep (Ok3 n g L ∧ 0 ≤ x ∧ x < cntC g n L) ∧ ∀ ns p H', nthC g n L x = some ns → ns.length = n → Same H H' → H p = none → H' p = some (.lst (iv ns)) → Q (.ref p) H'
def spNth4K : Sp := fun zs H Q E => ∃ a b c d, zs = [d, c, b, a] ∧ spNth4 [a, b, c, d] H Q E
theorem count_calm {CN : Addr} (c : Def2X P w K mg base 20 "count_lists" s_count_lists ["steps", "greatest", "length"] (spCountL CN)) : Def2 P w K mg base 20 "count_lists" s_count_lists ["steps", "greatest", "length"] spCount3 := c.calm fun vs H Q E h => by
  obtain ⟨n, g, L, rfl, ⟨n8, g2, g60, l2⟩, q⟩ := h
  refine ⟨_, _, _, rfl, ⟨fun a0 g2 L0 => ⟨by omega, g60, by omega, fun H' s => q H' s⟩, fun v hv => ?_⟩⟩
  rcases hv with ⟨h1, _⟩ | ⟨_, h2, _⟩ | ⟨_, _, h3, _⟩ <;> omega
theorem nth_calm {CN : Addr} (c : Def2X P w K mg base 20 "nth_list" s_nth_list ["steps", "greatest", "length", "number"] (spNth CN)) : Def2 P w K mg base 20 "nth_list" s_nth_list ["steps", "greatest", "length", "number"] spNth4 := c.calm fun vs H Q E h => by
  obtain ⟨n, g, L, x, rfl, ⟨⟨n8, g2, g60, l2⟩, x0, x1⟩, q⟩ := h
  refine ⟨_, _, _, _, rfl, ⟨fun a0 g2 L0 => ⟨by omega, g60, by omega, fun _ _ ns p H' e l s np hp => q ns p H' e l s np hp⟩, fun v hv => ?_⟩⟩
  rcases hv with (⟨h1, _⟩ | ⟨_, h2, _⟩ | ⟨_, _, h3, _⟩) | ⟨_, _, _, h4, _⟩
  · omega
  · omega
  · omega
  · exact absurd ⟨x0, x1⟩ h4
theorem ok_law {f : Addr} {fd : FuncData} (F : Fun K "law" "law" s_law f fd) (B : Bt mg) (c_law_bag : Cal P w K mg base 1 "_law_bag" (spBag K) []) (c_law_draw : Cal P w K mg base 1 "_law_draw" spDrawD []) (c_law_all_lists : Cal P w K mg base 1 "_law_all_lists" spAllL [])
    (c_law_reach : Cal P w K mg base 1 "_law_reach" (spLReach K) []) (c_law_after : Cal P w K mg base 1 "_law_after" (spAfter K) []) (c_count_lists : Cal P w K mg base 20 "count_lists" spCount3 []) (c_count_lists_k : CalK P w K mg base 20 "count_lists" ["length", "greatest", "steps"] spCount3K)
    (c_nth_list : Cal P w K mg base 20 "nth_list" spNth4 []) (c_nth_list_k : CalK P w K mg base 20 "nth_list" ["number", "length", "greatest", "steps"] spNth4K) (c_law_is_refused : Cal P w K mg base 22 "_law_is_refused" spRefused []) : FnG P w K mg base CX0 24 f fd ["script"] (spLaw K) := by
  refine okG F sc_law (fun vs H Q E h => ?_) (fun cdv A outer s H vs Q E hG hr h => ?_)
  · obtain ⟨a, ns, rfl, _⟩ := h
    rfl
  · obtain ⟨p0, ns0, rfl, hP, hl, q⟩ := h
    refine ⟨_, (pss_cons (ps_set (i := 1) sc_law.nd rfl (Or.inr rfl) (pe_c c_law_bag hr (by first | decide | omega) (by rfl) (pa_cons (pv 0) pa_nil)))
  (pss_cons (ps_for PassesOwn.never rfl (pi_range1 (by rfl) B.range (pa_cons (pe_op op_add pe_int (pe_callB (call_min2 rfl) (by rfl) B.min (by decide +kernel) (pa_cons pe_int (pa_cons (pe_callB (len_seqK (K := K)) (by rfl) B.len boot_len (pa_cons (pv 0) pa_nil)) pa_nil)))) pa_nil)) (pg_name (i := 2) sc_law.nd rfl (Or.inl rfl))
   (pss_cons (ps_par (i := 3) (j := 4) rfl sc_law.nd rfl rfl (by decide) rfl rfl (pa_cons (pe_c c_law_draw hr (by first | decide | omega) (by rfl) (pa_cons (pv 1) (pa_cons pe_int pa_nil))) (pa_cons (pe_op op_add pe_int (pe_c c_law_draw hr (by first | decide | omega) (by rfl) (pa_cons (pv 1) (pa_cons pe_int pa_nil)))) pa_nil)) (by rfl))
  (pss_cons (ps_set (i := 5) sc_law.nd rfl (Or.inl rfl) (pe_c c_law_all_lists hr (by first | decide | omega) (by rfl) (pa_cons (pv 3) (pa_cons (pv 4) pa_nil))))
  (pss_cons (ps_setLc (i := 6) (own := [("one", 11)]) (g := gName 11) (by rfl) sc_law.nd rfl rfl (sw_true rfl rfl rfl (by decide +kernel)) (pi_listK (K := K) (pv 5)) (blkOk_by (own := [("one", 11)]) (N := ["script", "bag", "turn", "many", "largest", "every", "reached", "far", "due", "spots", "spot", "one", "place", "run"]) (sc := defScope s_law) (by decide +kernel)) (fun _ _ _ _ _ => (pg_name (i := 11) sc_law.nd rfl (Or.inl rfl))) (fun _ _ _ _ _ => pts_nil) (fun _ _ _ _ _ => (pe_c c_law_reach hr (by first | decide | omega) (by rfl) (pa_cons (pv 11) pa_nil))))
  (pss_cons (ps_set (i := 7) sc_law.nd rfl (Or.inr rfl) (pe_ix (ix_tupK (K := K)) (pe_tup (pa_cons (pe_c c_law_draw hr (by first | decide | omega) (by rfl) (pa_cons (pv 1) (pa_cons pe_int pa_nil))) (pa_cons (pe_callB (call_min2 rfl) (by rfl) B.min (by decide +kernel) (pa_cons pe_int (pa_cons (pe_ix (ix_listK (K := K)) (pv 6) (pe_c c_law_draw hr (by first | decide | omega) (by rfl) (pa_cons (pv 1) (pa_cons (pe_callB (len_seqK (K := K)) (by rfl) B.len boot_len (pa_cons (pv 6) pa_nil)) pa_nil))) (fun _ _ => rfl)) pa_nil))) pa_nil))) (pe_c c_law_draw hr (by first | decide | omega) (by rfl) (pa_cons (pv 1) (pa_cons pe_int pa_nil))) (fun _ _ => rfl)))
  (pss_cons (ps_set (i := 8) sc_law.nd rfl (Or.inr rfl) (pe_lc (own := [("one", 11)]) (g := gName 11) (by rfl) sc_law.nd (pi_listK (K := K) (pv 5)) (blkOk_by (own := [("one", 11)]) (N := ["script", "bag", "turn", "many", "largest", "every", "reached", "far", "due", "spots", "spot", "one", "place", "run"]) (sc := defScope s_law) (by decide +kernel)) (fun _ _ _ _ _ => (pg_name (i := 11) sc_law.nd rfl (Or.inr rfl))) (fun _ _ _ _ _ => (pts_one (pt_val (pe_callB (cr_allK (K := K) rfl) (by rfl) B.all (by decide +kernel) (pa_cons (pe_lc (own := [("run", 13)]) (g := gName 13) (by rfl) sc_law.nd (pi_range2 (by rfl) B.range (pa_cons pe_int (pa_cons (pe_op op_add (pv 7) pe_int) pa_nil))) (blkOk_by (own := [("run", 13)]) (by kernel_rfl)) (fun _ _ _ _ _ => (pg_name (i := 13) sc_law.nd rfl (Or.inl rfl))) (fun _ _ _ _ _ => pts_nil) (fun _ _ _ _ _ => (pe_cmpR op_eq (pe_c c_law_after hr (by first | decide | omega) (by rfl) (pa_cons (pv 13) (pa_cons (pv 11) pa_nil))) pe_int (nomark _)))) pa_nil))))) (fun _ _ _ _ _ => (pv 11))))
  (pss_cons (ps_if (pt_cmpR op_ne (pe_callB (call_reprVK (K := K) hG hr.units) (by rfl) B.repr (by decide +kernel) (pa_cons (pe_c c_count_lists hr (by first | decide | omega) (by rfl) (pa_cons (pv 3) (pa_cons (pv 4) (pa_cons (pv 7) pa_nil)))) pa_nil)) (pe_callB (call_reprVK (K := K) hG hr.units) (by rfl) B.repr (by decide +kernel) (pa_cons (pe_callB (len_seqK (K := K)) (by rfl) B.len boot_len (pa_cons (pv 8) pa_nil)) pa_nil)) (nomark _)) (pss_one (ps_ret pe_bl)) pss_nil)
  (pss_cons (ps_set (i := 9) sc_law.nd rfl (Or.inl rfl) (pe_op op_cat (pe_lst (pa_cons pe_int (pa_cons (pe_op op_sub (pe_callB (len_seqK (K := K)) (by rfl) B.len boot_len (pa_cons (pv 8) pa_nil)) pe_int) pa_nil))) (pe_lc (own := [("place", 12)]) (g := gName 12) (by rfl) sc_law.nd (pi_range1 (by rfl) B.range (pa_cons pe_int pa_nil)) (blkOk_by (own := [("place", 12)]) (N := ["script", "bag", "turn", "many", "largest", "every", "reached", "far", "due", "spots", "spot", "one", "place", "run"]) (sc := defScope s_law) (by decide +kernel)) (fun _ _ _ _ _ => (pg_name (i := 12) sc_law.nd rfl (Or.inl rfl))) (fun _ _ _ _ _ => pts_nil) (fun _ _ _ _ _ => (pe_c c_law_draw hr (by first | decide | omega) (by rfl) (pa_cons (pv 1) (pa_cons (pe_callB (call_max2 rfl) (by rfl) B.max (by decide +kernel) (pa_cons pe_int (pa_cons (pe_callB (len_seqK (K := K)) (by rfl) B.len boot_len (pa_cons (pv 8) pa_nil)) pa_nil))) pa_nil)))))))
  (pss_cons (ps_for PassesOwn.never rfl (pi_listK (K := K) (pv 9)) (pg_name (i := 10) sc_law.nd rfl (Or.inl rfl))
   (pss_one (ps_if (PW.pt (pw_and (pt_chain op_le op_lt pe_int (pv 10) (pe_callB (len_seqK (K := K)) (by rfl) B.len boot_len (pa_cons (pv 8) pa_nil))) (pw_and1 (pt_cmpR (op_neDK (K := K) hr.units) (pe_c c_nth_list hr (by first | decide | omega) (by rfl) (pa_cons (pv 3) (pa_cons (pv 4) (pa_cons (pv 7) (pa_cons (pv 10) pa_nil))))) (pe_ix (ix_listK (K := K)) (pv 8) (pv 10) (fun _ _ => rfl)) (nomark _))))) (pss_one (ps_ret pe_bl)) pss_nil)))
  (pss_cons (ps_if (PW.pt (pw_or (pt_not (pt_val (pe_c c_law_is_refused hr (by first | decide | omega) (by rfl) (pa_cons (pv 3) (pa_cons (pv 4) (pa_cons (pv 7) (pa_cons (pe_callB (len_seqK (K := K)) (by rfl) B.len boot_len (pa_cons (pv 8) pa_nil)) pa_nil))))))) (pw_or1 (pt_not (pt_val (pe_c c_law_is_refused hr (by first | decide | omega) (by rfl) (pa_cons (pv 3) (pa_cons (pv 4) (pa_cons (pv 7) (pa_cons (pe_un un_neg pe_int) pa_nil)))))))))) (pss_one (ps_ret pe_bl)) pss_nil)
  (pss_cons (ps_if (pt_cmpR op_ne (pe_ck c_count_lists_k hr (by first | decide | omega) (by rfl) (pk_cons (pv 7) (pk_cons (pv 4) (pk_cons (pv 3) pk_nil)))) (pe_callB (len_seqK (K := K)) (by rfl) B.len boot_len (pa_cons (pv 8) pa_nil)) (nomark _)) (pss_one (ps_ret pe_bl)) pss_nil)
  (pss_one (ps_if (PW.pt (pw_and (pt_cmpR op_gt (pe_callB (len_seqK (K := K)) (by rfl) B.len boot_len (pa_cons (pv 8) pa_nil)) pe_int (nomark _)) (pw_and1 (pt_cmpR (op_neDK (K := K) hr.units) (pe_ck c_nth_list_k hr (by first | decide | omega) (by rfl) (pk_cons pe_int (pk_cons (pv 7) (pk_cons (pv 4) (pk_cons (pv 3) pk_nil))))) (pe_ix (ix_listK (K := K)) (pv 8) pe_int (fun _ _ => rfl)) (nomark _))))) (pss_one (ps_ret pe_bl)) pss_nil)))))))))))))
  (pss_one (ps_ret pe_bl)))), ?_⟩
    have el : (iv ns0).length = ns0.length := iv_len _
    walk_at "sq go"
    intro r d H1 s1 hS
    have hP1 := s1.seq hP
    walk_at "sq go"
    refine for_range (lo := 0) (n := _) (fun i σ H' => Keep (∃ x2 x3 x4 x5 x6 x7 x8 x9 x10 x11 x12 x13, σ = [some (.ref p0), some (.ref r), x2, x3, x4, x5, x6, x7, x8, x9, x10, x11, x12, x13] ∧ Sep (rgD r d (100 * i)) H H' ∧ i ≤ 6)) ⟨_, _, _, _, _, _, _, _, _, _, _, _, rfl, SepD.mono hS (by omega), by omega⟩ (fun i σ H' hi h => ?_) (fun σ H' h => ?_)
    · obtain ⟨x2, x3, x4, x5, x6, x7, x8, x9, x10, x11, x12, x13, rfl, hs, hi8⟩ := h.o
      have hi9 : i + 1 ≤ 6 := by (repeat' split at hi) <;> omega
      walk_at "sq go"
      refine ⟨⟨by decide, by decide, by omega⟩, fun nv J1 n0 n5 hs1 => ?_⟩
      obtain ⟨n, rfl⟩ := Int.eq_ofNat_of_zero_le n0
      walk_at "sq go"
      refine ⟨⟨by decide, by decide, by omega⟩, fun gv J2 g0 g6 hs2 => ?_⟩
      obtain ⟨g, eg⟩ : ∃ g : Int, g = 2 + gv := ⟨_, rfl⟩
      walk_at "sq go"
      refine ⟨⟨by omega, by omega, by omega⟩, fun l J3 s3 gl hL => ?_⟩
      obtain ⟨G, sG, hs3, eG⟩ := (hs2.on s3).full
      have hG : LL H G l (allL (2 + gv) n) := hL.move gl hs2 eG
      clear hL gl eG
      rw [← eg] at hG
      have sml : ∀ ns ∈ allL g n, Sml ns := fun ns hn => by
        obtain ⟨a, b⟩ := allL_mem hn
        exact ⟨fun k hk => by have := b k hk; omega, by omega⟩
      obtain ⟨xs, ex, lx⟩ := hG.len
      have l1296 : (allL g n).length ≤ 1296 := by
        have a := allL_len (g := g) (by omega) n
        have b : 6 ^ n ≤ 6 ^ 4 := Nat.pow_le_pow_right (by decide) (by omega)
        omega
      have lpos : 0 < (allL g n).length := by
        clear hG lx sml ex
        have : ∀ n : Nat, 0 < (allL g n).length := fun n => by
          induction n with
          | zero => exact Nat.zero_lt_one
          | succ n ih =>
            rw [allL_front]
            have k0 : ks g = 2 :: (ks g).tail := by
              unfold ks
              obtain ⟨m, em⟩ : ∃ m, (g - 1).toNat = m + 1 := ⟨(g - 1).toNat - 1, by omega⟩
              rw [em, List.range_succ_eq_map]
              rfl
            rw [k0, List.flatMap_cons, List.length_append, List.length_map]
            omega
        exact this n
      have ex3 := hs3.get ex
      walk_at "sq go"
      intro D nD
      have gD := hs3.free nD
      refine lc_list (K := K) (a := l) (xs := xs) (fun m H2 => Keep (Same J3 H2 ∧ H2 D = some (.lst (iv (((allL g n).take m).map fun ns => reachOf ns 1))))) ⟨same_new nD, upd_same⟩ (fun m H2 _ h => ?_) (fun m v H2 hx h => ?_) (fun H2 h => ?_)
      · obtain ⟨s2, _⟩ := h.o
        exact seqL_of (s2 _ _ ex3)
      · obtain ⟨s2, hD⟩ := h.o
        have lm : m < (allL g n).length := by
          have := (List.getElem?_eq_some_iff.mp hx).1
          omega
        have eo := List.getElem?_eq_getElem lm
        generalize (allL g n)[m] = one at eo
        obtain ⟨p, xs', ex', exj, _, hp, _, gp⟩ := hG.get eo
        have exx : xs' = xs := by
          rw [ex] at ex'
          exact (HO.lst.inj (Option.some.inj ex')).symm
        subst exx
        obtain rfl : v = .ref p := by
          rw [exj] at hx
          exact (Option.some.inj hx).symm
        have hp2 := seqL_of (K := K) (s2 _ _ (hs3.get hp))
        have lD : (iv (((allL g n).take m).map fun ns => reachOf ns 1)).length < sizeLine := by
          rw [iv_len, List.length_map, List.length_take, sizeLine_eq]
          omega
        walk_at "sq go"
        refine ⟨⟨sml _ (List.mem_of_getElem? eo)⟩, fun H3 s4 => ?_⟩
        have hD3 := s4 _ _ hD
        walk_at "sq go"
        refine ⟨same_put (s2.trans s4) nD, ?_⟩
        rw [upd_same, iv_app, List.take_add_one, eo, List.map_append]
        rfl
      · obtain ⟨s2, hD⟩ := h.o
        rw [lx, List.take_length] at hD
        have hs4 := hs3.grow s2 nD hD
        have lRe : (iv ((allL g n).map fun ns => reachOf ns 1)).length = (allL g n).length := by rw [iv_len, List.length_map]
        walk_at "sq go"
        refine ⟨⟨by decide, by decide, by omega⟩, fun y1 J4 y10 y61 hs5 => ?_⟩
        have hD5 := hs5.get upd_same
        walk_at "sq go"
        refine ⟨⟨by omega, by omega, by omega⟩, fun y2 J5 y20 y2l hs6 => ?_⟩
        have hD6 := hs6.get upd_same
        obtain ⟨rv, erv, rv1⟩ : ∃ rv : Int, atI (iv ((allL g n).map fun ns => reachOf ns 1)) y2 = some (.int rv) ∧ 1 ≤ rv := by
          obtain ⟨j, rfl⟩ := Int.eq_ofNat_of_zero_le y20
          have lj : j < (allL g n).length := by omega
          have eo := List.getElem?_eq_getElem lj
          refine ⟨reachOf (allL g n)[j] 1, atI_nat (by rw [List.getElem?_map, List.getElem?_map, eo]; rfl), reach_pos (by decide) (sml _ (List.mem_of_getElem? eo)).mid.two⟩
        walk_at "sq go"
        intro T nT
        have gT := hs6.free nT
        have hs7 := hs6.new nT (.tup [.int y1, .int (if rv < 120 then rv else 120)])
        walk_at "sq go"
        refine ⟨⟨by decide, by decide, by omega⟩, fun y3 J6 y30 y32 hs8 => ?_⟩
        have hT := hs8.get upd_same
        obtain ⟨far, efar, far0, far120⟩ : ∃ far : Int, atI [V.int y1, .int (if rv < 120 then rv else 120)] y3 = some (.int far) ∧ 0 ≤ far ∧ far ≤ 120 := by
          rcases (show y3 = 0 ∨ y3 = 1 by omega) with z | z <;> rw [z]
          · exact ⟨_, atI_nat (j := 0) rfl, by omega, by omega⟩
          · exact ⟨_, atI_nat (j := 1) rfl, by split <;> omega, by split <;> omega⟩
        obtain ⟨L, rfl⟩ := Int.eq_ofNat_of_zero_le far0
        have hs9 := hs8.weak (same_new gT)
        have hs10 := hs9.weak (same_new gD)
        have ex6 := hs10.get ex
        walk_at "sq go"
        intro D2 nD2
        have gD2 := hs10.free nD2
        refine lc_list (K := K) (a := l) (xs := xs) (fun m H2 => Keep (Same J6 H2 ∧ LL (srcH (rgD r d 0)) H2 D2 (((allL g n).take m).filter fun ns => decide (((L : Nat) : Int) ≤ reachOf ns 1)))) ⟨same_new nD2, LL.nil upd_same⟩ (fun m H2 _ h => ?_) (fun m v H2 hx h => ?_) (fun H2 h => ?_)
        · obtain ⟨s2, _⟩ := h.o
          exact seqL_of (s2 _ _ ex6)
        · obtain ⟨s2, hD⟩ := h.o
          have lm : m < (allL g n).length := by
            have := (List.getElem?_eq_some_iff.mp hx).1
            omega
          have eo := List.getElem?_eq_getElem lm
          generalize (allL g n)[m] = one at eo
          obtain ⟨p, xs', ex', exj, _, hp, _, gp⟩ := hG.get eo
          have exx : xs' = xs := by
            rw [ex] at ex'
            exact (HO.lst.inj (Option.some.inj ex')).symm
          subst exx
          obtain rfl : v = .ref p := by
            rw [exj] at hx
            exact (Option.some.inj hx).symm
          have smo := sml _ (List.mem_of_getElem? eo)
          have hp2 := s2 _ _ (hs10.get hp)
          have npD : p ≠ D2 := fun z => by
            have := hs10.get hp
            rw [z, nD2] at this
            cases this
          walk_at "sq go"
          intro D3 nD3
          refine lc_range (lo := 1) (n := (((L : Nat) : Int) + 1 - 1).toNat) (fun t H3 => Keep (Same H2 H3 ∧ H3 D3 = some (.lst (((List.range t).map fun i => decide (V.int (sqz (1 + ((i : Nat) : Int)) one) = V.int 1)).map V.bl)))) ⟨same_new nD3, upd_same⟩ (fun t H3 ht h3 => ?_) (fun H3 h3 => ?_)
          · obtain ⟨s3, hD3⟩ := h3.o
            have hp3 := seqL_of (K := K) (s3 _ _ hp2)
            have lb : (((List.range t).map fun i => decide (V.int (sqz (1 + ((i : Nat) : Int)) one) = V.int 1)).map V.bl).length < sizeLine := by
              rw [List.length_map, List.length_map, List.length_range]
              exact small1000 (by omega)
            walk_at "sq go"
            refine ⟨⟨smo.mid⟩, ?_⟩
            walk_at "sq go"
            refine ⟨same_put s3 nD3, ?_⟩
            rw [upd_same, List.range_succ, List.map_append, List.map_append]
            rfl
          · obtain ⟨s3, hD3⟩ := h3.o
            rw [show (((L : Nat) : Int) + 1 - 1).toNat = L by omega] at hD3
            have hD4 := hD.same s3
            have ea := all_single smo.mid.two (L := L)
            walk_at "sq go"
            rw [ea]
            refine ifD (fun c => ?_) (fun c => ?_)
            · obtain ⟨zs, ez, lz, hD5⟩ := hD4.snoc (s3 _ _ hp2) npD (hs10.src hp)
              have lzs : zs.length < sizeLine := by
                have := List.length_filter_le (fun ns => decide (((L : Nat) : Int) ≤ reachOf ns 1)) ((allL g n).take m)
                rw [List.length_take] at this
                rw [lz, sizeLine_eq]
                omega
              walk_at "sq go"
              refine ⟨same_put (s2.trans s3) nD2, ?_⟩
              rw [List.take_add_one, eo, List.filter_append]
              rw [show (some one).toList.filter (fun ns => decide (((L : Nat) : Int) ≤ reachOf ns 1)) = [one] from List.filter_cons_of_pos (decide_eq_true c)]
              exact hD5
            · refine ⟨s2.trans s3, ?_⟩
              rw [List.take_add_one, eo, List.filter_append]
              rw [show (some one).toList.filter (fun ns => decide (((L : Nat) : Int) ≤ reachOf ns 1)) = [] from List.filter_cons_of_neg (by rw [decide_eq_true_eq]; exact c), List.append_nil]
              exact hD4
        · obtain ⟨s2, hD⟩ := h.o
          rw [lx, List.take_length] at hD
          obtain ⟨G2, sG2, hs11, eG2⟩ := (hs10.on s2).full
          have hDu : LL (srcH (rgD r d 0)) G2 D2 (dueL g n L) := hD.into (hs10.srcN nD2) eG2
          clear hD eG2
          have sGG := sG.trans sG2
          obtain ⟨ds, ed, ld⟩ := hDu.len
          have hd11 := hs11.get ed
          have ok3 : Ok3 n g L := ⟨by omega, by omega, by omega, by omega⟩
          have cd := cnt_due (g := g) (by omega) (by omega) (n := n) (L := ((L : Nat) : Int)) (by omega)
          have ldu : (dueL g n L).length ≤ 1296 := Nat.le_trans (List.length_filter_le _ _) l1296
          rw [eg] at cd ok3
          walk_at "sq go"
          refine ⟨⟨ok3⟩, fun H3 s3 => ?_⟩
          rw [cd]
          have hs12 := hs11.on s3
          have hd12 := hs12.get ed
          rw [← eg]
          walk_at "sq go"
          refine r_reprN (by omega) (by omega) ?_
          walk_at "sq go"
          rw [ld]
          refine r_reprN (by omega) (by omega) ?_
          walk_at "sq go"
          refine ifN (fun c => absurd rfl c) (fun _ => ?_)
          have hs13 := SepD.mono (N' := 100 * i + 20) hs12 (by omega)
          clear hs hs1 hs2 hs3 hs4 hs5 hs6 hs7 hs8 hs9 hs10 hs11 hs12
          have hd13 := hs13.get ed
          walk_at "sq go"
          rw [ld]
          intro E1 nE1
          have gE1 := hs13.free nE1
          have hs14 := hs13.new nE1 (.lst [.int 0, .int (((dueL g n L).length : Nat) - 1)])
          have ed14 := upd_keep (o := .lst [.int 0, .int (((dueL g n L).length : Nat) - 1)]) gE1 ed
          walk_at "sq go"
          intro D4 nD4
          have gD4 := hs14.free nD4
          refine lc_range (lo := 0) (n := 6) (fun t H4 => Keep (∃ vs : List Int, Sep (rgD r d (100 * i + 20 + t)) (upd (upd G2 E1 (.lst [.int 0, .int (((dueL g n L).length : Nat) - 1)])) D4 (.lst (iv vs))) H4 ∧ vs.length = t)) ⟨[], SepD.mono (hs14.new nD4 _) (by omega), rfl⟩ (fun t H4 ht h4 => ?_) (fun H4 h4 => ?_)
          · obtain ⟨vs, hsA, lv⟩ := h4.o
            have hdA := hsA.get (upd_keep (o := .lst (iv vs)) gD4 ed14)
            walk_at "sq go"
            rw [ld]
            refine ⟨⟨by split <;> omega, by split <;> omega, by omega⟩, fun v J v0 v1 hsB => ?_⟩
            have hDB := hsB.get upd_same
            have lvs : (iv vs).length < sizeLine := by
              rw [iv_len]
              exact small1000 (by omega)
            walk_at "sq go"
            have hsC := hsB.put upd_same (.lst (iv vs ++ [.int v]))
            rw [upd_upd] at hsC
            refine ⟨vs ++ [v], ?_, by simp [lv]⟩
            rw [← iv_app]
            exact SepD.mono hsC (by omega)
          · obtain ⟨vs, hsA, lv⟩ := h4.o
            have hEA := hsA.get (upd_keep (o := .lst (iv vs)) gD4 upd_same)
            have hDA := hsA.get upd_same
            have lcat : [V.int 0, V.int (((dueL g n L).length : Nat) - 1)].length + (iv vs).length ≤ sizeLine := by
              rw [iv_len, sizeLine_eq]
              show 2 + _ ≤ _
              omega
            walk_at "sq go"
            intro S nS
            have hsS := hsA.new nS (.lst ([V.int 0, V.int (((dueL g n L).length : Nat) - 1)] ++ iv vs))
            have hsD := hsA.weak ((same_new gE1).trans (same_new gD4))
            have gS : G2 S = none := hsD.free nS
            have hs20 := hsD.new nS (.lst ([V.int 0, V.int (((dueL g n L).length : Nat) - 1)] ++ iv vs))
            have esp : [V.int 0, V.int (((dueL g n L).length : Nat) - 1)] ++ iv vs = iv (0 :: (((dueL g n L).length : Nat) - 1) :: vs) := rfl
            rw [esp] at hs20 ⊢
            have hS20 := hs20.get upd_same
            have edS := upd_keep (o := .lst (iv (0 :: (((dueL g n L).length : Nat) - 1) :: vs))) gS ed
            walk_at "sq go"
            have hdS := hs20.get edS
            generalize upd H4 S (.lst (iv (0 :: (((dueL g n L).length : Nat) - 1) :: vs))) = HS at hs20 hS20 hdS
            refine for_list (K := K) (a := S) (xs := iv (0 :: (((dueL g n L).length : Nat) - 1) :: vs)) (fun t σ' H5 => Keep (∃ x10, σ' = [some (.ref p0), some (.ref r), some (.int (0 + ((i : Nat) : Int))), some (.int (n : Nat)), some (.int (2 + gv)), some (.ref l), some (.ref D), some (.int (L : Nat)), some (.ref D2), some (.ref S), x10, x11, x12, x13] ∧ Same HS H5)) ⟨_, rfl, .refl _⟩ (fun t σ' H5 _ h5 => ?_) (fun t v σ' H5 hx h5 => ?_) (fun σ' H5 h5 => ?_)
            · obtain ⟨_, _, s5⟩ := h5.o
              exact seqL_of (s5 _ _ hS20)
            · obtain ⟨x10, rfl, s5⟩ := h5.o
              obtain ⟨v, hv, rfl⟩ := iv_get hx
              have hd5 := s5 _ _ hdS
              walk_at "sq go"
              refine ifD (fun v0 => ?_) (fun v0 => ?_)
              · walk_at "sq go"
                rw [ld]
                refine ifD (fun v1 => ?_) (fun v1 => ?_)
                · walk_at "sq go"
                  have xc : v < cntC (2 + gv) n L := by
                    rw [cd, ← eg]
                    exact v1
                  refine ⟨⟨ok3, v0, xc⟩, fun ns p H6 e lns s6 np hp => ?_⟩
                  have edue : (dueL g n L)[v.toNat]? = some ns := by
                    rw [← eg] at e xc
                    rw [nth_due (by omega) (by omega) (by omega) v0 xc] at e
                    exact e
                  obtain ⟨p', xs', ex', exj, lxs, hp', np', gp'⟩ := hDu.get edue
                  have hd6 := s6 _ _ (s5 _ _ (hs20.get (upd_keep (o := .lst (iv (0 :: (((dueL g n L).length : Nat) - 1) :: vs))) gS ex')))
                  have hp6 := s6 _ _ (s5 _ _ (hs20.get (upd_keep (o := .lst (iv (0 :: (((dueL g n L).length : Nat) - 1) :: vs))) gS hp')))
                  have eat : atI xs' v = some (.ref p') := by
                    have z := atI_nat exj
                    rw [Int.toNat_of_nonneg v0] at z
                    exact z
                  walk_at "sq go"
                  refine r_neI (seqL_of hp) (seqL_of hp6) ?_
                  walk_at "sq go"
                  refine ifN (fun c => absurd rfl c) (fun _ => ?_)
                  exact ⟨_, rfl, s5.trans s6⟩
                · walk_at "sq go"
                  exact ⟨_, rfl, s5⟩
              · walk_at "sq go"
                exact ⟨_, rfl, s5⟩
            · obtain ⟨x10, rfl, s5⟩ := h5.o
              have hd5 := s5 _ _ hdS
              walk_at "sq go"
              refine ⟨⟨ok3, by rw [ld, cd, ← eg]; omega⟩, fun H6 s6 => ?_⟩
              walk_at "sq go"
              refine ⟨⟨ok3, by omega⟩, fun H7 s7 => ?_⟩
              have hd7 := s7 _ _ (s6 _ _ hd5)
              walk_at "sq go"
              refine ⟨⟨ok3⟩, fun H8 s8 => ?_⟩
              have hd8 := s8 _ _ hd7
              rw [cd, ← eg]
              walk_at "sq go"
              rw [ld]
              refine ifIN (fun c => absurd rfl c) (fun _ => ?_)
              walk_at "sq go"
              rw [ld]
              refine ifD (fun v1 => ?_) (fun v1 => ?_)
              · walk_at "sq go"
                have ok3' : Ok3 n g L := by
                  rw [eg]
                  exact ok3
                have xc : (0 : Int) < cntC g n L := by
                  rw [← eg] at cd
                  rw [cd]
                  exact v1
                refine ⟨⟨ok3', Int.le_refl 0, xc⟩, fun ns p H9 e lns s9 np hp => ?_⟩
                have edue : (dueL g n L)[0]? = some ns := by
                  rw [nth_due (by omega) (by omega) (by omega) (Int.le_refl 0) xc] at e
                  exact e
                obtain ⟨p', xs', ex', exj, lxs, hp', np', gp'⟩ := hDu.get edue
                have hd9 := s9 _ _ (s8 _ _ (s7 _ _ (s6 _ _ (s5 _ _ (hs20.get (upd_keep (o := .lst (iv (0 :: (((dueL g n L).length : Nat) - 1) :: vs))) gS ex'))))))
                have hp9 := s9 _ _ (s8 _ _ (s7 _ _ (s6 _ _ (s5 _ _ (hs20.get (upd_keep (o := .lst (iv (0 :: (((dueL g n L).length : Nat) - 1) :: vs))) gS hp'))))))
                have eat : atI xs' 0 = some (.ref p') := atI_nat (j := 0) exj
                walk_at "sq go"
                refine r_neI (seqL_of hp) (seqL_of hp9) ?_
                walk_at "sq go"
                refine ifN (fun c => absurd rfl c) (fun _ => ?_)
                walk_at "sq go"
                exact ⟨_, _, _, _, _, _, _, _, _, _, _, _, rfl, SepD.mono (((((hs20.on s5).on s6).on s7).on s8).on s9 |>.weak (sGG.trans (same_new gS))) (by omega), hi9⟩
              · walk_at "sq go"
                exact ⟨_, _, _, _, _, _, _, _, _, _, _, _, rfl, SepD.mono ((((hs20.on s5).on s6).on s7).on s8 |>.weak (sGG.trans (same_new gS))) (by omega), hi9⟩
    · obtain ⟨x2, x3, x4, x5, x6, x7, x8, x9, x10, x11, x12, x13, rfl, hs, hi8⟩ := h.o
      walk_at "sq go"
      exact q _
end
end Sq
open PySem PySem.W PyProof.Rows in
set_option maxRecDepth 100000 in
set_option maxHeartbeats 0 in
theorem PySem.Challenge.cw_squeezelists_k24_lists_counted_by_trying_holds : PySem.Challenge.rw_squeezelists_k24_lists_counted_by_trying.Holds := by
  w_on; o_law; k_head; (case hw => w_witness2)
  k_fill
  refine Sq.walk_ofG (l := PySem.Challenge.rw_squeezelists_k24_lists_counted_by_trying) (n := 63) (k := 24) (x := "script") (sp := Sq.spLaw) rfl (by decide) rfl ⟨rfl, by decide, by decide⟩ (fun w h Y => PySem.W.kIn_of Y) ?F (fun K H a ns hl hS => ⟨a, ns, rfl, hS, hl, fun _ => rfl⟩)
  case F =>
    intro w mg fa h KX G hmg
    have B : Sq.Bt mg := by
      refine' ⟨PySem.W.mg_none_of KX G ?z0, PySem.W.mg_none_of KX G ?z1, PySem.W.mg_none_of KX G ?z2, PySem.W.mg_none_of KX G ?z3, PySem.W.mg_none_of KX G ?z4, PySem.W.mg_none_of KX G ?z5, PySem.W.mg_none_of KX G ?z6, PySem.W.mg_none_of KX G ?z7, PySem.W.mg_none_of KX G ?z8, PySem.W.mg_none_of KX G ?z9⟩
      (case z0 => k_is)
      (case z1 => k_is)
      (case z2 => k_is)
      (case z3 => k_is)
      (case z4 => k_is)
      (case z5 => k_is)
      (case z6 => k_is)
      (case z7 => k_is)
      (case z8 => k_is)
      (case z9 => k_is)
    refine' Sq.cutD (Sq.DefAt.mk1 (x := "needed_reach") (st := Sq.s_needed_reach) (ps := ["replacement", "length"]) KX G ?a_needed_reach ?l_needed_reach ?c_needed_reach ?k_needed_reach (fun _ _ _ _ _ _ us hl => match us, hl with | [_, _], _ => rfl)) ?_
    (case a_needed_reach => k_is); (case l_needed_reach => k_is); (case c_needed_reach => k_is); (case k_needed_reach => k_is)
    intro D_needed_reach
    refine' Sq.cutD (Sq.DefAt.mk1 (x := "greatest_reaches") (st := Sq.s_greatest_reaches) (ps := ["steps", "greatest"]) KX G ?a_greatest_reaches ?l_greatest_reaches ?c_greatest_reaches ?k_greatest_reaches (fun _ _ _ _ _ _ us hl => match us, hl with | [_, _], _ => rfl)) ?_
    (case a_greatest_reaches => k_is); (case l_greatest_reaches => k_is); (case c_greatest_reaches => k_is); (case k_greatest_reaches => k_is)
    intro D_greatest_reaches
    refine' Sq.cutD (Sq.DefAt.mk1 (x := "check_arguments") (st := Sq.s_check_arguments) (ps := ["steps", "greatest", "length"]) KX G ?a_check_arguments ?l_check_arguments ?c_check_arguments ?k_check_arguments (fun _ _ _ _ _ _ us hl => match us, hl with | [_, _, _], _ => rfl)) ?_
    (case a_check_arguments => k_is); (case l_check_arguments => k_is); (case c_check_arguments => k_is); (case k_check_arguments => k_is)
    intro D_check_arguments
    refine' Sq.cutD (Sq.DefAt.mk1 (x := "count_lists") (st := Sq.s_count_lists) (ps := ["steps", "greatest", "length"]) KX G ?a_count_lists ?l_count_lists ?c_count_lists ?k_count_lists (fun _ _ _ _ _ _ us hl => match us, hl with | [_, _, _], _ => rfl)) ?_
    (case a_count_lists => k_is); (case l_count_lists => k_is); (case c_count_lists => k_is); (case k_count_lists => k_is)
    intro D_count_lists
    refine' Sq.cutD (Sq.DefAt.mk1 (x := "nth_list") (st := Sq.s_nth_list) (ps := ["steps", "greatest", "length", "number"]) KX G ?a_nth_list ?l_nth_list ?c_nth_list ?k_nth_list (fun _ _ _ _ _ _ us hl => match us, hl with | [_, _, _, _], _ => rfl)) ?_
    (case a_nth_list => k_is); (case l_nth_list => k_is); (case c_nth_list => k_is); (case k_nth_list => k_is)
    intro D_nth_list
    refine' Sq.cutD (Sq.DefAt.mk1 (x := "_law_bag") (st := Sq.s_law_bag) (ps := ["script"]) KX G ?a_law_bag ?l_law_bag ?c_law_bag ?k_law_bag (fun _ _ _ _ _ _ us hl => match us, hl with | [_], _ => rfl)) ?_
    (case a_law_bag => k_is); (case l_law_bag => k_is); (case c_law_bag => k_is); (case k_law_bag => k_is)
    intro D_law_bag
    refine' Sq.cutD (Sq.DefAt.mk1 (x := "_law_draw") (st := Sq.s_law_draw) (ps := ["bag", "many"]) KX G ?a_law_draw ?l_law_draw ?c_law_draw ?k_law_draw (fun _ _ _ _ _ _ us hl => match us, hl with | [_, _], _ => rfl)) ?_
    (case a_law_draw => k_is); (case l_law_draw => k_is); (case c_law_draw => k_is); (case k_law_draw => k_is)
    intro D_law_draw
    refine' Sq.cutD (Sq.DefAt.mk1 (x := "_law_after") (st := Sq.s_law_after) (ps := ["many", "steps_now"]) KX G ?a_law_after ?l_law_after ?c_law_after ?k_law_after (fun _ _ _ _ _ _ us hl => match us, hl with | [_, _], _ => rfl)) ?_
    (case a_law_after => k_is); (case l_law_after => k_is); (case c_law_after => k_is); (case k_law_after => k_is)
    intro D_law_after
    refine' Sq.cutD (Sq.DefAt.mk1 (x := "_law_reach") (st := Sq.s_law_reach) (ps := ["steps_now"]) KX G ?a_law_reach ?l_law_reach ?c_law_reach ?k_law_reach (fun _ _ _ _ _ _ us hl => match us, hl with | [_], _ => rfl)) ?_
    (case a_law_reach => k_is); (case l_law_reach => k_is); (case c_law_reach => k_is); (case k_law_reach => k_is)
    intro D_law_reach
    refine' Sq.cutD (Sq.DefAt.mk1 (x := "_law_all_lists") (st := Sq.s_law_all_lists) (ps := ["many", "largest"]) KX G ?a_law_all_lists ?l_law_all_lists ?c_law_all_lists ?k_law_all_lists (fun _ _ _ _ _ _ us hl => match us, hl with | [_, _], _ => rfl)) ?_
    (case a_law_all_lists => k_is); (case l_law_all_lists => k_is); (case c_law_all_lists => k_is); (case k_law_all_lists => k_is)
    intro D_law_all_lists
    refine' Sq.cutD (Sq.DefAt.mk1 (x := "_law_is_refused") (st := Sq.s_law_is_refused) (ps := ["many", "largest", "far", "spot"]) KX G ?a_law_is_refused ?l_law_is_refused ?c_law_is_refused ?k_law_is_refused (fun _ _ _ _ _ _ us hl => match us, hl with | [_, _, _, _], _ => rfl)) ?_
    (case a_law_is_refused => k_is); (case l_law_is_refused => k_is); (case c_law_is_refused => k_is); (case k_law_is_refused => k_is)
    intro D_law_is_refused
    refine' Sq.cutD (Sq.DefAt.mk1 (x := "law") (st := Sq.s_law) (ps := ["script"]) KX G ?a_law ?l_law ?c_law ?k_law (fun _ _ _ _ _ _ us hl => match us, hl with | [_], _ => rfl)) ?_
    (case a_law => k_is); (case l_law => k_is); (case c_law => k_is); (case k_law => k_is)
    intro D_law
    refine' Sq.cutD (Sq.glob_mk (x := "Choices") KX G ?aC_Choices) ?_
    (case aC_Choices => k_is)
    intro C_Choices
    refine' Sq.cutD (Sq.cls_mk KX C_Choices ?pg_Choices ?hd_Choices ?po_Choices ?sa_Choices) ?_
    (case pg_Choices => k_is); (case hd_Choices => k_is); (case po_Choices => k_is); (case sa_Choices => k_is)
    intro K_Choices
    refine' Sq.cutD (Sq.noat_mk (m := "greatest") KX C_Choices ?n_Choices_greatest) ?_
    (case n_Choices_greatest => k_is)
    intro N_Choices_greatest
    refine' Sq.cutD (Sq.noat_mk (m := "reaches") KX C_Choices ?n_Choices_reaches) ?_
    (case n_Choices_reaches => k_is)
    intro N_Choices_reaches
    refine' Sq.cutD (Sq.noat_mk (m := "known") KX C_Choices ?n_Choices_known) ?_
    (case n_Choices_known => k_is)
    intro N_Choices_known
    refine' Sq.cutD (Sq.IniAt.mk1 (x := "Choices") (qual := "Choices.__init__") (st := Sq.s_Choices___init__) (ps := ["self", "steps", "greatest"]) KX C_Choices ?a_Choices___init__ ?l_Choices___init__ ?c_Choices___init__ ?k_Choices___init__ ?mk_Choices___init__ ?i_Choices___init__ ?kc_Choices___init__ (fun _ _ _ _ _ _ us hl => match us, hl with | [_, _, _], _ => rfl)) ?_
    (case a_Choices___init__ => k_is); (case l_Choices___init__ => k_is); (case c_Choices___init__ => k_is); (case k_Choices___init__ => k_is); (case mk_Choices___init__ => k_is); (case i_Choices___init__ => k_is); (case kc_Choices___init__ => k_is)
    intro D_Choices___init__
    refine' Sq.cutD (Sq.MetAt.mk1 (m := "count") (qual := "Choices.count") (st := Sq.s_Choices_count) (ps := ["self", "steps", "length"]) KX C_Choices ?a_Choices_count ?l_Choices_count ?c_Choices_count ?k_Choices_count ?i_Choices_count (fun _ _ _ _ _ _ us hl => match us, hl with | [_, _, _], _ => rfl)) ?_
    (case a_Choices_count => k_is); (case l_Choices_count => k_is); (case c_Choices_count => k_is); (case k_Choices_count => k_is); (case i_Choices_count => k_is)
    intro D_Choices_count
    refine' Sq.cutD (Sq.MetAt.mk1 (m := "firsts") (qual := "Choices.firsts") (st := Sq.s_Choices_firsts) (ps := ["self"]) KX C_Choices ?a_Choices_firsts ?l_Choices_firsts ?c_Choices_firsts ?k_Choices_firsts ?i_Choices_firsts (fun _ _ _ _ _ _ us hl => match us, hl with | [_], _ => rfl)) ?_
    (case a_Choices_firsts => k_is); (case l_Choices_firsts => k_is); (case c_Choices_firsts => k_is); (case k_Choices_firsts => k_is); (case i_Choices_firsts => k_is)
    intro D_Choices_firsts
    refine' Sq.cutD (Sq.MetAt.mk1 (m := "count_behind") (qual := "Choices.count_behind") (st := Sq.s_Choices_count_behind) (ps := ["self", "first", "steps", "length"]) KX C_Choices ?a_Choices_count_behind ?l_Choices_count_behind ?c_Choices_count_behind ?k_Choices_count_behind ?i_Choices_count_behind (fun _ _ _ _ _ _ us hl => match us, hl with | [_, _, _, _], _ => rfl)) ?_
    (case a_Choices_count_behind => k_is); (case l_Choices_count_behind => k_is); (case c_Choices_count_behind => k_is); (case k_Choices_count_behind => k_is); (case i_Choices_count_behind => k_is)
    intro D_Choices_count_behind
    refine' Sq.cutD (Sq.glob_mk (x := "InvalidNumber") KX G ?aC_InvalidNumber) ?_
    (case aC_InvalidNumber => k_is)
    intro C_InvalidNumber
    refine' Sq.cutD (Sq.exm_self KX C_InvalidNumber ?e1_InvalidNumber ?e2_InvalidNumber ?e3_InvalidNumber ?e4_InvalidNumber) ?_
    (case e1_InvalidNumber => k_is)
    (case e2_InvalidNumber => k_is)
    (case e3_InvalidNumber => k_is)
    (case e4_InvalidNumber => k_is)
    intro S_InvalidNumber
    refine' Sq.cutD (Sq.xv_mk KX C_InvalidNumber ?x1_InvalidNumber ?x2_InvalidNumber ?x3_InvalidNumber ?x4_InvalidNumber ?x5_InvalidNumber) ?_
    (case x1_InvalidNumber => k_is)
    (case x2_InvalidNumber => k_is)
    (case x3_InvalidNumber => k_is)
    (case x4_InvalidNumber => k_is)
    (case x5_InvalidNumber => k_is)
    intro V_InvalidNumber
    have hi : Sq.Cho _ _ := ⟨K_Choices, N_Choices_greatest, N_Choices_reaches, N_Choices_known⟩
    obtain ⟨fd, F, hb⟩ := D_law.law hmg (fun _ _ _ _ _ _ us hl => match us, hl with | [_], _ => rfl)
    refine ⟨fd, hb, fun base _ _ => ?_⟩
    refine' Sq.cutD (Sq.rai_mk (P := PySem.Challenge.rw_squeezelists_k24_lists_counted_by_trying.prog) (w := w) (base := base) KX G C_InvalidNumber ?lC_InvalidNumber ?rC_InvalidNumber ?sa_InvalidNumber ?ex_InvalidNumber ?ty_InvalidNumber ?kc_InvalidNumber ?ini_InvalidNumber ?tyf_InvalidNumber ?l_InvalidNumber ?co_InvalidNumber ?cell_InvalidNumber ?rec__InvalidNumber ?v2_InvalidNumber ?fl_InvalidNumber ?top_InvalidNumber ?opq_InvalidNumber ?sup_InvalidNumber ?veb_InvalidNumber ?slf_InvalidNumber ?val_InvalidNumber ?ms_InvalidNumber ?he_InvalidNumber ?hb_InvalidNumber) ?_
    (case lC_InvalidNumber => k_is)
    (case rC_InvalidNumber => decide +kernel)
    (case sa_InvalidNumber => k_is)
    (case ex_InvalidNumber => k_is)
    (case ty_InvalidNumber => k_is)
    (case kc_InvalidNumber => k_is)
    (case ini_InvalidNumber => k_is)
    (case tyf_InvalidNumber => k_is)
    (case l_InvalidNumber => k_is)
    (case co_InvalidNumber => k_is)
    (case cell_InvalidNumber => k_is)
    (case rec__InvalidNumber => k_is)
    (case v2_InvalidNumber => rfl)
    (case fl_InvalidNumber => rfl)
    (case top_InvalidNumber => rfl)
    (case opq_InvalidNumber => k_is)
    (case sup_InvalidNumber => ks_is)
    (case veb_InvalidNumber => k_is)
    (case slf_InvalidNumber => k_is)
    (case val_InvalidNumber => k_is)
    (case ms_InvalidNumber => k_is)
    (case he_InvalidNumber => exact fun _ => rfl)
    (case hb_InvalidNumber => exact fun us hl => match us, hl with | [_, _], _ => rfl)
    intro R_InvalidNumber
    have ca := Sq.cal_args (P := PySem.Challenge.rw_squeezelists_k24_lists_counted_by_trying.prog) (w := w) (base := base) D_check_arguments B R_InvalidNumber
    have cn := Sq.cal_needed (P := PySem.Challenge.rw_squeezelists_k24_lists_counted_by_trying.prog) (w := w) (base := base) D_needed_reach B
    have mk := Sq.mak_choices D_Choices___init__ hi B (Sq.cal_greatest (P := PySem.Challenge.rw_squeezelists_k24_lists_counted_by_trying.prog) (w := w) (base := base) D_greatest_reaches B)
    have fi := Sq.met_firsts (P := PySem.Challenge.rw_squeezelists_k24_lists_counted_by_trying.prog) (w := w) (base := base) D_Choices_firsts hi B
    have co := Sq.met_count D_Choices_count D_Choices_count_behind hi B cn fi 8
    have cb := Sq.met_behind D_Choices_count_behind hi B cn (by decide) co
    have cd := Sq.cal_drawD (P := PySem.Challenge.rw_squeezelists_k24_lists_counted_by_trying.prog) (w := w) (base := base) D_law_draw B
    have cl := Sq.count_calm (Sq.two_countL D_count_lists B ca mk co)
    have nx := Sq.two_nth D_nth_list B ca mk co cb fi cn R_InvalidNumber
    have nl := Sq.nth_calm nx
    have clk : Sq.CalK _ _ _ _ _ _ "count_lists" ["length", "greatest", "steps"] Sq.spCount3K := cl.calK (fun {α} (l : List α) => match l with | [c, b, a] => [a, b, c] | l => l) (fun {vs us} r => by
      cases r with
      | nil => exact .nil
      | cons a r => cases r with
        | nil => exact .cons a .nil
        | cons b r => cases r with
          | nil => exact .cons a (.cons b .nil)
          | cons c r => cases r with
            | nil => exact .cons c (.cons b (.cons a .nil))
            | cons d r => exact .cons a (.cons b (.cons c (.cons d r)))) (fun kV doc pm an cdv ct ws hl => match ws, hl with | [_, _, _], _ => rfl) (by
      rintro zs H Q E ⟨a, b, c, rfl, h⟩
      exact ⟨rfl, h⟩)
    have nlk : Sq.CalK _ _ _ _ _ _ "nth_list" ["number", "length", "greatest", "steps"] Sq.spNth4K := nl.calK (fun {α} (l : List α) => match l with | [d, c, b, a] => [a, b, c, d] | l => l) (fun {vs us} r => by
      cases r with
      | nil => exact .nil
      | cons a r => cases r with
        | nil => exact .cons a .nil
        | cons b r => cases r with
          | nil => exact .cons a (.cons b .nil)
          | cons c r => cases r with
            | nil => exact .cons a (.cons b (.cons c .nil))
            | cons d r => cases r with
              | nil => exact .cons d (.cons c (.cons b (.cons a .nil)))
              | cons e r => exact .cons a (.cons b (.cons c (.cons d (.cons e r))))) (fun kV doc pm an cdv ct ws hl => match ws, hl with | [_, _, _, _], _ => rfl) (by
      rintro zs H Q E ⟨a, b, c, d, rfl, h⟩
      exact ⟨rfl, h⟩)
    refine Sq.ok_law F B (Sq.cal_bag D_law_bag B) cd (Sq.cal_allL D_law_all_lists B) (Sq.cal_lreach D_law_reach B) (Sq.cal_after D_law_after B) cl.cal clk nl.cal nlk (Sq.cal_refused D_law_is_refused B C_InvalidNumber S_InvalidNumber V_InvalidNumber nx.calX)
