import PyProof.Rows.All
import Wide.All
import OpenK.AllK
import Wide.FinOn
import HandS.ForMost
import HandS.Wide
import HandS.Style
import HandS.SortInts
import HandS.Deep
import HandS.Defaults
import HandS.Flow
import HandS.IsInst
import HandS.Codes
import HandS.NoneIn
import HandS.Property
import HandS.RaiseMore
import PyProof.ReprRoads
import PyProof.LongRange
import HandS.Exc
import HandS.ExcInit
import HandS.NestedK
import KE.KExcSuper
import HandS.ExcIs
import HandS.ExcField
import KE.KExcIs
import HandS.WordsExc
import HandS.GenList
import HandS.GenCall
import HandS.GenYield
import PyProof.GenRules
import PyProof.GenComp
import PySem.Challenge.RW_squeezelists_k12_whole_origins_and_reach
set_option Elab.async false
set_option linter.all false
set_option maxRecDepth 100000
set_option maxHeartbeats 4000000
namespace Sq
open PySem PySem.Spec PyProof.Rows L2
/-! ## operators -/
/-- a power whose base has at most 100000 bits -/
def CPowW (i j : Int) : Prop := 0 ≤ j ∧ j ≤ 1000 ∧ i.natAbs.log2 < 100000
theorem bitsOf_le (i : Int) : Builtin.Int.intBits i ≤ i.natAbs.log2 + 1 := by
  unfold Builtin.Int.intBits
  split <;> omega
theorem op_powW {X : Cx} : OpR X (binaryOp .Pow) (rI CPowW fun i j => .int (i ^ j.toNat)) := opI fun i j _ _ _ _ _ hc q => by
  obtain ⟨h1, h2, h3⟩ := hc
  refine pow_int h1 ?_ q
  have hb := bitsOf_le i
  have h4 : ((Builtin.Int.intBits i : Nat) : Int) ≤ 100000 := by omega
  have h5 := Int.mul_le_mul h4 h2 h1 (by decide : (0 : Int) ≤ 100000)
  exact Int.le_trans h5 (by decide)
def ipIC (C : Int → Int → Prop) (f : Int → Int → Int) : TIp := fun x y H Q => ∃ i j, x = .int i ∧ y = .int j ∧ C i j ∧ Q (.int (f i j)) H
section
variable {X : Cx}
theorem ip_mulW : PIp X .Mult (ipIC CMulW fun i j => i * j) := by
  intro pins s σ H x y v u Q I r1 r2 h
  obtain ⟨i, j, e1, e2, c, q⟩ := h
  subst e1; subst e2
  obtain ⟨t, rfl⟩ := r1
  obtain ⟨t', rfl⟩ := r2
  exact imul_int ⟨.int _, H, I.tok _, ⟨_, rfl⟩, q⟩ c.ok
theorem ip_fdivW : PIp X .FloorDiv (ipIC CDivW fun i j => i / j) := by
  intro pins s σ H x y v u Q I r1 r2 h
  obtain ⟨i, j, e1, e2, c, q⟩ := h
  subst e1; subst e2
  obtain ⟨t, rfl⟩ := r1
  obtain ⟨t', rfl⟩ := r2
  have h1 : (0 : Int) < j := c.1
  refine ifloordiv_int (by omega) ?_ (.inl (PyProof.noPylong_of_log2 c.2))
  rw [Int.fdiv_eq_ediv_of_nonneg i (by omega)]
  exact ⟨.int _, H, I.tok _, ⟨_, rfl⟩, q⟩
end
/-- numbers below 2 ^ n have a small log2 -/
theorem lg_lt {i : Int} {n : Nat} (h : i.natAbs < 2 ^ n) (h0 : 0 < n) : i.natAbs.log2 < n := PySem.Flt.log2_lt_of h0 h

/-! ## sizes -/
/-- at most b bits -/
def Sm (b : Nat) (i : Int) : Prop := i.natAbs < 2 ^ b
theorem Sm.mono {a b : Nat} {i : Int} (h : Sm a i) (hab : a ≤ b) : Sm b i := Nat.lt_of_lt_of_le h (Nat.pow_le_pow_right (by decide) hab)
theorem Sm.lg {b : Nat} {i : Int} (h : Sm b i) (h0 : 0 < b) : i.natAbs.log2 < b := PySem.Flt.log2_lt_of h0 h
theorem Sm.add {b : Nat} {i j : Int} (h : Sm b i) (h' : Sm b j) : Sm (b + 1) (i + j) := by
  have e : 2 ^ (b + 1) = 2 ^ b + 2 ^ b := by rw [Nat.pow_succ]; omega
  unfold Sm at *
  omega
theorem Sm.neg {b : Nat} {i : Int} (h : Sm b i) : Sm b (-i) := by
  unfold Sm at *
  rw [Int.natAbs_neg]
  exact h
theorem Sm.sub {b : Nat} {i j : Int} (h : Sm b i) (h' : Sm b j) : Sm (b + 1) (i - j) := by
  rw [Int.sub_eq_add_neg]
  exact h.add h'.neg
theorem Sm.mul {a b : Nat} {i j : Int} (h : Sm a i) (h' : Sm b j) : Sm (a + b) (i * j) := by
  unfold Sm at *
  rw [Int.natAbs_mul, Nat.pow_add]
  exact Nat.mul_lt_mul'' h h'
theorem Sm.le {b : Nat} {i j : Int} (h : Sm b j) (h0 : 0 ≤ i) (hij : i ≤ j) : Sm b i := by
  unfold Sm at *
  omega
theorem Sm.wide {a b : Nat} {i j : Int} (h : Sm a i) (h' : Sm b j) (ha : 0 < a) (hb : 0 < b) (hab : a + b ≤ 1000000) : CMulW i j := by
  have h1 := h.lg ha
  have h2 := h'.lg hb
  unfold CMulW
  omega
/-- a small number -/
theorem Sm.of {b : Nat} {i : Int} (h : i.natAbs < 2 ^ 10) (hb : 10 ≤ b) : Sm b i := Sm.mono (a := 10) h hb
theorem div_ok {i k : Int} (h : 0 < k) (h2 : k < 2 ^ 240) : CDivW i k := ⟨h, Nat.lt_trans ((show Sm 240 k by unfold Sm; omega).lg (by decide)) (by decide)⟩
theorem pow_ok {b : Nat} {i j : Int} (h : Sm b i) (h0 : 0 < b) (hb : b ≤ 100000) (j0 : 0 ≤ j) (j1 : j ≤ 1000) : CPowW i j := ⟨j0, j1, Nat.lt_of_lt_of_le (h.lg h0) hb⟩
/-! ## rules whose reading speaks of the written part K itself (a comprehension's block has it too) -/
section
variable {X : Cx} {K : PySem.W.Frag}
theorem ix_listK (h : X.K = K := by rfl) : IxR X (rIxL K) := by subst h; exact ix_list
theorem ix_tupK (h : X.K = K := by rfl) : IxR X (rIxT K) := by subst h; exact ix_tup
theorem sl_listK (h : X.K = K := by rfl) : SlR X (rSlL K) := by subst h; exact sl_list
theorem sl_tupK (h : X.K = K := by rfl) : SlR X (rSlT K) := by subst h; exact sl_tup
def rLenQ (K : PySem.W.Frag) : List V → Hp → VK → Prop := fun xs H Q => ∃ p ys, xs = [.ref p] ∧ SqL K H p ys ∧ Q (.int ys.length) H
theorem len_seqK (h : X.K = K := by rfl) : CallR X (.builtin "len") (rLenQ K) := by
  subst h
  intro pins s σ H xs us Q I r q
  obtain ⟨p, ys, e, hs, q⟩ := q
  exact call_len_seq pins s σ H xs us Q I r ⟨p, ys, e, .inl hs, q⟩
/-- readings that are not to be opened by themselves -/
@[irreducible] def rEqQ (K : PySem.W.Frag) : R2 := rEqD K
@[irreducible] def rNeQ (K : PySem.W.Frag) : R2 := rNeD K
@[irreducible] def rInQ (K : PySem.W.Frag) : R2 := rInD K
@[irreducible] def rNotInQ (K : PySem.W.Frag) : R2 := rNotInD K
theorem rEqQ_of {H : Hp} {x y : V} {Q : VK} (h : rEqD K x y H Q) : rEqQ K x y H Q := by unfold rEqQ; exact h
theorem rNeQ_of {H : Hp} {x y : V} {Q : VK} (h : rNeD K x y H Q) : rNeQ K x y H Q := by unfold rNeQ; exact h
theorem rInQ_of {H : Hp} {x y : V} {Q : VK} (h : rInD K x y H Q) : rInQ K x y H Q := by unfold rInQ; exact h
theorem rNotInQ_of {H : Hp} {x y : V} {Q : VK} (h : rNotInD K x y H Q) : rNotInQ K x y H Q := by unfold rNotInQ; exact h
theorem op_eqDK (hu : X.A.units + 64 < cLine) (h : X.K = K := by rfl) : OpR X (compareOp .Eq) (rEqQ K) := by subst h; unfold rEqQ; exact op_eqD hu
theorem op_neDK (hu : X.A.units + 64 < cLine) (h : X.K = K := by rfl) : OpR X (compareOp .NotEq) (rNeQ K) := by subst h; unfold rNeQ; exact op_neD hu
theorem op_inDK (hu : X.A.units + 65 < cLine) (h : X.K = K := by rfl) : OpR X (compareOp .In) (rInQ K) := by subst h; unfold rInQ; exact op_inD hu
theorem op_notInDK (hu : X.A.units + 65 < cLine) (h : X.K = K := by rfl) : OpR X (compareOp .NotIn) (rNotInQ K) := by subst h; unfold rNotInQ; exact op_notInD hu
theorem isiK (h : X.K = K := by rfl) : CallR X (.builtin "isinstance") (rIsi K) := by subst h; exact call_isi
def rListOf (K : PySem.W.Frag) : List V → Hp → VK → Prop := fun xs H Q => ∃ p ys, xs = [.ref p] ∧ SqL K H p ys ∧ ∀ l, H l = none → Q (.ref l) (upd H l (.lst ys))
theorem list_ofK (h : X.K = K := by rfl) : CallR X (.type "list") (rListOf K) := by
  subst h
  intro pins s σ H xs us Q I r q
  obtain ⟨p, ys, e, hs, q⟩ := q
  exact call_list_of pins s σ H xs us Q I r ⟨p, ys, e, .inl hs, q⟩
theorem cr_sumK (hc : X.calm = true) (h : X.K = K := by rfl) : CallR X (.builtin "sum") (rSum K) := by subst h; exact cr_sum hc
theorem cr_maxK (hc : X.calm = true) (h : X.K = K := by rfl) : CallR X (.builtin "max") (rMax K) := by subst h; exact cr_max hc
theorem cr_minK (hc : X.calm = true) (h : X.K = K := by rfl) : CallR X (.builtin "min") (rMin K) := by subst h; exact cr_min hc
theorem cr_allK (hc : X.calm = true) (h : X.K = K := by rfl) : CallR X (.builtin "all") (rAll K) := by subst h; exact cr_all hc
theorem cr_anyK (hc : X.calm = true) (h : X.K = K := by rfl) : CallR X (.builtin "any") (rAny K) := by subst h; exact cr_any hc
theorem cr_sortedIK (h : X.K = K := by rfl) : CallR X (.builtin "sorted") (rSortedI K) := by subst h; exact cr_sortedI
variable {e a b : Expr} {te ta tb : TE} {es : List Expr} {t : TA} {tgs : TGs} {tg : Expr} {pos p q : Pos} {n : Nat}
theorem pi_listK (he : PE X e te) (h : X.K = K := by rfl) : PI X tg e (iList K te) := by subst h; exact pi_list he
theorem pg_tupK {k : Nat} (hc : X.calm = true) (hg : PGs X es tgs) (hn : (assignEach es X.env).length = n := by rfl) (hst : (assignEach es X.env).findIdx? (·.1) = none := by rfl) (h : X.K = K := by rfl) : PG X (.Tuple es k pos) (gTup K n tgs) := by
  subst h
  exact pg_tup hc hg hn hst
theorem pg_lstK {k : Nat} (hc : X.calm = true) (hg : PGs X es tgs) (hn : (assignEach es X.env).length = n := by rfl) (hst : (assignEach es X.env).findIdx? (·.1) = none := by rfl) (h : X.K = K := by rfl) : PG X (.Tuple es k pos) (gUnl K n tgs) := by
  subst h
  exact pg_unl hc hg hn hst
theorem pi_enumK {elts : List Expr} {kk : Nat} (hg : Gl X "enumerate") (hm : X.mg "enumerate" = none) (ha : PA X [e] t) (hs : starEach [e] X.env = [(false, eval e X.env)] := by rfl) (h : X.K = K := by rfl) :
    PI X (.Tuple elts kk p) (.Call (.Name "enumerate" q) [e] [] pos) (iEnum K t) := by
  subst h
  exact pi_enum hg hm ha hs
theorem pi_zipK {elts : List Expr} {kk : Nat} (hg : Gl X "zip") (hm : X.mg "zip" = none) (ha : PA X [a, b] t) (hs : starEach [a, b] X.env = (false, eval a X.env) :: starEach [b] X.env := by rfl)
    (hpl : (backTo pos (starEach [b] X.env)).any (·.1) = false := by rfl) (h : X.K = K := by rfl) : PI X (.Tuple elts kk p) (.Call (.Name "zip" q) [a, b] [] pos) (iZip K t) := by
  subst h
  exact pi_zip hg hm ha hs hpl
theorem pe_revLK {k : Nat} {p1 p2 p3 : Pos} (he : PE X e te) (h : X.K = K := by rfl) : PE X (.Subscript e (.Slice none none (some (.UnaryOp .USub (.Constant (.int 1) k p1) p2)) p3) pos) (tRevL K te) := by
  subst h
  exact pe_revL he
theorem pe_fldK {f : Str} (he : PE X e te) (hb : attributeBase e f X.env (eval e X.env) = eval e X.env := by rfl) (h : X.K = K := by rfl) : PE X (.Attribute e f pos) (tFld K te f) := by
  subst h
  exact pe_fld he hb
end

/-! ## heaps -/
/-- what holds between the turns of a loop (a wrapper: it is not taken apart by itself) -/
structure Keep (P : Prop) : Prop where
  o : P

theorem Same.get {H H' : Hp} {a : Addr} {o : HO} (s : Same H H') (h : H a = some o) : H' a = some o := s a o h
theorem same_new {H : Hp} {p : Addr} {o : HO} (h : H p = none) : Same H (upd H p o) := fun b u e => by
  rw [upd_ne (ne_of_none e h)]
  exact e
theorem upd_keep {H : Hp} {p a : Addr} {o u : HO} (n : H p = none) (h : H a = some u) : upd H p o a = some u := same_new n a u h
theorem upd_off {H : Hp} {p a : Addr} {o u : HO} (n : a ≠ p) (h : H a = some u) : upd H p o a = some u := by
  rw [upd_ne n]
  exact h
/-- a source of draws: what is true of it, where it stands -/
structure Rg where
  I : Hp → Prop
  S : Addr → Prop
  loc : ∀ H H' : Hp, (∀ a, S a → H' a = H a) → I H → I H'
  has : ∀ (H : Hp) (a : Addr), I H → S a → H a ≠ none
/-- the heap H is the quiet part G and the source -/
structure Sep (R : Rg) (G H : Hp) : Prop where
  inv : R.I H
  same : Same G H
  off : ∀ a, R.S a → G a = none
section
variable {R : Rg} {G G' H H' : Hp} {p a : Addr} {o u : HO}
theorem Sep.get (s : Sep R G H) (h : G a = some o) : H a = some o := s.same a o h
theorem Sep.free (s : Sep R G H) (h : H p = none) : G p = none := s.same.free h
theorem Sep.weak (s : Sep R G H) (h : Same G' G) : Sep R G' H := ⟨s.inv, h.trans s.same, fun a ha => by
  cases q : G' a with
  | none => rfl
  | some o =>
    have z := h a o q
    rw [s.off a ha] at z
    cases z⟩
theorem Sep.new (s : Sep R G H) (h : H p = none) (o : HO) : Sep R (upd G p o) (upd H p o) := by
  have np : ∀ a, R.S a → a ≠ p := fun a ha e => R.has H a s.inv ha (by rw [e]; exact h)
  refine ⟨R.loc H _ (fun a ha => upd_ne (np a ha)) s.inv, fun b x e => ?_, fun a ha => by rw [upd_ne (np a ha)]; exact s.off a ha⟩
  by_cases hb : b = p
  · rw [hb, upd_same] at e
    rw [hb, upd_same]
    exact e
  · rw [upd_ne hb] at e
    rw [upd_ne hb]
    exact s.same b x e
/-- a store into an object of the quiet part -/
theorem Sep.put (s : Sep R G H) (h : G p = some u) (o : HO) : Sep R (upd G p o) (upd H p o) := by
  have np : ∀ a, R.S a → a ≠ p := fun a ha e => by
    have z := s.off a ha
    rw [e, h] at z
    cases z
  refine ⟨R.loc H _ (fun a ha => upd_ne (np a ha)) s.inv, fun b x e => ?_, fun a ha => by rw [upd_ne (np a ha)]; exact s.off a ha⟩
  by_cases hb : b = p
  · rw [hb, upd_same] at e
    rw [hb, upd_same]
    exact e
  · rw [upd_ne hb] at e
    rw [upd_ne hb]
    exact s.same b x e
/-- behind something that only makes new things -/
theorem Sep.on (s : Sep R G H) (h : Same H H') : Sep R G H' := by
  refine ⟨R.loc H _ (fun a ha => ?_) s.inv, s.same.trans h, s.off⟩
  cases q : H a with
  | none => exact absurd q (R.has H a s.inv ha)
  | some o => exact h a o q
theorem Sep.grow (s : Sep R G H) (h : Same H H') (n : H p = none) (e : H' p = some o) : Sep R (upd G p o) H' := by
  have s' := s.on h
  have np : ∀ a, R.S a → a ≠ p := fun a ha z => R.has H a s.inv ha (by rw [z]; exact n)
  refine ⟨s'.inv, fun b x q => ?_, fun a ha => by rw [upd_ne (np a ha)]; exact s.off a ha⟩
  by_cases hb : b = p
  · rw [hb, upd_same] at q
    rw [hb, e]
    exact q
  · rw [upd_ne hb] at q
    exact s'.same b x q
end
/-- a source of draws that is a list of three ints: digits, a mix, a count that is at most N -/
def R3 (r : Addr) (N a b c : Int) (H : Hp) : Prop := H r = some (.lst [.int a, .int b, .int c]) ∧ 0 ≤ a ∧ 0 ≤ b ∧ b < 2 ^ 100 ∧ 0 ≤ c ∧ c ≤ N
def rg3 (r : Addr) (N : Int) : Rg where
  I := fun H => ∃ a b c, R3 r N a b c H
  S := fun x => x = r
  loc := fun H H' e ⟨a, b, c, h1, h2⟩ => ⟨a, b, c, (e r rfl).trans h1, h2⟩
  has := fun H x ⟨a, b, c, h1, _⟩ hx => by
    subst hx
    rw [h1]
    exact fun z => nomatch z
theorem Sep3.redo {r : Addr} {N N' : Int} {G H : Hp} {o : HO} (s : Sep (rg3 r N) G H) (h : ∃ a b c, R3 r N' a b c (upd H r o)) : Sep (rg3 r N') G (upd H r o) := by
  refine ⟨h, fun b u q => ?_, s.off⟩
  have nr : b ≠ r := fun z => by
    have := s.off b z
    rw [q] at this
    cases this
  rw [upd_ne nr]
  exact s.same b u q
theorem Sep3.mono {r : Addr} {N N' : Int} {G H : Hp} (s : Sep (rg3 r N) G H) (h : N ≤ N') : Sep (rg3 r N') G H := by
  obtain ⟨a, b, c, h1, h2, h3, h4, h5, h6⟩ := s.inv
  exact ⟨⟨a, b, c, h1, h2, h3, h4, h5, by omega⟩, s.same, s.off⟩
/-- a draw from it -/
def spDraw3 : Sp := fun vs H Q _ => ∃ (r : Addr) (m N : Int) (G : Hp), vs = [.ref r, .int m] ∧ Sep (rg3 r N) G H ∧ Keep (0 < m ∧ m < 2 ^ 240 ∧ N < 2 ^ 60) ∧ ∀ v H', 0 ≤ v → v < m → Sep (rg3 r (N + 1)) G H' → Q (.int v) H'
theorem seqL_of {K : PySem.W.Frag} {H : Hp} {a : Addr} {xs : List V} (h : H a = some (.lst xs)) : SqL K H a xs := .inl (.inl h)
/-- ints as values -/
abbrev iv (ns : List Int) : List V := ns.map V.int
theorem iv_app (ns : List Int) (x : Int) : iv ns ++ [V.int x] = iv (ns ++ [x]) := by simp
theorem iv_len (ns : List Int) : (iv ns).length = ns.length := List.length_map _
theorem iv_get {ns : List Int} {i : Nat} {x : V} (h : (iv ns)[i]? = some x) : ∃ n, ns[i]? = some n ∧ x = .int n := by
  rw [List.getElem?_map] at h
  cases e : ns[i]? with
  | none =>
    rw [e] at h
    cases h
  | some n =>
    rw [e] at h
    exact ⟨n, rfl, (Option.some.inj h).symm⟩

theorem atI_iv {ns : List Int} {i : Int} (h0 : 0 ≤ i) (h1 : i < ns.length) : ∃ n, atI (iv ns) i = some (.int n) := by
  obtain ⟨j, rfl⟩ := Int.eq_ofNat_of_zero_le h0
  have hj : j < ns.length := by omega
  exact ⟨ns[j], atI_nat (by rw [List.getElem?_map, List.getElem?_eq_getElem hj]; rfl)⟩
theorem seqIx0 {n : Nat} (h : 0 < n) : seqIndex? 0 n = some 0 := by
  unfold seqIndex?
  simp
  omega
theorem lit_len {n : Nat} (h : n ≤ 1000) : n ≤ sizeLine := Nat.le_of_lt (small1000 h)
/-- for i, x in enumerate(xs) -/
theorem for_enum {K : PySem.W.Frag} {a : Addr} {xs : List V} {g : TG} {tb : TS} {D : Ends} {σ : L2.St} {H : Hp} (Pv : Nat → L2.St → Hp → Prop) (h0 : Pv 0 σ H) (hq : ∀ i σ H, Pv i σ H → SqL K H a xs)
    (hs : ∀ (i : Nat) (x : V) (T : Addr) (σ : L2.St) (H : Hp), xs[i]? = some x → Pv i σ H → H T = none → g (.ref T) σ (upd H T (.tup [.int (i : Nat), x])) fun σ2 H2 => tb { D with nx := Pv (i + 1), ct := Pv (i + 1), bk := D.nx } σ2 H2) (hd : ∀ σ H, Pv xs.length σ H → D.nx σ H) :
    ∃ W : Nat → Nat → L2.St → Hp → Prop, (∃ m, W 0 m σ H) ∧ ∀ i m σ H, W i m σ H → ((Ite K a).stop i H ∧ D.nx σ H) ∨
      ((Ite K a).go i H ∧ ∃ N : L2.St → Hp → Prop, (∀ σ' H', N σ' H' → ∃ m', m' < m ∧ W (i + 1) m' σ' H') ∧ ∀ v H', (Ite K a).yld i H v H' → g v σ H' fun σ2 H2 => tb { D with nx := N, ct := N, bk := D.nx } σ2 H2) := by
  refine ⟨fun i m σ H => m + i = xs.length ∧ Pv i σ H, ⟨xs.length, rfl, h0⟩, fun i m σ H hW => ?_⟩
  obtain ⟨em, p⟩ := hW
  have q := hq i σ H p
  by_cases lt : i < xs.length
  · have ex : xs[i]? = some xs[i] := List.getElem?_eq_getElem lt
    refine .inr ⟨⟨xs, _, q, ex⟩, Pv (i + 1), fun σ' H' p' => ⟨m - 1, by omega, by omega, p'⟩, fun v H' hy => ?_⟩
    obtain ⟨T, x, rfl, nT, rfl, f⟩ := hy
    exact hs i x T σ H (f xs q) p nT
  · have ei : i = xs.length := by omega
    subst ei
    exact .inl ⟨⟨xs, q, Nat.le_refl _⟩, hd σ H p⟩

/-! ## repr of data, where no repr is under way -/
@[irreducible] def rReprD (K : PySem.W.Frag) : List V → Hp → VK → Prop := fun xs H Q => ∃ (a : Addr) (d : PyData), xs = [.ref a] ∧ Dp K H (.ref a) d ∧ d.showable = true ∧ d.hasDict = false ∧ d.depth ≤ 30 ∧ d.shown.length ≤ sizeLine ∧ Q (.str d.shown) H
theorem call_reprDK {X : Cx} {K : PySem.W.Frag} (hG : X.A.guards = some []) (hu : X.A.units + 64 < cLine) (h : X.K = K := by rfl) : CallR X (.builtin "repr") (rReprD K) := by
  subst h
  intro pins s σ H xs us Q I r h
  unfold rReprD at h
  obtain ⟨a, d, rfl, hd, hs, hn, hdp, hz, q⟩ := h
  obtain ⟨v, rfl, rv⟩ := vals1 r
  cases rv
  obtain ⟨as, rd⟩ := Dp.reads I d _ _ hd rfl
  refine repr_of_reads' rd hs (PyData.noDict_hsm hn) hG (by omega) (fun b o e => e) (fun h' t tk hk => ?_) hz
  exact ⟨.str d.shown, H, I.kept hk, ⟨_, rfl⟩, q⟩
/-! ## lists of ints as data -/
def dI (ns : List Int) : PyData := .list (ns.map .int)
theorem dpall_iv {K : PySem.W.Frag} {H : Hp} : ∀ ns : List Int, DpAll K H (iv ns) (ns.map .int)
  | [] => .nil
  | n :: r => .cons (.int n) (dpall_iv r)
theorem dp_iv {K : PySem.W.Frag} {H : Hp} {a : Addr} {ns : List Int} (h : SqL K H a (iv ns)) : Dp K H (.ref a) (dI ns) := .lst h (dpall_iv ns)
theorem can_ints : ∀ ns : List Int, PyData.canLayAll0 (ns.map .int) = true
  | [] => by simp [PyData.canLayAll0]
  | n :: r => by simp [PyData.canLayAll0, PyData.canLay0, can_ints r]
theorem dep_ints : ∀ ns : List Int, PyData.depthAll (ns.map .int) = 0
  | [] => by simp [PyData.depthAll]
  | n :: r => by simp [PyData.depthAll, PyData.depth, dep_ints r]
theorem eqv_ints : ∀ xs ys : List Int, PyData.eqvAll (xs.map .int) (ys.map .int) = decide (xs = ys)
  | [], [] => by simp [PyData.eqvAll]
  | [], _ :: _ => by simp [PyData.eqvAll]
  | _ :: _, [] => by simp [PyData.eqvAll]
  | x :: r, y :: t => by
    have ih := eqv_ints r t
    simp only [List.map_cons, PyData.eqvAll, PyData.eqv, ih, List.cons.injEq]
    by_cases e : x = y <;> by_cases e2 : r = t <;> simp [e, e2]
theorem shaped_dI (ns : List Int) : SeqAt.shaped (dI ns) = true := by
  unfold SeqAt.shaped dI
  simp only [PyData.canLay0, can_ints, PyData.depth, dep_ints]
  decide
theorem eqv_dI (xs ys : List Int) : PyData.eqv (dI xs) (dI ys) = decide (xs = ys) := by
  unfold dI
  simp only [PyData.eqv, eqv_ints]
theorem shown_ints_len : ∀ ns : List Int, (∀ n ∈ ns, n.natAbs.log2 < 1920) → ((PyData.shownAll (ns.map .int)).map (·.length)).sum ≤ 2000 * ns.length ∧ (PyData.shownAll (ns.map .int)).length = ns.length
  | [], _ => by simp [PyData.shownAll]
  | n :: r, h => by
    obtain ⟨h1, h2⟩ := shown_ints_len r fun m hm => h m (List.mem_cons_of_mem _ hm)
    have e := int_text_length_le (k := 1920) (by decide) (h n (List.mem_cons_self ..))
    have e2 : (PyData.shown (.int n)).length ≤ 2000 := by
      show (Str.ofString (toString n)).length ≤ 2000
      rw [PySem.ofString_length]
      omega
    simp only [List.map_cons, PyData.shownAll, List.sum_cons, List.length_cons]
    omega
theorem show_ints : ∀ ns : List Int, (∀ n ∈ ns, n.natAbs.log2 < 1920) → PyData.showableAll (ns.map .int) = true
  | [], _ => by simp [PyData.showableAll]
  | n :: r, h => by simp [PyData.showableAll, PyData.showable, h n (List.mem_cons_self ..), show_ints r fun m hm => h m (List.mem_cons_of_mem _ hm)]
theorem nod_ints : ∀ ns : List Int, PyData.hasDictAll (ns.map .int) = false
  | [] => by simp [PyData.hasDictAll]
  | n :: r => by simp [PyData.hasDictAll, PyData.hasDict, nod_ints r]
theorem r_eqI {K : PySem.W.Frag} {H : Hp} {a b : Addr} {xs ys : List Int} {Q : VK} (h1 : SqL K H a (iv xs)) (h2 : SqL K H b (iv ys)) (q : Q (.bl (decide (xs = ys))) H) : rEqQ K (.ref a) (.ref b) H Q :=
  rEqQ_of ⟨dI xs, dI ys, dp_iv h1, dp_iv h2, shaped_dI xs, shaped_dI ys, by rw [eqv_dI]; exact q⟩
theorem r_neI {K : PySem.W.Frag} {H : Hp} {a b : Addr} {xs ys : List Int} {Q : VK} (h1 : SqL K H a (iv xs)) (h2 : SqL K H b (iv ys)) (q : Q (.bl (!decide (xs = ys))) H) : rNeQ K (.ref a) (.ref b) H Q :=
  rNeQ_of ⟨dI xs, dI ys, dp_iv h1, dp_iv h2, shaped_dI xs, shaped_dI ys, by rw [eqv_dI]; exact q⟩
theorem r_repr {K : PySem.W.Frag} {H : Hp} {a : Addr} {ns : List Int} {Q : VK} (h1 : SqL K H a (iv ns)) (hl : ns.length ≤ 5000) (hz : ∀ n ∈ ns, n.natAbs.log2 < 1920) (q : Q (.str (dI ns).shown) H) : rReprD K [.ref a] H Q := by
  unfold rReprD
  refine ⟨a, dI ns, rfl, dp_iv h1, ?_, ?_, ?_, ?_, q⟩
  · simp only [dI, PyData.showable]
    exact show_ints ns hz
  · simp only [dI, PyData.hasDict]
    exact nod_ints ns
  · simp only [dI, PyData.depth, dep_ints]
    decide
  · obtain ⟨e1, e2⟩ := shown_ints_len ns hz
    have e3 := listText_len_le (PyData.shownAll (ns.map .int))
    simp only [dI, PyData.shown]
    rw [sizeLine_eq]
    omega
mutual
theorem dp_same {K : PySem.W.Frag} {H H' : Hp} (s : Same H H') : ∀ (d : PyData) (x : V), Dp K H x d → Dp K H' x d
  | .none, _, h => by cases h; exact .non
  | .bool _, _, h => by cases h; exact .bl _
  | .int _, _, h => by cases h; exact .int _
  | .str _, _, h => by cases h; exact .str _
  | .list ds, _, h => by
    cases h with
    | lst a b => exact .lst (s.seq a) (dpall_same s ds _ b)
  | .tuple ds, _, h => by
    cases h with
    | tup a b =>
      refine .tup ?_ (dpall_same s ds _ b)
      rcases a with (a | ⟨o, a⟩) | a
      · exact .inl (.inl (s _ _ a))
      · exact .inl (.inr ⟨o, s _ _ a⟩)
      · exact .inr a
  | .dict _, _, h => nomatch h
theorem dpall_same {K : PySem.W.Frag} {H H' : Hp} (s : Same H H') : ∀ (ds : List PyData) (xs : List V), DpAll K H xs ds → DpAll K H' xs ds
  | [], _, h => by cases h; exact .nil
  | d :: ds, _, h => by
    cases h with
    | cons a b => exact .cons (dp_same s d _ a) (dpall_same s ds _ b)
end
theorem dpall_len {K : PySem.W.Frag} {H : Hp} : ∀ (ds : List PyData) (xs : List V), DpAll K H xs ds → xs.length = ds.length
  | [], _, h => by cases h; rfl
  | d :: ds, _, h => by
    cases h with
    | cons a b => rw [List.length_cons, List.length_cons, dpall_len ds _ b]
theorem dpall_get {K : PySem.W.Frag} {H : Hp} : ∀ (ds : List PyData) (xs : List V), DpAll K H xs ds → ∀ (i : Nat) (d : PyData), ds[i]? = some d → ∃ x, xs[i]? = some x ∧ Dp K H x d
  | [], _, _, _, _, e => by simp at e
  | d :: ds, _, h, i, d', e => by
    cases h with
    | cons a b =>
      cases i with
      | zero =>
        have z : d = d' := by simpa using e
        subst z
        exact ⟨_, rfl, a⟩
      | succ i => exact dpall_get ds _ b i d' (by simpa using e)
theorem tyx_lst {K : PySem.W.Frag} {H : Hp} {a : Addr} {xs : List V} (h : SqL K H a xs) : TyX K H (.ref a) (.type "list") := by
  rcases h with (h | ⟨o, h⟩) | ⟨o, its, n, h1, h2, _⟩
  · exact .base (.lst h)
  · exact .base (.frz h)
  · exact .kList h1 h2
theorem tyx_tup {K : PySem.W.Frag} {H : Hp} {a : Addr} {xs : List V} (h : SqT K H a xs) : TyX K H (.ref a) (.type "tuple") := by
  rcases h with (h | ⟨o, h⟩) | ⟨o, its, n, h1, h2, _⟩
  · exact .base (.tup h)
  · exact .fTuple h
  · exact .kTuple h1 h2
theorem kit_no {K : PySem.W.Frag} : PySem.W.kitOne K (.type "int") (.type "bool") = some false ∧ PySem.W.kitOne K (.type "str") (.type "bool") = some false ∧ PySem.W.kitOne K (.type "list") (.type "bool") = some false ∧
    PySem.W.kitOne K (.type "bool") (.type "int") = some true ∧ PySem.W.kitOne K (.type "int") (.type "int") = some true := ⟨rfl, rfl, rfl, rfl, rfl⟩
/-! ## tests -/
theorem ifD {p A B : Prop} [Decidable p] (h1 : p → A) (h2 : ¬ p → B) : if decide p = true then A else B := by
  by_cases h : p
  · rw [decide_eq_true h]; exact iteT (h1 h)
  · rw [decide_eq_false h]; exact iteF (h2 h)
theorem ifN {p A B : Prop} [Decidable p] (h1 : ¬ p → A) (h2 : p → B) : if (!decide p) = true then A else B := by
  by_cases h : p
  · rw [decide_eq_true h]; exact iteF (h2 h)
  · rw [decide_eq_false h]; exact iteT (h1 h)
theorem ifI {i j : Int} {A B : Prop} (h1 : i = j → A) (h2 : i ≠ j → B) : if decide (V.int i = V.int j) = true then A else B :=
  ifD (fun e => h1 (V.int.inj e)) fun e => h2 fun z => e (congrArg V.int z)
theorem ifIN {i j : Int} {A B : Prop} (h1 : i ≠ j → A) (h2 : i = j → B) : if (!decide (V.int i = V.int j)) = true then A else B :=
  ifN (fun e => h1 fun z => e (congrArg V.int z)) fun e => h2 (V.int.inj e)
/-! ## defs that may ask for repr: called where no repr is under way -/
structure FnG (P : Program) (w : World) (K : PySem.W.Frag) (mg : Str → Option Value) (base : Heap) (CX : CXT) (k : Nat) (f : Addr) (fd : FuncData) (ps : List Str) (sp : Sp) : Prop where
  len : ∀ vs H Q E, sp vs H Q E → vs.length = ps.length
  run : ∀ (A : Around) (outer : List Env) (s : Shared) (H : Hp) (args : Args) (us : List Value) (vs : List V) (Q : VK) (E : XK), Room k A → A.guards = some [] →
    Env0 P w K mg base A outer s H → BindsTo s fd args (ps.zip us) → Vals vs us → sp vs H Q E → codeAny (model P w) A (.call (.ref f) args) (CR CX outer P w H s Q E) s
section
variable {P : Program} {w : World} {K : PySem.W.Frag} {mg : Str → Option Value} {base : Heap} {CX : CXT}
theorem FnG.of {k : Nat} {f : Addr} {fd : FuncData} {ps : List Str} {sp : Sp} (F : FnOk P w K mg base CX k f fd ps sp) : FnG P w K mg base CX k f fd ps sp :=
  ⟨F.len, fun A outer s H args us vs Q E hr _ => F.run A outer s H args us vs Q E hr⟩
theorem fnG_of {k : Nat} {f : Addr} {nm qual : Str} {pms : Arguments} {body : List Stmt} {sc : Scope} {dV kV dc pm cdv ct oc : Value} {an od : Option Addr} {sl : Array (Option Value)} {N ps : List Str} {sp : Sp}
    (lk : K.lookup f = some ⟨oc, od, .func (PySem.W.fnOf nm qual pms body sc dV kV dc pm an cdv ct), sl⟩) (hcd : PySem.W.codeIn K cdv qual = true) (S : FnScope N ps sc) (len : ∀ vs H Q E, sp vs H Q E → vs.length = ps.length)
    (hb : ∀ (A : Around) (outer : List Env) (s : Shared) (H : Hp) (vs : List V) (Q : VK) (E : XK), A.guards = some [] → Room k (A.deeper (envOfC qual sc s.heap.objs.size f cdv)) → sp vs H Q E →
      ∃ t, PSs (cxOf CX P w K mg base N qual sc f cdv A outer s H E) body t ∧ t { nx := fun _ H' => Q .non H', rt := Q } (start N vs) H) :
    FnG P w K mg base CX (k + 1) f (PySem.W.fnOf nm qual pms body sc dV kV dc pm an cdv ct) ps sp := by
  refine ⟨len, ?_⟩
  intro A out s H args us vs Q E room hG env bnd rel pre
  have ln := len _ _ _ _ pre
  have kin : K.In s.heap := env.mod.kin.keeps fun b o e => (env.bs b o e).1
  have nl : s.heap.NoLimit := env.mod.nolimit.keeps fun b o e => (env.bs b o e).1
  have kinds : ∀ y ∈ ps.zip us, sc.names.lookup y.1 = some .local ∨ (sc.names.lookup y.1 = some .cell ∧ ((cellsFrom (s.heap.objs.size + 1) sc.names []).lookup y.1).isSome = true) := by
    rintro ⟨x, v⟩ hy
    rcases S.par x (List.of_mem_zip hy).1 with z | z
    · exact .inl z
    · exact .inr ⟨z, PySem.W.cellsFrom_some _ _ _ (.inl z)⟩
  refine codeAny_call_function room.depth (kin _ _ lk) rfl S.co S.gen rfl (PySem.W.codeRec_of kin hcd) (bnd _ _ _ _ ?_)
  refine wpAny_newFunctionEnv_cells S.kind kinds fun en hen s1 x1 => ?_
  cases hen
  refine ⟨nl.keeps x1.toInCall.keep, codeAny_func ?_⟩
  obtain ⟨t, ht, hq⟩ := hb A out s H vs Q E hG (room.deeper _) pre
  have J0 : Inv (cxOf CX P w K mg base N qual sc f cdv A out s H E) [] (start N vs) H s1 := inv_start S room.hd env ln rel x1
  refine wpAny_mono (ht.run [] s1 (start N vs) H _ J0 hq) (fun fl s2 hs => ?_) fun e s2 hs => hs
  cases fl with
  | ret u =>
    obtain ⟨v, τ, H2, J, rv, q⟩ := hs
    exact ⟨v, H2, J.os, J.bare, J.base, J.hok, rv, q⟩
  | next =>
    obtain ⟨τ, H2, J, q⟩ := hs
    exact ⟨V.non, H2, J.os, J.bare, J.base, J.hok, rfl, q⟩
  | brk =>
    obtain ⟨_, _, _, q⟩ := hs
    cases q
  | cont =>
    obtain ⟨_, _, _, q⟩ := hs
    cases q
end
/-! ## a def of the text: where it stands; its promise -/
structure DefAt (K : PySem.W.Frag) (mg : Str → Option Value) (x : Str) (st : Stmt) (ps : List Str) : Prop where
  ex : ∃ (f : Addr) (fd : FuncData), Fun K x x st f fd ∧ mg x = some (.ref f) ∧ Binds K fd ps []
/-- a def that may be called by its name; dvs: the defaults that fill up -/
structure Cal (P : Program) (w : World) (K : PySem.W.Frag) (mg : Str → Option Value) (base : Heap) (k : Nat) (x : Str) (sp : Sp) (dvs : List V) : Prop where
  ex : ∃ (f : Addr) (fd : FuncData) (ps : List Str) (ds : List Value), FnOk P w K mg base CX0 k f fd ps sp ∧ mg x = some (.ref f) ∧ PySem.W.keepIn K (.ref f) = true ∧ L2.Binds K fd ps ds ∧ Vals dvs ds
/-- a def that may be called by its name; it may ask for repr -/
structure CalG (P : Program) (w : World) (K : PySem.W.Frag) (mg : Str → Option Value) (base : Heap) (k : Nat) (x : Str) (sp : Sp) : Prop where
  ex : ∃ (f : Addr) (fd : FuncData) (ps : List Str), FnG P w K mg base CX0 k f fd ps sp ∧ mg x = some (.ref f) ∧ PySem.W.keepIn K (.ref f) = true ∧ Binds K fd ps []
section
variable {P : Program} {w : World} {K : PySem.W.Frag} {mg : Str → Option Value} {base : Heap}
theorem DefAt.cal {x : Str} {st : Stmt} {ps N : List Str} {k : Nat} {sp : Sp} (D : DefAt K mg x st ps) (S : FnScope N ps (defScope st)) (len : ∀ vs H Q E, sp vs H Q E → vs.length = ps.length)
    (hb : ∀ (f : Addr) (cdv : Value) (A : Around) (outer : List Env) (s : Shared) (H : Hp) (vs : List V) (Q : VK) (E : XK), Room k (A.deeper (envOfC x (defScope st) s.heap.objs.size f cdv)) → sp vs H Q E →
      ∃ t, PSs (cxOf CX0 P w K mg base N x (defScope st) f cdv A outer s H E).nox (defBody st) t ∧ t { nx := fun _ H' => Q .non H', rt := Q } (start N vs) H) : Cal P w K mg base (k + 1) x sp [] := by
  obtain ⟨f, fd, F, hm, b⟩ := D.ex
  exact ⟨f, fd, ps, [], F.ok S len fun cdv A outer s H vs Q E => hb f cdv A outer s H vs Q E, hm, F.kp, b, .nil⟩
theorem DefAt.calG {x : Str} {st : Stmt} {ps N : List Str} {k : Nat} {sp : Sp} (D : DefAt K mg x st ps) (S : FnScope N ps (defScope st)) (len : ∀ vs H Q E, sp vs H Q E → vs.length = ps.length)
    (hb : ∀ (f : Addr) (cdv : Value) (A : Around) (outer : List Env) (s : Shared) (H : Hp) (vs : List V) (Q : VK) (E : XK), A.guards = some [] → Room k (A.deeper (envOfC x (defScope st) s.heap.objs.size f cdv)) → sp vs H Q E →
      ∃ t, PSs (cxOf CX0 P w K mg base N x (defScope st) f cdv A outer s H E).nox (defBody st) t ∧ t { nx := fun _ H' => Q .non H', rt := Q } (start N vs) H) : CalG P w K mg base (k + 1) x sp := by
  obtain ⟨f, fd, ⟨⟨oc, od, kV, doc, pm, an, cdv, ct, osl, rfl, lk, hcd⟩, kp⟩, hm, b⟩ := D.ex
  refine ⟨f, _, ps, fnG_of lk hcd S len fun A outer s H vs Q E hG hr hsp => ?_, hm, kp, b⟩
  obtain ⟨t, h, q⟩ := hb f cdv A outer s H vs Q E hG hr hsp
  exact ⟨t, h.nox, q⟩
theorem okG {x qual : Str} {st : Stmt} {f : Addr} {fd : FuncData} {N ps : List Str} {k : Nat} {sp : Sp} (F : Fun K x qual st f fd) (S : FnScope N ps (defScope st)) (len : ∀ vs H Q E, sp vs H Q E → vs.length = ps.length)
    (hb : ∀ (cdv : Value) (A : Around) (outer : List Env) (s : Shared) (H : Hp) (vs : List V) (Q : VK) (E : XK), A.guards = some [] → Room k (A.deeper (envOfC qual (defScope st) s.heap.objs.size f cdv)) → sp vs H Q E →
      ∃ t, PSs (cxOf CX0 P w K mg base N qual (defScope st) f cdv A outer s H E).nox (defBody st) t ∧ t { nx := fun _ H' => Q .non H', rt := Q } (start N vs) H) : FnG P w K mg base CX0 (k + 1) f fd ps sp := by
  obtain ⟨⟨oc, od, kV, doc, pm, an, cdv, ct, osl, rfl, lk, hcd⟩, kp⟩ := F
  refine fnG_of lk hcd S len fun A outer s H vs Q E hG hr hsp => ?_
  obtain ⟨t, h, q⟩ := hb cdv A outer s H vs Q E hG hr hsp
  exact ⟨t, h.nox, q⟩
theorem calG_of {x : Str} {k : Nat} {sp : Sp} (c : Cal P w K mg base k x sp []) : CalG P w K mg base k x sp := by
  obtain ⟨f, fd, ps, ds, F, hm, kp, b, d⟩ := c.ex
  cases d
  exact ⟨f, fd, ps, FnG.of F, hm, kp, b⟩
theorem Cal.imp {x : Str} {k j : Nat} {sp sp' : Sp} {dvs : List V} (c : Cal P w K mg base k x sp dvs) (hk : k ≤ j) (h : ∀ vs H Q E, sp' vs H Q E → sp vs H Q E) : Cal P w K mg base j x sp' dvs := by
  obtain ⟨f, fd, ps, ds, F, hm, kp, b, d⟩ := c.ex
  exact ⟨f, fd, ps, ds, (F.mono hk).imp h, hm, kp, b, d⟩
end
section
variable {X : Cx} {k j : Nat} {x : Str} {sp : Sp} {p pos : Pos} {e : Expr} {es : List Expr} {t : TA}
theorem pe_c {dvs : List V} (c : Cal X.prog X.w X.K X.mg X.base k x sp dvs) (hr : Room j X.A) (hk : k ≤ j) (hg : Gl X x) (ha : PA X (e :: es) t)
    (hdb : (x == ("__debug__" : Str)) = false := by decide) (he : starEach (e :: es) X.env = (false, eval e X.env) :: starEach es X.env := by rfl) (hpl : (backTo pos (starEach es X.env)).any (·.1) = false := by rfl) :
    PE X (.Call (.Name x p) (e :: es) [] pos) (tCall sp dvs E0 t) := by
  obtain ⟨f, fd, ps, ds, F, hm, kp, bd, vd⟩ := c.ex
  exact L2.pe_call F (hr.mono hk) hg hm kp bd vd pass0 ha hdb he hpl
/-- a call of a def that may ask for repr -/
theorem pe_cG (c : CalG X.prog X.w X.K X.mg X.base k x sp) (hG : X.A.guards = some []) (hr : Room j X.A) (hk : k ≤ j) (hg : Gl X x) (ha : PA X (e :: es) t)
    (hdb : (x == ("__debug__" : Str)) = false := by decide) (he : starEach (e :: es) X.env = (false, eval e X.env) :: starEach es X.env := by rfl) (hpl : (backTo pos (starEach es X.env)).any (·.1) = false := by rfl) :
    PE X (.Call (.Name x p) (e :: es) [] pos) (tCall sp [] E0 t) := by
  obtain ⟨f, fd, ps, F, hm, kp, b⟩ := c.ex
  refine ⟨fun pins s σ H Q I h => wpAny_Call_Name_kw (ld_glob I hg hm ?_ hdb)⟩
  refine PySem.W.callWith_K (h₀ := X.base) I.ok.mod.kin kp (thn (ha.run pos pins s σ H _ I h) fun us s1 hx => ?_) he hpl
  obtain ⟨vs, H1, I1, r, q⟩ := hx
  rw [List.append_nil] at q
  have ln : us.length = ps.length := by rw [← r.length]; exact F.len _ _ _ _ q
  have bb : BindsTo s1 fd ⟨us, []⟩ (ps.zip us) := by
    have z := b s1 us I1.kIn (by rw [List.append_nil]; exact ln)
    rw [List.append_nil] at z
    exact z
  refine ⟨I1.kIn, wpAny_call (codeAny_mono (F.run X.A X.stack s1 H1 ⟨us, []⟩ us vs Q E0 (hr.mono hk) hG I1.env0 bb r q) fun r s' hq => ?_)⟩
  cases r with
  | error e => exact False.elim hq
  | ok fl =>
    cases fl with
    | ret u => exact I1.after hq
    | next => exact False.elim hq
    | brk => exact False.elim hq
    | cont => exact False.elim hq
end
/-! ## methods, properties, new objects -/
structure Met (P : Program) (w : World) (K : PySem.W.Frag) (mg : Str → Option Value) (base : Heap) (k : Nat) (C : Addr) (m : Str) (sp : Sp) : Prop where
  ex : ∃ (f : Addr) (fd : FuncData) (ps : List Str), Cls K C ∧ Meth K C m f ∧ FnOk P w K mg base CX0 k f fd ps sp ∧ L2.Binds K fd ps []
structure Prp (P : Program) (w : World) (K : PySem.W.Frag) (mg : Str → Option Value) (base : Heap) (k : Nat) (C : Addr) (m : Str) (sp : Sp) : Prop where
  ex : ∃ (f p : Addr) (fd : FuncData) (ps : List Str), Cls K C ∧ PropOf K C m p f ∧ FnOk P w K mg base CX0 k f fd ps sp ∧ L2.Binds K fd ps []
structure Mak (P : Program) (w : World) (K : PySem.W.Frag) (mg : Str → Option Value) (base : Heap) (k : Nat) (x : Str) (C : Addr) (sp : Sp) : Prop where
  ex : ∃ (f : Addr) (fd : FuncData) (ps : List Str), Mk K C f ∧ FnOk P w K mg base CX0 k f fd ps sp ∧ mg x = some (.ref C) ∧ L2.Binds K fd ps []
section
variable {X : Cx} {k j : Nat} {C : Addr} {x m : Str} {sp : Sp} {p pos apos : Pos} {e o : Expr} {es : List Expr} {ta : TE} {t : TA}
theorem pe_m {pl : Sem Bool} (c : Met X.prog X.w X.K X.mg X.base k C m sp) (hr : Room j X.A) (hk : k ≤ j) (he : PE X o ta) (ha : PA X (e :: es) t)
    (ht : eval (.Call (.Attribute o m apos) (e :: es) [] pos) X.env = (do
      let ov ← eval o X.env
      standAt apos.atName
      let (f, first) ← holding [ov] (getMethod ov m pl)
      callWith pos f first (backTo pos (starEach (e :: es) X.env)) (backToKw pos (keywordEach [] X.env))) := by rfl)
    (hst : starEach (e :: es) X.env = (false, eval e X.env) :: starEach es X.env := by rfl) (hpl : (backTo pos (starEach es X.env)).any (·.1) = false := by rfl) : PE X (.Call (.Attribute o m apos) (e :: es) [] pos) (tMeth C m sp [] E0 ta t) := by
  obtain ⟨f, fd, ps, c1, c2, F, b⟩ := c.ex
  exact L2.pe_meth (pl := pl) he c1 c2 F (hr.mono hk) b .nil pass0 ha hst hpl ht
theorem pe_mk (c : Mak X.prog X.w X.K X.mg X.base k x C sp) (hr : Room j X.A) (hk : k + 1 ≤ j) (hg : Gl X x) (ha : PA X (e :: es) t)
    (hdb : (x == ("__debug__" : Str)) = false := by decide) (he : starEach (e :: es) X.env = (false, eval e X.env) :: starEach es X.env := by rfl) (hpl : (backTo pos (starEach es X.env)).any (·.1) = false := by rfl) :
    PE X (.Call (.Name x p) (e :: es) [] pos) (tMake C sp [] E0 t) := by
  obtain ⟨f, fd, ps, M, F, hm, b⟩ := c.ex
  exact L2.pe_make M F (hr.mono hk) hg hm b .nil pass0 ha hdb he hpl
theorem pe_p (c : Prp X.prog X.w X.K X.mg X.base k C m sp) (hr : Room j X.A) (hk : k + 1 ≤ j) (he : PE X e ta) (hab : attributeBase e m X.env (eval e X.env) = eval e X.env := by rfl) : PE X (.Attribute e m pos) (tProp C sp [] E0 ta) := by
  obtain ⟨f, q, fd, ps, c1, c2, F, b⟩ := c.ex
  exact L2.pe_prop he c1 c2 F (hr.mono hk) b .nil pass0 hab
end
section
variable {X : Cx} {K : PySem.W.Frag} {C : Addr} {k j : Nat} {m f : Str} {sp : Sp} {ta tv : TE} {o value : Expr} {pos pos' apos tpos : Pos}
theorem pe_m0 {pl : Sem Bool} (c : Met X.prog X.w X.K X.mg X.base k C m sp) (hr : Room j X.A) (hk : k ≤ j) (he : PE X o ta)
    (ht : eval (.Call (.Attribute o m apos) [] [] pos) X.env = (do
      let ov ← eval o X.env
      standAt apos.atName
      let (f, first) ← holding [ov] (getMethod ov m pl)
      callWith pos f first (backTo pos (starEach [] X.env)) (backToKw pos (keywordEach [] X.env))) := by rfl) : PE X (.Call (.Attribute o m apos) [] [] pos) (tMeth C m sp [] E0 ta tNil) := by
  obtain ⟨f, fd, ps, c1, c2, F, b⟩ := c.ex
  exact L2.pe_meth0 (pl := pl) he c1 c2 F (hr.mono hk) b .nil pass0 ht
theorem ps_fldK (ha : PE X o ta) (hv : PE X value tv) (hs : swapsWith value (some (.Attribute o f pos')) pos.line X.env = pure false) (h : X.K = K := by rfl) : PS X (.Assign [.Attribute o f pos'] value pos) (sFld K ta tv f) := by
  subst h
  exact ps_fld ha hv hs
theorem ps_fldaugK {op : Operator} {rd : V → V → Hp → VK → Prop} (ha : PE X o ta) (hv : PE X value tv) (hop : InOp X op rd) (h : X.K = K := by rfl) : PS X (.AugAssign (.Attribute o f tpos) op value pos) (sFldAug K ta tv rd f) := by
  subst h
  exact ps_fldaug ha hv hop
end
/-- a method of the text -/
structure MetAt (K : PySem.W.Frag) (C : Addr) (m qual : Str) (st : Stmt) (ps : List Str) : Prop where
  ex : ∃ (f : Addr) (fd : FuncData), Fun K m qual st f fd ∧ Meth K C m f ∧ L2.Binds K fd ps []
section
variable {P : Program} {w : World} {K : PySem.W.Frag} {mg : Str → Option Value} {base : Heap} {C : Addr} {m x qual : Str} {st : Stmt} {ps N : List Str} {k : Nat} {sp : Sp}
theorem MetAt.met (D : MetAt K C m qual st ps) (cl : Cls K C) (S : FnScope N ps (defScope st)) (len : ∀ vs H Q E, sp vs H Q E → vs.length = ps.length)
    (hb : ∀ (f : Addr) (cdv : Value) (A : Around) (outer : List Env) (s : Shared) (H : Hp) (vs : List V) (Q : VK) (E : XK), Room k (A.deeper (envOfC qual (defScope st) s.heap.objs.size f cdv)) → sp vs H Q E →
      ∃ t, PSs (cxOf CX0 P w K mg base N qual (defScope st) f cdv A outer s H E).nox (defBody st) t ∧ t { nx := fun _ H' => Q .non H', rt := Q } (start N vs) H) : Met P w K mg base (k + 1) C m sp := by
  obtain ⟨f, fd, F, hm, b⟩ := D.ex
  exact ⟨f, fd, ps, cl, hm, F.ok S len fun cdv A outer s H vs Q E => hb f cdv A outer s H vs Q E, b⟩
end
/-- a class's __init__ of the text -/
structure IniAt (K : PySem.W.Frag) (mg : Str → Option Value) (C : Addr) (x qual : Str) (st : Stmt) (ps : List Str) : Prop where
  ex : ∃ (f : Addr) (fd : FuncData), Fun K "__init__" qual st f fd ∧ Mk K C f ∧ mg x = some (.ref C) ∧ L2.Binds K fd ps []
/-- a property of the text -/
structure PrpAt (K : PySem.W.Frag) (C : Addr) (m qual : Str) (st : Stmt) (ps : List Str) : Prop where
  ex : ∃ (f p : Addr) (fd : FuncData), Fun K m qual st f fd ∧ PropOf K C m p f ∧ L2.Binds K fd ps []
section
variable {P : Program} {w : World} {K : PySem.W.Frag} {mg : Str → Option Value} {base : Heap} {C : Addr} {m x qual : Str} {st : Stmt} {ps N : List Str} {k : Nat} {sp : Sp}
theorem IniAt.mak (D : IniAt K mg C x qual st ps) (S : FnScope N ps (defScope st)) (len : ∀ vs H Q E, sp vs H Q E → vs.length = ps.length)
    (hb : ∀ (f : Addr) (cdv : Value) (A : Around) (outer : List Env) (s : Shared) (H : Hp) (vs : List V) (Q : VK) (E : XK), Room k (A.deeper (envOfC qual (defScope st) s.heap.objs.size f cdv)) → sp vs H Q E →
      ∃ t, PSs (cxOf CX0 P w K mg base N qual (defScope st) f cdv A outer s H E).nox (defBody st) t ∧ t { nx := fun _ H' => Q .non H', rt := Q } (start N vs) H) : Mak P w K mg base (k + 1) x C sp := by
  obtain ⟨f, fd, F, hm, hg, b⟩ := D.ex
  exact ⟨f, fd, ps, hm, F.ok S len fun cdv A outer s H vs Q E => hb f cdv A outer s H vs Q E, hg, b⟩
theorem PrpAt.prp (D : PrpAt K C m qual st ps) (cl : Cls K C) (S : FnScope N ps (defScope st)) (len : ∀ vs H Q E, sp vs H Q E → vs.length = ps.length)
    (hb : ∀ (f : Addr) (cdv : Value) (A : Around) (outer : List Env) (s : Shared) (H : Hp) (vs : List V) (Q : VK) (E : XK), Room k (A.deeper (envOfC qual (defScope st) s.heap.objs.size f cdv)) → sp vs H Q E →
      ∃ t, PSs (cxOf CX0 P w K mg base N qual (defScope st) f cdv A outer s H E).nox (defBody st) t ∧ t { nx := fun _ H' => Q .non H', rt := Q } (start N vs) H) : Prp P w K mg base (k + 1) C m sp := by
  obtain ⟨f, p, fd, F, hm, b⟩ := D.ex
  exact ⟨f, p, fd, ps, cl, hm, F.ok S len fun cdv A outer s H vs Q E => hb f cdv A outer s H vs Q E, b⟩
end
/-- all but o stands -/
def But (o : Addr) (H H' : Hp) : Prop := ∀ b u, b ≠ o → H b = some u → H' b = some u
theorem But.refl (o : Addr) (H : Hp) : But o H H := fun _ _ _ h => h
theorem But.trans {o : Addr} {H H1 H2 : Hp} (a : But o H H1) (b : But o H1 H2) : But o H H2 := fun c u n h => b c u n (a c u n h)
theorem But.of {o : Addr} {H H1 : Hp} (s : Same H H1) : But o H H1 := fun b u _ h => s b u h
theorem But.put {o : Addr} {H : Hp} {u : HO} : But o H (upd H o u) := fun b x n h => by
  rw [upd_ne n]
  exact h
theorem But.seq {K : PySem.W.Frag} {o a : Addr} {H H' : Hp} {xs : List V} (b : But o H H') (n : a ≠ o) (h : H a = some (.lst xs)) : SqL K H' a xs := seqL_of (b a _ n h)
theorem Sep.but {R : Rg} {G H H' : Hp} {o : Addr} {u u' : HO} (s : Sep R G H) (h : G o = some u) (b : But o H H') (e : H' o = some u') : Sep R (upd G o u') H' := by
  have no : ∀ a, R.S a → a ≠ o := fun a ha z => by
    have q := s.off a ha
    rw [z, h] at q
    cases q
  refine ⟨R.loc H _ (fun a ha => ?_) s.inv, fun c x q => ?_, fun a ha => by rw [upd_ne (no a ha)]; exact s.off a ha⟩
  · cases q : H a with
    | none => exact absurd q (R.has H a s.inv ha)
    | some z => exact b a z (no a ha) q
  · by_cases hc : c = o
    · rw [hc, upd_same] at q
      rw [hc, e]
      exact q
    · rw [upd_ne hc] at q
      exact b c x hc (s.same c x q)

theorem Sep.add {R : Rg} {G0 H0 G H : Hp} {l : Addr} {u : HO} (s0 : Sep R G0 H0) (n : H0 l = none) (s : Sep R G H) (e : H l = some u) : Sep R (upd G l u) H := by
  have nl : ∀ a, R.S a → a ≠ l := fun a ha z => R.has H0 a s0.inv ha (by rw [z]; exact n)
  refine ⟨s.inv, fun b x q => ?_, fun a ha => by rw [upd_ne (nl a ha)]; exact s.off a ha⟩
  by_cases hb : b = l
  · rw [hb, upd_same] at q
    rw [hb, e]
    exact q
  · rw [upd_ne hb] at q
    exact s.same b x q

/-! ## calls by keywords alone -/
/-- a def called with the keywords ks alone: sp speaks of their values -/
structure CalK (P : Program) (w : World) (K : PySem.W.Frag) (mg : Str → Option Value) (base : Heap) (k : Nat) (x : Str) (ks : List Str) (sp : Sp) : Prop where
  ex : ∃ (f : Addr) (fd : FuncData) (ps : List Str) (spf : Sp) (g : List Value → List Value → List Value) (gV : List V → List V → List V),
    FnOk P w K mg base CX0 k f fd ps spf ∧ mg x = some (.ref f) ∧ PySem.W.keepIn K (.ref f) = true ∧ KBn K fd ps 0 ks g gV ∧ ∀ zs H Q E, sp zs H Q E → zs.length = ks.length ∧ spf (gV [] zs) H Q E
def tCk (sp : Sp) (tk : TA) : TE := fun σ H Q => tk σ H fun zs H1 => sp zs H1 Q E0
section
variable {X : Cx} {k j : Nat} {x : Str} {ks : List Str} {sp : Sp} {p pos : Pos} {kws : List Keyword} {tk : TA}
theorem pe_ck (c : CalK X.prog X.w X.K X.mg X.base k x ks sp) (hr : Room j X.A) (hk : k ≤ j) (hg : Gl X x) (hkw : PK X kws tk)
    (hall : (backToKw pos (keywordEach kws X.env)).all (·.1.isSome) = true := by rfl) (hks : (backToKw pos (keywordEach kws X.env)).filterMap (·.1) = ks := by rfl) (hdb : (x == ("__debug__" : Str)) = false := by decide)
    (hpl : ((backTo pos (starEach [] X.env)).any (·.1) || (backToKw pos (keywordEach kws X.env)).any (·.1.isNone)) = false := by rfl) : PE X (.Call (.Name x p) [] kws pos) (tCk sp tk) := by
  obtain ⟨f, fd, ps, spf, g, gV, F, hm, kp, hb, hs⟩ := c.ex
  refine ⟨fun pins s σ H Q I h => wpAny_Call_Name_kw (ld_glob I hg hm ?_ hdb)⟩
  refine PySem.W.callWith_KW0 (h₀ := X.base) I.ok.mod.kin kp hall (thn (hkw.run pos pins s σ H _ I h) fun ws s1 hx => ?_) hpl
  obtain ⟨zs, H1, I1, rz, q⟩ := hx
  obtain ⟨lz, q⟩ := hs _ _ _ _ q
  refine ⟨I1.kIn, ?_⟩
  rw [hks]
  exact run_fnN F (hr.mono hk) hb pass0 I1 .nil rz rfl lz q
end

/-! ## a def with defaults, called by place or by keywords -/
section
variable {P : Program} {w : World} {K : PySem.W.Frag} {mg : Str → Option Value} {base : Heap} {x qual : Str} {pms : Arguments} {body : List Stmt} {sc : Scope} {dvs : List V} {f : Addr} {fd : FuncData} {ps ks : List Str}
/-- all parameters by keywords; g brings the values in the parameters' order -/
theorem kbn_dflt (F : FunD K x qual pms body sc dvs [] f fd) (hd : dvs ≠ []) (g : {α : Type} → List α → List α) (hg : ∀ {vs : List V} {us : List Value}, Vals vs us → Vals (g vs) (g us))
    (h : ∀ (T : Addr) (kV doc pm : Value) (an : Option Addr) (cdv ct : Value) (ws its : List Value), ws.length = ks.length → its.length = dvs.length →
      ∃ k, bindArgs (PySem.W.fnOf x qual pms body sc (.ref T) kV doc pm an cdv ct) ⟨[], ks.zip ws⟩ = seqItems? (.ref T) >>= k ∧ k (some its.toArray) = pure (ps.zip (g ws))) : KBn K fd ps 0 ks (fun _ ws => g ws) (fun _ zs => g zs) := by
  obtain ⟨oc, od, dV, kV, doc, pm, an, cdv, ct, osl, rfl, lk, hcd, hD, hK⟩ := F.ex
  rcases hD with ⟨e, _⟩ | ⟨_, T, o, its, m, rfl, lT, oT, rT⟩
  · exact absurd e hd
  · refine ⟨fun s us ws X l1 l2 => ?_, fun r1 r2 => hg r2⟩
    cases us with
    | cons u us => cases l1
    | nil =>
      obtain ⟨k, e1, e2⟩ := h T kV doc pm an cdv ct ws its l2 rT.length.symm
      refine BindsTo.of_looks fun M => ?_
      rw [e1]
      exact looks_items X lT oT (.of_pure e2)
/-- .. of a def without defaults -/
theorem kbn_plain {st : Stmt} (F : Fun K x qual st f fd) (g : {α : Type} → List α → List α) (hg : ∀ {vs : List V} {us : List Value}, Vals vs us → Vals (g vs) (g us))
    (h : ∀ (kV doc pm : Value) (an : Option Addr) (cdv ct : Value) (ws : List Value), ws.length = ks.length →
      bindArgs (PySem.W.fnOf x qual (defArgs st) (defBody st) (defScope st) .none kV doc pm an cdv ct) ⟨[], ks.zip ws⟩ = pure (ps.zip (g ws))) : KBn K fd ps 0 ks (fun _ ws => g ws) (fun _ zs => g zs) := by
  obtain ⟨oc, od, kV, doc, pm, an, cdv, ct, osl, rfl, lk, hcd⟩ := F.ex
  refine ⟨fun s us ws X l1 l2 => ?_, fun r1 r2 => hg r2⟩
  cases us with
  | cons u us => cases l1
  | nil => exact .of_eq (h kV doc pm an cdv ct ws l2)
theorem calK_mk {k : Nat} {spf sp : Sp} {g : List Value → List Value → List Value} {gV : List V → List V → List V} (F : FnOk P w K mg base CX0 k f fd ps spf) (hm : mg x = some (.ref f)) (kp : PySem.W.keepIn K (.ref f) = true) (b : KBn K fd ps 0 ks g gV)
    (h : ∀ zs H Q E, sp zs H Q E → zs.length = ks.length ∧ spf (gV [] zs) H Q E) : CalK P w K mg base k x ks sp := ⟨f, fd, ps, spf, g, gV, F, hm, kp, b, h⟩
end
/-- a def without defaults that is called by place and by keywords -/
structure Def2 (P : Program) (w : World) (K : PySem.W.Frag) (mg : Str → Option Value) (base : Heap) (k : Nat) (x : Str) (st : Stmt) (ps : List Str) (sp : Sp) : Prop where
  ex : ∃ (f : Addr) (fd : FuncData), Fun K x x st f fd ∧ mg x = some (.ref f) ∧ Binds K fd ps [] ∧ FnOk P w K mg base CX0 k f fd ps sp
section
variable {P : Program} {w : World} {K : PySem.W.Frag} {mg : Str → Option Value} {base : Heap} {x : Str} {st : Stmt} {ps ks N : List Str} {k : Nat} {sp sp' : Sp}
theorem DefAt.two (D : DefAt K mg x st ps) (S : FnScope N ps (defScope st)) (len : ∀ vs H Q E, sp vs H Q E → vs.length = ps.length)
    (hb : ∀ (f : Addr) (cdv : Value) (A : Around) (outer : List Env) (s : Shared) (H : Hp) (vs : List V) (Q : VK) (E : XK), Room k (A.deeper (envOfC x (defScope st) s.heap.objs.size f cdv)) → sp vs H Q E →
      ∃ t, PSs (cxOf CX0 P w K mg base N x (defScope st) f cdv A outer s H E).nox (defBody st) t ∧ t { nx := fun _ H' => Q .non H', rt := Q } (start N vs) H) : Def2 P w K mg base (k + 1) x st ps sp := by
  obtain ⟨f, fd, F, hm, b⟩ := D.ex
  exact ⟨f, fd, F, hm, b, F.ok S len fun cdv A outer s H vs Q E => hb f cdv A outer s H vs Q E⟩
theorem Def2.cal (D : Def2 P w K mg base k x st ps sp) : Cal P w K mg base k x sp [] := by
  obtain ⟨f, fd, F, hm, b, ok⟩ := D.ex
  exact ⟨f, fd, ps, [], ok, hm, F.kp, b, .nil⟩
theorem Def2.calK (D : Def2 P w K mg base k x st ps sp) (g : {α : Type} → List α → List α) (hg : ∀ {vs : List V} {us : List Value}, Vals vs us → Vals (g vs) (g us))
    (h : ∀ (kV doc pm : Value) (an : Option Addr) (cdv ct : Value) (ws : List Value), ws.length = ks.length →
      bindArgs (PySem.W.fnOf x x (defArgs st) (defBody st) (defScope st) .none kV doc pm an cdv ct) ⟨[], ks.zip ws⟩ = pure (ps.zip (g ws))) (hs : ∀ zs H Q E, sp' zs H Q E → zs.length = ks.length ∧ sp (g zs) H Q E) : CalK P w K mg base k x ks sp' := by
  obtain ⟨f, fd, F, hm, b, ok⟩ := D.ex
  exact calK_mk ok hm F.kp (kbn_plain F g hg h) hs
end
theorem perm_sorted_eq : ∀ {xs ys : List Int}, xs.Perm ys → xs.Pairwise (· ≤ ·) → ys.Pairwise (· ≤ ·) → xs = ys
  | [], ys, p, _, _ => (List.nil_perm.mp p).symm
  | x :: r, [], p, _, _ => absurd (List.perm_nil.mp p) (by simp)
  | x :: r, y :: t, p, h1, h2 => by
    have a1 := (List.pairwise_cons.mp h1).1
    have a2 := (List.pairwise_cons.mp h2).1
    have m1 : x ∈ y :: t := p.mem_iff.mp (List.mem_cons_self ..)
    have m2 : y ∈ x :: r := p.mem_iff.mpr (List.mem_cons_self ..)
    have e : x = y := by
      rcases List.mem_cons.mp m1 with z | z
      · exact z
      · rcases List.mem_cons.mp m2 with z2 | z2
        · exact z2.symm
        · have := a1 y z2
          have := a2 x z
          omega
    subst e
    rw [perm_sorted_eq (List.Perm.cons_inv p) (List.pairwise_cons.mp h1).2 (List.pairwise_cons.mp h2).2]

/-! ## a law's end, of a law that may ask for repr -/
theorem law_endG {P : Program} {w : World} {K : PySem.W.Frag} {mg mb : Str → Option Value} {k : Nat} {fa a : Addr} {fd : FuncData} {x : Str} {sp : Sp} {s₁ : Shared} {vs : List Value} {ns : List Int}
    (KX : K.In s₁.heap) (hns : s₁.heap.Ns mainGlobals mg) (hb : s₁.heap.Ns builtinsNs mb) (hbb : ∀ x : Str, x ≠ "__name__" → mb x = bootBuiltins x) (hlim : s₁.heap.NoLimit) (hg : s₁.gens = #[])
    (ha : s₁.heap.get? a = some { cls := .type "list", data := .seq vs.toArray }) (hi : IntsAre vs ns) (hl : ns.length ≤ sizeLine) (hr : Room k callerA)
    (F : ∀ base : Heap, K.In base → base.Ns mainGlobals mg → FnG P w K mg base CX0 k fa fd [x] sp) (hbind : ∀ (s : Shared) (u : Value), BindsTo s fd ⟨[u], []⟩ [(x, u)])
    (hsp : ∀ H : Hp, Only H → SqL K H a (iv ns) → sp [.ref a] H (fun v _ => v = .bl true) fun _ _ _ => False) :
    codeAny (model P w) callerA (.call (.ref fa) ⟨[.ref a], []⟩) (fun r s' => r = .ok (.ret (.bool true)) ∧ OldK s₁.heap s'.heap ∧ s'.os = s₁.os ∧ AllBare s'.gens) s₁ := by
  have rel := vals_ints hi
  have same : ∀ H : Hp, Only H → SqL K H a (iv ns) → HOk P w H s₁.heap → (∀ b, H b ≠ none → b = a) → (H a ≠ none → K.lookup a = none) →
      codeAny (model P w) callerA (.call (.ref fa) ⟨[.ref a], []⟩) (fun r s' => r = .ok (.ret (.bool true)) ∧ OldK s₁.heap s'.heap ∧ s'.os = s₁.os ∧ AllBare s'.gens) s₁ := by
    intro H only sq hok at_a k_a
    have nonK : ∀ {b : Addr} {o : Obj}, K.lookup b = some o → H b = none := by
      intro b o e
      cases q : H b with
      | none => rfl
      | some u =>
        have z := at_a b (by rw [q]; simp)
        subst z
        rw [k_a (by rw [q]; simp)] at e
        cases e
    have nonD : ∀ {b : Addr} {o : Obj} {es : Array DictEntry} {ep : Nat}, s₁.heap.get? b = some o → o.data = .dict es ep → H b = none := by
      intro b o es ep e d
      cases q : H b with
      | none => rfl
      | some u =>
        have z := at_a b (by rw [q]; simp)
        subst z
        rw [ha] at e
        cases e
        cases d
    have nsB : ∀ {b : Addr} {m : Str → Option Value}, s₁.heap.Ns b m → (hidT s₁.heap H).Ns b m := by
      rintro b m ⟨o, es, ep, e, d, r⟩
      exact ⟨o, es, ep, hidT_get e (nonD e d), d, r⟩
    have kinB : K.In (hidT s₁.heap H) := fun b o e => hidT_get (KX b o e) (nonK e)
    have md : Mod K mg (hidT s₁.heap H) := by
      obtain ⟨mc, h1, h2⟩ := hlim
      exact ⟨kinB, nsB hns, ⟨mb, nsB hb, hbb⟩, ⟨mc, nsB h1, h2⟩⟩
    have noIn : ∀ b : Addr, b ∉ frs [] := fun b z => by cases z
    have env : Env0 P w K mg (hidT s₁.heap H) callerA [] s₁ H := ⟨rfl, md, fun b o e => of_hidT e, Nat.le_of_eq (hidT_size _ _), trivial, fun b z => absurd z (noIn b), hok, .of_eq hg⟩
    refine codeAny_mono ((F _ kinB (nsB hns)).run callerA [] s₁ H ⟨[.ref a], []⟩ [.ref a] [.ref a] _ _ hr rfl env (hbind s₁ (.ref a)) (.cons rfl .nil) (hsp H only sq)) fun r s' h => ?_
    cases r with
    | error e => exact False.elim h
    | ok fl =>
      cases fl with
      | next => exact False.elim h
      | brk => exact False.elim h
      | cont => exact False.elim h
      | ret u =>
        obtain ⟨v, H', os, bare, un, hok', rv, q⟩ := h
        have ev : v = .bl true := q
        subst ev
        have eu : u = Value.bool true := rv
        subst eu
        refine ⟨rfl, OldK.of_keep fun b o e => ?_, os, bare⟩
        cases q : H b with
        | none => exact un.keep b o e q (noIn b) (by simp)
        | some u =>
          rcases only b with z | ⟨ob, xs, z⟩
          · rw [q] at z
            cases z
          · obtain ⟨e1, _⟩ := hok b _ z
            obtain ⟨e2, _⟩ := hok' b _ (un.frzs b ob _ z)
            rw [e] at e1
            cases e1
            exact e2
  cases hk : K.lookup a with
  | some o =>
    have e := KX a o hk
    rw [ha] at e
    cases e
    refine same (fun _ => none) (fun _ => .inl rfl) (.inr ⟨_, vs.toArray, _, hk, rfl, rfl, rfl, ?_, by simpa using rel⟩) (fun b u z => ?_) (fun b z => absurd rfl z) fun z => absurd rfl z
    · rw [List.size_toArray, hi.length]
      exact hl
    · exact nomatch (show (none : Option HO) = some u from z)
  | none =>
    let H0 : Hp := fun b => if b = a then some (.frz { cls := .type "list", data := .seq vs.toArray } (.lst (iv ns))) else none
    have at1 : H0 a = some (.frz { cls := .type "list", data := .seq vs.toArray } (.lst (iv ns))) := if_pos rfl
    have at0 : ∀ b, b ≠ a → H0 b = none := fun b hb => if_neg hb
    refine same H0 (fun b => ?_) (.inl (.inr ⟨_, at1⟩)) (fun b u z => ?_) (fun b z => ?_) fun _ => hk
    · by_cases hb : b = a
      · exact .inr ⟨_, _, by rw [hb]; exact at1⟩
      · exact .inl (at0 b hb)
    · by_cases hb : b = a
      · subst hb
        rw [at1] at z
        cases z
        exact ⟨ha, by rw [iv_len]; exact hl, vs, _, rel, ha⟩
      · rw [at0 b hb] at z
        cases z
    · by_cases hb : b = a
      · exact hb
      · exact absurd (at0 b hb) z
theorem walk_ofG {l : PySem.W.OpenLaw} {n k : Nat} {q : Program} {loose : List Str} {XP : (Str → Option Value) → Heap → Prop} {YP : World → Heap → Prop} {d : DefRec} {K : Params → PySem.W.Frag} {sp : PySem.W.Frag → Sp} {x : Str}
    (hn : l.most = some n) (hn2 : n ≤ sizeLine) (hdf : d.params.defaults = []) (hr : Room k callerA) (hY : ∀ (w : World) (h : Heap), YP w h → (K w.params).In h)
    (F : ∀ (w : World) (mg : Str → Option Value) (fa : Addr) (h : Heap), (K w.params).In h → h.Ns mainGlobals mg → mg d.name = some (.ref fa) →
      ∃ fd : FuncData, (∀ (s : Shared) (u : Value), BindsTo s fd ⟨[u], []⟩ [(x, u)]) ∧
        ∀ base : Heap, (K w.params).In base → base.Ns mainGlobals mg → FnG l.prog w (K w.params) mg base CX0 k fa fd [x] (sp (K w.params)))
    (hsp : ∀ (K : PySem.W.Frag) (H : Hp) (a : Addr) (ns : List Int), ns.length ≤ n → SqL K H a (iv ns) → sp K [.ref a] H (fun v _ => v = .bl true) fun _ _ _ => False) :
    PySem.W.WalkO q loose XP YP l.row.toRowW d [] (fun f vs => PySem.call f vs) := by
  refine Att.attach_call hn hdf fun w s₀ s₁ mg mb fa o pm cd doc a vs ns G Y ho hd hcd hmg hobj hints hlen hg => ?_
  have KX := hY w _ Y
  obtain ⟨fd, hb, hF⟩ := F w mg fa _ KX G.T.g hmg
  exact law_endG KX G.T.g G.T.b G.T.builtins G.T.nolimit hg hobj hints (Nat.le_trans hlen hn2) hr hF hb fun H _ hS => hsp (K w.params) H a ns hlen hS

/-! ## a def of the text, out of what the top has written -/
theorem DefAt.mk1 {K : PySem.W.Frag} {h : Heap} {mg : Str → Option Value} {x : Str} {st : Stmt} {ps : List Str} {f : Addr} {od an : Option Addr} {sl : Array (Option Value)} {oc kV dc pm cd ct : Value} (X : K.In h) (G : h.Ns mainGlobals mg)
    (a : PySem.W.nsIn K mainGlobals x = some (some (.ref f))) (l : K.lookup f = some ⟨oc, od, .func (PySem.W.fnOf x x (defArgs st) (defBody st) (defScope st) .none kV dc pm an cd ct), sl⟩) (c : PySem.W.codeIn K cd x = true) (k : PySem.W.keepIn K (.ref f) = true)
    (hb : ∀ (kV doc pm : Value) (an : Option Addr) (cdv ct : Value) (us : List Value), us.length = ps.length → bindArgs (PySem.W.fnOf x x (defArgs st) (defBody st) (defScope st) .none kV doc pm an cdv ct) ⟨us, []⟩ = pure (ps.zip us)) : DefAt K mg x st ps :=
  ⟨f, _, fun_mk (st := st) l c k, PySem.W.mg_of X G a, (fun_mk (st := st) l c k).binds hb⟩
theorem cutD {p q : Prop} (h : p) (k : p → q) : q := k h
/-- a class: what its facts say -/
theorem cls_mk {K : PySem.W.Frag} {h : Heap} {mg : Str → Option Value} {x : Str} {C : Addr} (X : K.In h) (hC : mg x = some (.ref C)) (pg : PySem.W.plainGet K C Str.empty = true) (hd : PySem.W.hasDictIn K C = true) (po : PySem.W.plainOver K C = true) (sa : PySem.W.findIn K (.ref C) "__setattr__" = some (some (.builtin "object.__setattr__"))) : Cls K C := ⟨pg, hd, po, sa⟩
theorem noat_mk {K : PySem.W.Frag} {h : Heap} {mg : Str → Option Value} {x : Str} {C : Addr} {m : Str} (X : K.In h) (hC : mg x = some (.ref C)) (n : PySem.W.findIn K (.ref C) m = some none) : NoAttr K C m := n
theorem IniAt.mk1 {K : PySem.W.Frag} {h : Heap} {mg : Str → Option Value} {C : Addr} {x qual : Str} {st : Stmt} {ps : List Str} {f : Addr} {od an : Option Addr} {sl : Array (Option Value)} {oc kV dc pm cd ct : Value} (X : K.In h) (hm : mg x = some (.ref C))
    (a : PySem.W.findIn K (.ref C) "__init__" = some (some (.ref f))) (l : K.lookup f = some ⟨oc, od, .func (PySem.W.fnOf "__init__" qual (defArgs st) (defBody st) (defScope st) .none kV dc pm an cd ct), sl⟩) (c : PySem.W.codeIn K cd qual = true) (k : PySem.W.keepIn K (.ref f) = true)
    (mk : PySem.W.makesIn K C = true) (i : PySem.W.isFn K (.ref f) = true) (kc : PySem.W.keepIn K (.ref C) = true)
    (hb : ∀ (kV doc pm : Value) (an : Option Addr) (cdv ct : Value) (us : List Value), us.length = ps.length → bindArgs (PySem.W.fnOf "__init__" qual (defArgs st) (defBody st) (defScope st) .none kV doc pm an cdv ct) ⟨us, []⟩ = pure (ps.zip us)) : IniAt K mg C x qual st ps :=
  ⟨f, _, fun_mk (st := st) l c k, ⟨mk, a, i, kc⟩, hm, (fun_mk (st := st) l c k).binds hb⟩
theorem MetAt.mk1 {K : PySem.W.Frag} {h : Heap} {mg : Str → Option Value} {x : Str} {C : Addr} {m qual : Str} {st : Stmt} {ps : List Str} {f : Addr} {od an : Option Addr} {sl : Array (Option Value)} {oc kV dc pm cd ct : Value} (X : K.In h) (hC : mg x = some (.ref C))
    (a : PySem.W.findIn K (.ref C) m = some (some (.ref f))) (l : K.lookup f = some ⟨oc, od, .func (PySem.W.fnOf m qual (defArgs st) (defBody st) (defScope st) .none kV dc pm an cd ct), sl⟩) (c : PySem.W.codeIn K cd qual = true) (k : PySem.W.keepIn K (.ref f) = true) (i : PySem.W.isFn K (.ref f) = true)
    (hb : ∀ (kV doc pm : Value) (an : Option Addr) (cdv ct : Value) (us : List Value), us.length = ps.length → bindArgs (PySem.W.fnOf m qual (defArgs st) (defBody st) (defScope st) .none kV doc pm an cdv ct) ⟨us, []⟩ = pure (ps.zip us)) : MetAt K C m qual st ps :=
  ⟨f, _, fun_mk (st := st) l c k, ⟨a, i, k⟩, (fun_mk (st := st) l c k).binds hb⟩
theorem PrpAt.mk1 {K : PySem.W.Frag} {h : Heap} {mg : Str → Option Value} {x : Str} {C : Addr} {m qual : Str} {st : Stmt} {ps : List Str} {f p : Addr} {rest : List Value} {od an : Option Addr} {sl : Array (Option Value)} {oc kV dc pm cd ct : Value} (X : K.In h) (hC : mg x = some (.ref C))
    (a : PySem.W.findIn K (.ref C) m = some (some (.ref p))) (g : PySem.W.specialIn K (.ref p) "__get__" = some (some (.builtin "property.__get__"))) (t : PySem.W.takesIn K (.ref p) = some true) (r : PySem.W.recIn K p "property" = some (.ref f :: rest))
    (l : K.lookup f = some ⟨oc, od, .func (PySem.W.fnOf m qual (defArgs st) (defBody st) (defScope st) .none kV dc pm an cd ct), sl⟩) (c : PySem.W.codeIn K cd qual = true) (k : PySem.W.keepIn K (.ref f) = true)
    (hb : ∀ (kV doc pm : Value) (an : Option Addr) (cdv ct : Value) (us : List Value), us.length = ps.length → bindArgs (PySem.W.fnOf m qual (defArgs st) (defBody st) (defScope st) .none kV doc pm an cdv ct) ⟨us, []⟩ = pure (ps.zip us)) : PrpAt K C m qual st ps :=
  ⟨f, p, _, fun_mk (st := st) l c k, ⟨a, g, t, rest, r⟩, (fun_mk (st := st) l c k).binds hb⟩
theorem glob_mk {K : PySem.W.Frag} {h : Heap} {mg : Str → Option Value} {x : Str} {C : Addr} (X : K.In h) (G : h.Ns mainGlobals mg) (a : PySem.W.nsIn K mainGlobals x = some (some (.ref C))) : mg x = some (.ref C) := PySem.W.mg_of X G a
/-- a def with defaults -/
theorem funD_mk {K : PySem.W.Frag} {h : Heap} {mg : Str → Option Value} {x : Str} {st : Stmt} {dvs : List V} {f T : Addr} {o : Obj} {its : List Value} {n : Nat} {od an : Option Addr} {sl : Array (Option Value)} {oc kV dc pm cd ct : Value} (X : K.In h) (G : h.Ns mainGlobals mg)
    (a : PySem.W.nsIn K mainGlobals x = some (some (.ref f))) (l : K.lookup f = some ⟨oc, od, .func (PySem.W.fnOf x x (defArgs st) (defBody st) (defScope st) (.ref T) kV dc pm an cd ct), sl⟩) (c : PySem.W.codeIn K cd x = true) (k : PySem.W.keepIn K (.ref f) = true)
    (t : K.lookup T = some o) (e : o.data = .seq its.toArray n) (hv : Vals dvs its) (hd : dvs ≠ []) : FunD K x x (defArgs st) (defBody st) (defScope st) dvs [] f (PySem.W.fnOf x x (defArgs st) (defBody st) (defScope st) (.ref T) kV dc pm an cd ct) ∧ mg x = some (.ref f) :=
  ⟨⟨⟨oc, od, _, kV, dc, pm, an, cd, ct, sl, rfl, l, c, .inr ⟨hd, T, o, its, n, rfl, t, e, hv⟩, .inl rfl⟩, k⟩, PySem.W.mg_of X G a⟩
/-- the law's own def -/
theorem DefAt.law {K : PySem.W.Frag} {mg : Str → Option Value} {x : Str} {st : Stmt} {fa : Addr} {p : Str} (D : DefAt K mg x st [p]) (hfa : mg x = some (.ref fa))
    (hb : ∀ (kV doc pm : Value) (an : Option Addr) (cdv ct : Value) (us : List Value), us.length = 1 → bindArgs (PySem.W.fnOf x x (defArgs st) (defBody st) (defScope st) .none kV doc pm an cdv ct) ⟨us, []⟩ = pure ([p].zip us)) :
    ∃ fd : FuncData, Fun K x x st fa fd ∧ ∀ (s : Shared) (u : Value), BindsTo s fd ⟨[u], []⟩ [(p, u)] := by
  obtain ⟨f, fd, F, hm, b⟩ := D.ex
  rw [hfa] at hm
  cases hm
  obtain ⟨oc, od, kV, doc, pm, an, cdv, ct, osl, rfl, lk, hcd⟩ := F.ex
  exact ⟨_, F, fun s u => .of_eq (hb kV doc pm an cdv ct [u] rfl)⟩
end Sq

/-! the mathematics of replacements on lengths of runs -/
namespace Sq
def once (n k : Int) : Int := n / k + n % k
def sqz (n : Int) (row : List Int) : Int := row.foldl once n
def rb (R k : Int) : Int := if k > R + 1 then R else (R + 3 - k) * k - 2
def reachOf (row : List Int) (most : Int) : Int := row.foldr (fun k R => rb R k) most
abbrev Two (row : List Int) : Prop := ∀ k ∈ row, (2 : Int) ≤ k
def Mid (ns : List Int) : Prop := ∀ k ∈ ns, (2 : Int) ≤ k ∧ k < 2 ^ 240
theorem Mid.two {ns : List Int} (h : Mid ns) : Two ns := fun k hk => (h k hk).1
theorem sqz_cons (n k : Int) (r : List Int) : sqz n (k :: r) = sqz (once n k) r := rfl
theorem sqz_app (n : Int) (a b : List Int) : sqz n (a ++ b) = sqz (sqz n a) b := by simp [sqz, List.foldl_append]
theorem sqz_snoc (n k : Int) (a : List Int) : sqz n (a ++ [k]) = once (sqz n a) k := by rw [sqz_app]; rfl
theorem sqz_take {row : List Int} {n k : Int} {i : Nat} (h : row[i]? = some k) : sqz n (row.take (i + 1)) = once (sqz n (row.take i)) k := by
  rw [List.take_add_one, h]
  exact sqz_snoc _ _ _
theorem once_nn {n k : Int} (hn : 0 ≤ n) (hk : 2 ≤ k) : 0 ≤ once n k := by
  unfold once
  have h1 := Int.ediv_nonneg hn (by omega : (0 : Int) ≤ k)
  have h2 := Int.emod_nonneg n (by omega : k ≠ 0)
  omega
/-- quotient and rest -/
theorem qr (n : Int) {k : Int} (hk : 2 ≤ k) : ∃ q r, n = q * k + r ∧ 0 ≤ r ∧ r < k ∧ n / k = q ∧ n % k = r :=
  ⟨n / k, n % k, by have := Int.mul_ediv_add_emod n k; rw [Int.mul_comm] at this; omega, Int.emod_nonneg n (by omega), Int.emod_lt_of_pos n (by omega), rfl, rfl⟩
theorem qr_of {q r k : Int} (h0 : 0 ≤ r) (h1 : r < k) : (q * k + r) / k = q ∧ (q * k + r) % k = r := by
  have hk : k ≠ 0 := by omega
  constructor
  · rw [Int.add_comm, Int.add_mul_ediv_right _ _ hk, Int.ediv_eq_zero_of_lt h0 h1]; omega
  · rw [Int.add_comm, Int.add_mul_emod_self_right, Int.emod_eq_of_lt h0 h1]
theorem once_qr {q r k : Int} (h0 : 0 ≤ r) (h1 : r < k) : once (q * k + r) k = q + r := by
  obtain ⟨a, b⟩ := qr_of (q := q) h0 h1
  unfold once
  rw [a, b]
theorem once_le {n k : Int} (hn : 0 ≤ n) (hk : 2 ≤ k) : once n k ≤ n := by
  obtain ⟨q, r, e, h0, h1, e1, e2⟩ := qr n hk
  unfold once
  rw [e1, e2]
  have hq : 0 ≤ q := by rw [← e1]; exact Int.ediv_nonneg hn (by omega)
  have := Int.mul_le_mul_of_nonneg_left (by omega : (1 : Int) ≤ k) hq
  omega
theorem once_small {n k : Int} (hn : 0 ≤ n) (h : n < k) : once n k = n := by
  unfold once
  rw [Int.ediv_eq_zero_of_lt hn h, Int.emod_eq_of_lt hn h]
  omega
theorem once_pos {n k : Int} (hn : 1 ≤ n) (hk : 2 ≤ k) : 1 ≤ once n k := by
  obtain ⟨q, r, e, h0, h1, e1, e2⟩ := qr n hk
  unfold once
  rw [e1, e2]
  have hq : 0 ≤ q := by rw [← e1]; exact Int.ediv_nonneg (by omega) (by omega)
  rcases Int.lt_or_eq_of_le hq with h | h
  · omega
  · subst h; omega
theorem sqz_nn : ∀ {row : List Int} {n : Int}, 0 ≤ n → Two row → 0 ≤ sqz n row
  | [], n, h, _ => h
  | k :: r, n, h, t => sqz_nn (row := r) (once_nn h (t k (List.mem_cons_self ..))) fun j hj => t j (List.mem_cons_of_mem _ hj)
theorem sqz_le : ∀ {row : List Int} {n : Int}, 0 ≤ n → Two row → sqz n row ≤ n
  | [], n, h, _ => Int.le_refl n
  | k :: r, n, h, t => Int.le_trans (sqz_le (row := r) (once_nn h (t k (List.mem_cons_self ..))) fun j hj => t j (List.mem_cons_of_mem _ hj)) (once_le h (t k (List.mem_cons_self ..)))
theorem sqz_pos : ∀ {row : List Int} {n : Int}, 1 ≤ n → Two row → 1 ≤ sqz n row
  | [], n, h, _ => h
  | k :: r, n, h, t => sqz_pos (row := r) (once_pos h (t k (List.mem_cons_self ..))) fun j hj => t j (List.mem_cons_of_mem _ hj)
/-- one step of the reach -/
theorem rb_pos {R k : Int} (hR : 1 ≤ R) (hk : 2 ≤ k) : R ≤ rb R k := by
  unfold rb
  split
  · omega
  · rename_i h
    have e : (R + 3 - k) * k - 2 - R = (R + 1 - k) * (k - 1) + (k - 1) := by
      have e1 : R + 3 - k = (R + 1 - k) + 2 := by omega
      have e2 : k = (k - 1) + 1 := by omega
      rw [e1]
      have e3 : (R + 1 - k) * k = (R + 1 - k) * (k - 1) + (R + 1 - k) := by
        have := Int.mul_sub (R + 1 - k) k 1
        omega
      have e4 : (R + 1 - k + 2) * k = (R + 1 - k) * k + 2 * k := Int.add_mul _ _ _
      omega
    have := Int.mul_nonneg (by omega : (0 : Int) ≤ R + 1 - k) (by omega : (0 : Int) ≤ k - 1)
    omega
theorem rb_all {R k n : Int} (hR : 1 ≤ R) (hk : 2 ≤ k) (h0 : 0 ≤ n) (h : n ≤ rb R k) : once n k ≤ R := by
  unfold rb at h
  split at h
  · rw [once_small h0 (by omega)]; exact h
  · rename_i hh
    obtain ⟨q, r, e, h1, h2, e1, e2⟩ := qr n hk
    unfold once
    rw [e1, e2]
    have e3 : (R + 3 - k) * k = (R + 2 - k) * k + k := by
      have : R + 3 - k = (R + 2 - k) + 1 := by omega
      rw [this, Int.add_mul, Int.one_mul]
    rcases Int.lt_or_le q (R + 2 - k) with hq | hq
    · omega
    · rcases Int.lt_or_eq_of_le hq with hq | hq
      · have := Int.mul_le_mul_of_nonneg_right (by omega : R + 3 - k ≤ q) (by omega : (0 : Int) ≤ k)
        omega
      · subst hq
        omega
theorem rb_next {R k : Int} (hR : 1 ≤ R) (hk : 2 ≤ k) : once (rb R k + 1) k = R + 1 := by
  unfold rb
  split
  · rw [once_small (by omega) (by omega)]
  · have e3 : (R + 3 - k) * k - 2 + 1 = (R + 2 - k) * k + (k - 1) := by
      have : R + 3 - k = (R + 2 - k) + 1 := by omega
      rw [this, Int.add_mul, Int.one_mul]; omega
    rw [e3, once_qr (by omega) (by omega)]
    omega
theorem reach_pos : ∀ {row : List Int} {m : Int}, 1 ≤ m → Two row → m ≤ reachOf row m
  | [], m, _, _ => Int.le_refl m
  | k :: r, m, h, t => by
    have ih := reach_pos (row := r) h fun j hj => t j (List.mem_cons_of_mem _ hj)
    exact Int.le_trans ih (rb_pos (by omega) (t k (List.mem_cons_self ..)))
theorem reach_all : ∀ {row : List Int} {m n : Int}, 1 ≤ m → Two row → 0 ≤ n → n ≤ reachOf row m → sqz n row ≤ m
  | [], m, n, _, _, _, h => h
  | k :: r, m, n, h, t, h0, hn => by
    have t' : Two r := fun j hj => t j (List.mem_cons_of_mem _ hj)
    have hk := t k (List.mem_cons_self ..)
    have p := reach_pos h t'
    exact reach_all (row := r) h t' (once_nn h0 hk) (rb_all (by omega) hk h0 hn)
theorem reach_next : ∀ {row : List Int} {m : Int}, 1 ≤ m → Two row → sqz (reachOf row m + 1) row = m + 1
  | [], m, _, _ => rfl
  | k :: r, m, h, t => by
    have t' : Two r := fun j hj => t j (List.mem_cons_of_mem _ hj)
    have hk := t k (List.mem_cons_self ..)
    have p := reach_pos h t'
    show sqz (once (rb (reachOf r m) k + 1) k) r = m + 1
    rw [rb_next (by omega) hk]
    exact reach_next h t'
/-- the reach is where the first greater one stands -/
theorem reach_is {row : List Int} {m n : Int} (h : 1 ≤ m) (t : Two row) (h0 : 0 ≤ n) (hn : m < sqz n row) (ha : ∀ j, 0 ≤ j → j < n → sqz j row ≤ m) : reachOf row m = n - 1 := by
  have p := reach_pos h t
  rcases Int.lt_or_le (reachOf row m) n with a | a
  · rcases Int.lt_or_le (reachOf row m + 1) n with b | b
    · have := ha _ (by omega) b
      rw [reach_next h t] at this
      omega
    · omega
  · have := reach_all h t h0 a
    omega
theorem reach_mono {row : List Int} {m m' : Int} (h : 1 ≤ m) (hm : m ≤ m') (t : Two row) : reachOf row m ≤ reachOf row m' := by
  rcases Int.lt_or_le (reachOf row m') (reachOf row m) with a | a
  · have p := reach_pos (m := m') (by omega) t
    have := reach_all h t (n := reachOf row m' + 1) (by omega) (by omega)
    rw [reach_next (by omega) t] at this
    omega
  · exact a
end Sq


namespace Sq
def prodL (ns : List Int) : Int := ns.foldr (fun k p => k * p) 1
def slack (ns : List Int) : Int := (ns.map fun k => k - 1).sum
theorem prodL_cons (k : Int) (r : List Int) : prodL (k :: r) = k * prodL r := rfl
theorem prodL_app (a b : List Int) : prodL (a ++ b) = prodL a * prodL b := by
  induction a with
  | nil => simp [prodL]
  | cons k r ih => rw [List.cons_append, prodL_cons, prodL_cons, ih, Int.mul_assoc]
theorem prodL_snoc (a : List Int) (k : Int) : prodL (a ++ [k]) = prodL a * k := by rw [prodL_app]; simp [prodL]
theorem prodL_pos : ∀ {ns : List Int}, Two ns → 1 ≤ prodL ns
  | [], _ => Int.le_refl 1
  | k :: r, h => by
    have ih := prodL_pos (ns := r) fun j hj => h j (List.mem_cons_of_mem _ hj)
    have hk := h k (List.mem_cons_self ..)
    rw [prodL_cons]
    have := Int.mul_le_mul (show (1 : Int) ≤ k by omega) ih (by decide) (by omega)
    omega
theorem prodL_one : ∀ {ns : List Int}, Two ns → prodL ns ≤ 1 → ns = []
  | [], _, _ => rfl
  | k :: r, h, h1 => by
    have ih := prodL_pos (ns := r) fun j hj => h j (List.mem_cons_of_mem _ hj)
    have hk := h k (List.mem_cons_self ..)
    rw [prodL_cons] at h1
    have := Int.mul_le_mul hk ih (by decide) (by omega)
    omega
theorem once_mul (n : Int) {k : Int} (hk : 2 ≤ k) : k * once n k = n + (k - 1) * (n % k) := by
  have e := Int.mul_ediv_add_emod n k
  unfold once
  rw [Int.mul_add, Int.sub_mul, Int.one_mul]
  omega
theorem sqz_ge : ∀ {ns : List Int} {n : Int}, 0 ≤ n → Two ns → n ≤ prodL ns * sqz n ns
  | [], n, _, _ => by simp [prodL, sqz]
  | k :: r, n, h0, h => by
    have t : Two r := fun j hj => h j (List.mem_cons_of_mem _ hj)
    have hk := h k (List.mem_cons_self ..)
    have ih := sqz_ge (ns := r) (once_nn h0 hk) t
    have e := once_mul n hk
    have hm := Int.emod_nonneg n (show k ≠ 0 by omega)
    have := Int.mul_nonneg (show 0 ≤ k - 1 by omega) hm
    have := Int.mul_le_mul_of_nonneg_left ih (show 0 ≤ k by omega)
    rw [prodL_cons, sqz_cons, Int.mul_assoc]
    omega
theorem slack_cons (k : Int) (r : List Int) : slack (k :: r) = (k - 1) + slack r := by simp [slack]
theorem slack_nn : ∀ {ns : List Int}, Two ns → 0 ≤ slack ns
  | [], _ => Int.le_refl 0
  | k :: r, h => by
    have ih := slack_nn (ns := r) fun j hj => h j (List.mem_cons_of_mem _ hj)
    have hk := h k (List.mem_cons_self ..)
    rw [slack_cons]
    omega
theorem sqz_up : ∀ {ns : List Int} {n : Int}, 0 ≤ n → Two ns → prodL ns * sqz n ns ≤ n + prodL ns * slack ns
  | [], n, _, _ => by simp [prodL, sqz, slack]
  | k :: r, n, h0, h => by
    have t : Two r := fun j hj => h j (List.mem_cons_of_mem _ hj)
    have hk := h k (List.mem_cons_self ..)
    have ih := sqz_up (ns := r) (once_nn h0 hk) t
    have e := once_mul n hk
    have hl := Int.emod_lt_of_pos n (show 0 < k by omega)
    have p := prodL_pos t
    have a1 : (k - 1) * (n % k) ≤ (k - 1) * k := Int.mul_le_mul_of_nonneg_left (by omega) (by omega)
    have a2 := Int.mul_le_mul_of_nonneg_left ih (show 0 ≤ k by omega)
    -- k * (prodL r * x) ≤ k * once n k + k * prodL r * slack r
    have a3 : k * prodL r * (k - 1) = (k - 1) * k * prodL r := by
      rw [Int.mul_comm (k * prodL r), Int.mul_assoc]
    have a4 : (k - 1) * k * 1 ≤ (k - 1) * k * prodL r := Int.mul_le_mul_of_nonneg_left p (Int.mul_nonneg (by omega) (by omega))
    rw [prodL_cons, sqz_cons, slack_cons, Int.mul_add (k * prodL r), a3, Int.mul_assoc k (prodL r) (sqz _ _)]
    rw [Int.mul_add, ← Int.mul_assoc] at a2
    rw [← Int.mul_assoc] at a2
    rw [← Int.mul_assoc]
    omega
theorem sqz_mul : ∀ {ns : List Int} {m : Int}, Two ns → sqz (m * prodL ns) ns = m
  | [], m, _ => by simp [prodL, sqz]
  | k :: r, m, h => by
    have hk := h k (List.mem_cons_self ..)
    have e : m * prodL (k :: r) = (m * prodL r) * k + 0 := by
      rw [prodL_cons, Int.add_zero, Int.mul_assoc, Int.mul_comm k]
    rw [sqz_cons, e, once_qr (by omega) (by omega), Int.add_zero]
    exact sqz_mul fun j hj => h j (List.mem_cons_of_mem _ hj)
theorem slack_le : ∀ {ns : List Int} {g : Int}, (∀ k ∈ ns, k ≤ g) → slack ns ≤ ns.length * (g - 1)
  | [], g, _ => by simp [slack]
  | k :: r, g, h => by
    have ih := slack_le (ns := r) (g := g) fun j hj => h j (List.mem_cons_of_mem _ hj)
    have hk := h k (List.mem_cons_self ..)
    rw [slack_cons, List.length_cons]
    have : ((r.length + 1 : Nat) : Int) * (g - 1) = r.length * (g - 1) + (g - 1) := by
      rw [Int.natCast_add, Int.add_mul]
      simp
    omega
theorem prodL_le : ∀ {ns : List Int} {g : Int} {n : Nat}, Two ns → (∀ k ∈ ns, k ≤ g) → ns.length ≤ n → 1 ≤ g → prodL ns ≤ g ^ n
  | [], g, n, _, _, _, hg => by
    show (1 : Int) ≤ g ^ n
    exact Int.pow_pos (show 0 < g by omega)
  | k :: r, g, 0, _, _, hl, _ => by simp at hl
  | k :: r, g, n + 1, h, hk, hl, hg => by
    have ih := prodL_le (ns := r) (g := g) (n := n) (fun j hj => h j (List.mem_cons_of_mem _ hj)) (fun j hj => hk j (List.mem_cons_of_mem _ hj)) (by simpa using hl) hg
    have p := prodL_pos (ns := r) fun j hj => h j (List.mem_cons_of_mem _ hj)
    have k2 := h k (List.mem_cons_self ..)
    rw [prodL_cons, Int.pow_succ, Int.mul_comm]
    exact Int.mul_le_mul ih (hk k (List.mem_cons_self ..)) (by omega) (by omega)
/-- the product is told by one long run -/
theorem told_prod {ns : List Int} {b s : Int} (h : Two ns) (hb : prodL ns ≤ b) (hs : slack ns < s) : ((s * b * (b + 1)) + sqz (s * b * (b + 1)) ns - 1) / sqz (s * b * (b + 1)) ns = prodL ns := by
  have p := prodL_pos h
  have s0 := slack_nn h
  have L0 : 0 ≤ s * b * (b + 1) := Int.mul_nonneg (Int.mul_nonneg (by omega) (by omega)) (by omega)
  have g := sqz_ge L0 h
  have u := sqz_up L0 h
  generalize hL : s * b * (b + 1) = L at *
  generalize hx : sqz L ns = x at *
  generalize hP : prodL ns = Pr at *
  generalize hS : slack ns = S at *
  -- (Pr - 1) * x < L ≤ Pr * x
  have e1 : Pr * S * Pr ≤ S * b * b := by
    have a := Int.mul_le_mul hb hb (by omega) (by omega : 0 ≤ b)
    have c := Int.mul_le_mul_of_nonneg_left a s0
    have d1 : Pr * S * Pr = S * (Pr * Pr) := by rw [Int.mul_comm Pr S, Int.mul_assoc]
    have d2 : S * b * b = S * (b * b) := Int.mul_assoc _ _ _
    omega
  have e2 : S * b * b + b < L := by
    have a1 : (S + 1) * b * (b + 1) ≤ s * b * (b + 1) := Int.mul_le_mul_of_nonneg_right (Int.mul_le_mul_of_nonneg_right (by omega) (by omega)) (by omega)
    have a2 : (S + 1) * b * (b + 1) = S * b * b + S * b + (b * b + b) := by
      rw [Int.add_mul, Int.one_mul, Int.mul_add, Int.mul_one, Int.add_mul]
      omega
    have a3 := Int.mul_nonneg s0 (show 0 ≤ b by omega)
    have a4 := Int.mul_le_mul (show (1 : Int) ≤ b by omega) (show (1 : Int) ≤ b by omega) (by decide) (by omega)
    omega
  have xpos : 0 < x := by
    rcases Int.lt_or_le 0 x with z | z
    · exact z
    · have := Int.mul_nonpos_of_nonneg_of_nonpos (show 0 ≤ Pr by omega) z
      have := Int.mul_nonneg (Int.mul_nonneg s0 (show 0 ≤ b by omega)) (show 0 ≤ b by omega)
      omega
  have lo : (Pr - 1) * x < L := by
    -- Pr * ((Pr - 1) * x) ≤ (Pr - 1) * (L + Pr * S) < Pr * L
    have a1 := Int.mul_le_mul_of_nonneg_left u (show 0 ≤ Pr - 1 by omega)
    have a2 : (Pr - 1) * (Pr * x) = Pr * ((Pr - 1) * x) := by
      rw [← Int.mul_assoc, ← Int.mul_assoc, Int.mul_comm (Pr - 1) Pr]
    have a3 : (Pr - 1) * (L + Pr * S) = Pr * L - L + (Pr * S * Pr - Pr * S) := by
      rw [Int.sub_mul, Int.one_mul, Int.mul_add, Int.mul_comm Pr (Pr * S)]
      omega
    have a4 := Int.mul_nonneg (show 0 ≤ Pr by omega) s0
    rcases Int.lt_or_le ((Pr - 1) * x) L with z | z
    · exact z
    · have := Int.mul_le_mul_of_nonneg_left z (show 0 ≤ Pr by omega)
      omega
  have q1 : L + x - 1 = (L - (Pr - 1) * x - 1) + Pr * x := by
    rw [Int.sub_mul, Int.one_mul]
    omega
  rw [q1, Int.add_mul_ediv_right _ _ (by omega), Int.ediv_eq_zero_of_lt (by omega) (by rw [Int.sub_mul, Int.one_mul]; omega)]
  omega
/-- the next number of the list is told by runs below the product -/
theorem next_hit {k : Int} {r : List Int} (h : Two (k :: r)) : sqz (prodL (k :: r) - k + 1) (k :: r) = 1 := by
  have t : Two r := fun j hj => h j (List.mem_cons_of_mem _ hj)
  have hk := h k (List.mem_cons_self ..)
  have e : prodL (k :: r) - k + 1 = (prodL r - 1) * k + 1 := by
    rw [prodL_cons, Int.sub_mul, Int.one_mul, Int.mul_comm]
  rw [sqz_cons, e, once_qr (by omega) (by omega)]
  have := sqz_mul (m := 1) t
  rw [Int.one_mul] at this
  rw [show prodL r - 1 + 1 = prodL r by omega]
  exact this
theorem next_miss {k j : Int} {r : List Int} (h : Two (k :: r)) (hj : 2 ≤ j) (hjk : j < k) : 1 < sqz (prodL (k :: r) - j + 1) (k :: r) := by
  have t : Two r := fun j hj => h j (List.mem_cons_of_mem _ hj)
  have hk := h k (List.mem_cons_self ..)
  have p := prodL_pos t
  have e : prodL (k :: r) - j + 1 = (prodL r - 1) * k + (k - j + 1) := by
    rw [prodL_cons, Int.sub_mul, Int.one_mul, Int.mul_comm]
    omega
  rw [sqz_cons, e, once_qr (by omega) (by omega)]
  have g := sqz_ge (n := prodL r - 1 + (k - j + 1)) (by omega) t
  rcases Int.lt_or_le 1 (sqz (prodL r - 1 + (k - j + 1)) r) with z | z
  · exact z
  · have := Int.mul_le_mul_of_nonneg_left z (show 0 ≤ prodL r by omega)
    omega
end Sq


namespace Sq
/-! ## sums -/
def sm (lo : Int) (f : Int → Int) : Nat → Int
  | 0 => 0
  | n + 1 => sm lo f n + f (lo + n)
theorem sm_congr {lo : Int} {f g : Int → Int} : ∀ {n : Nat}, (∀ i : Nat, i < n → f (lo + i) = g (lo + i)) → sm lo f n = sm lo g n
  | 0, _ => rfl
  | n + 1, h => by
    show sm lo f n + _ = sm lo g n + _
    rw [sm_congr fun i hi => h i (by omega), h n (by omega)]
theorem sm_add {lo : Int} {f g : Int → Int} : ∀ n : Nat, sm lo (fun x => f x + g x) n = sm lo f n + sm lo g n
  | 0 => rfl
  | n + 1 => by
    have := sm_add (lo := lo) (f := f) (g := g) n
    simp only [sm]
    omega
theorem sm_sub {lo : Int} {f g : Int → Int} : ∀ n : Nat, sm lo (fun x => f x - g x) n = sm lo f n - sm lo g n
  | 0 => rfl
  | n + 1 => by
    have := sm_sub (lo := lo) (f := f) (g := g) n
    simp only [sm]
    omega
theorem sm_mul {lo c : Int} {f : Int → Int} : ∀ n : Nat, sm lo (fun x => c * f x) n = c * sm lo f n
  | 0 => by simp [sm]
  | n + 1 => by
    simp only [sm]
    rw [sm_mul n, Int.mul_add]
theorem sm_zero {lo : Int} {f : Int → Int} : ∀ {n : Nat}, (∀ i : Nat, i < n → f (lo + i) = 0) → sm lo f n = 0
  | 0, _ => rfl
  | n + 1, h => by
    show sm lo f n + _ = 0
    rw [sm_zero fun i hi => h i (by omega), h n (by omega)]
    rfl
theorem sm_split {lo : Int} {f : Int → Int} (a : Nat) : ∀ b : Nat, sm lo f (a + b) = sm lo f a + sm (lo + a) f b
  | 0 => by simp [sm]
  | b + 1 => by
    show sm lo f (a + b) + f (lo + ((a + b : Nat) : Int)) = _
    rw [sm_split a b]
    show _ = sm lo f a + (sm (lo + a) f b + f (lo + a + b))
    rw [show lo + ((a + b : Nat) : Int) = lo + a + b by omega]
    omega
theorem sm_nn {lo : Int} {f : Int → Int} : ∀ {n : Nat}, (∀ i : Nat, i < n → 0 ≤ f (lo + i)) → 0 ≤ sm lo f n
  | 0, _ => Int.le_refl 0
  | n + 1, h => by
    have a := sm_nn (lo := lo) (f := f) (n := n) fun i hi => h i (by omega)
    have b := h n (by omega)
    simp only [sm]
    omega
theorem sm_up {lo : Int} {f : Int → Int} (h : ∀ x, 0 ≤ f x) {a b : Nat} (hab : a ≤ b) : sm lo f a ≤ sm lo f b := by
  have e := sm_split (lo := lo) (f := f) a (b - a)
  rw [Nat.add_sub_cancel' hab] at e
  have := sm_nn (lo := lo + a) (f := f) (n := b - a) fun i _ => h _
  omega
theorem sm_ind {lo z : Int} {h : Int → Int} : ∀ n : Nat, sm lo (fun t => if t = z then h t else 0) n = if lo ≤ z ∧ z < lo + n then h z else 0
  | 0 => by
    rw [if_neg (by omega)]
    rfl
  | n + 1 => by
    show sm lo _ n + (if lo + (n : Int) = z then h (lo + n) else 0) = _
    rw [sm_ind n]
    by_cases e : lo + (n : Int) = z
    · rw [if_pos e, if_neg (by omega), if_pos (by omega), e, Int.zero_add]
    · rw [if_neg e, Int.add_zero]
      by_cases c : lo ≤ z ∧ z < lo + n
      · rw [if_pos c, if_pos (by omega)]
      · rw [if_neg c, if_neg (by omega)]
theorem sm_one {lo : Int} {f : Int → Int} : ∀ {n : Nat}, (∀ i : Nat, i < n → f (lo + i) = 1) → sm lo f n = n
  | 0, _ => rfl
  | n + 1, h => by
    show sm lo f n + _ = _
    rw [sm_one fun i hi => h i (by omega), h n (by omega)]
    omega
/-! ## counting -/
/-- is the run x made n long -/
def hit (n : Int) (row : List Int) (x : Int) : Int := if sqz x row = n then 1 else 0
theorem hit_nn (n : Int) (row : List Int) (x : Int) : 0 ≤ hit n row x := by
  unfold hit
  split <;> decide
/-- how many runs up to last are made n long -/
def cnt (n : Int) (row : List Int) (last : Int) : Int := sm 1 (hit n row) last.toNat
theorem cnt_zero {n : Int} {row : List Int} {last : Int} (h : last < 1) : cnt n row last = 0 := by
  unfold cnt
  rw [show last.toNat = 0 by omega]
  rfl
theorem cnt_step {n : Int} {row : List Int} {last : Int} (h : 1 ≤ last) : cnt n row last = cnt n row (last - 1) + hit n row last := by
  unfold cnt
  obtain ⟨j, hj⟩ : ∃ j : Nat, last.toNat = j + 1 := ⟨last.toNat - 1, by omega⟩
  rw [hj, show (last - 1).toNat = j by omega]
  show sm 1 _ j + hit n row (1 + (j : Int)) = _
  rw [show (1 : Int) + j = last by omega]
theorem cnt_up {n : Int} {row : List Int} {a b : Int} (h : a ≤ b) : cnt n row a ≤ cnt n row b := sm_up (hit_nn n row) (by omega)
theorem cnt_nn (n : Int) (row : List Int) (a : Int) : 0 ≤ cnt n row a := sm_nn fun i _ => hit_nn n row _
theorem cnt_nil {n last : Int} (hn : 1 ≤ n) (hl : 1 ≤ last) : cnt n [] last = if n ≤ last then 1 else 0 := by
  unfold cnt
  have e : sm 1 (hit n []) last.toNat = sm 1 (fun x => if x = n then 1 else 0) last.toNat := sm_congr fun i _ => rfl
  rw [e, sm_ind]
  by_cases c : n ≤ last
  · rw [if_pos c, if_pos (by omega)]
  · rw [if_neg c, if_neg (by omega)]
/-- how many runs up to last does k alone make m long -/
def cm (k last m : Int) : Int := sm 0 (fun t => if m * k - t * (k - 1) ≤ last then 1 else 0) (min (k - 1) m + 1).toNat
theorem pre_is {k m t last : Int} (hk : 2 ≤ k) (hl : 1 ≤ last) (t0 : 0 ≤ t) (t1 : t ≤ k - 1) (t2 : t ≤ m) : (m * k - t * (k - 1) = last) ↔ (t = last % k ∧ once last k = m) := by
  have e : m * k - t * (k - 1) = (m - t) * k + t := by
    rw [Int.sub_mul, Int.mul_sub, Int.mul_one]
    omega
  rw [e]
  constructor
  · intro h
    obtain ⟨a, b⟩ := qr_of (q := m - t) (k := k) t0 (by omega)
    rw [h] at a b
    refine ⟨b.symm, ?_⟩
    unfold once
    rw [a, b]
    omega
  · rintro ⟨h1, h2⟩
    unfold once at h2
    have := Int.mul_ediv_add_emod last k
    rw [h1, show m - last % k = last / k by omega, Int.mul_comm]
    omega
theorem cm_step {k m last : Int} (hk : 2 ≤ k) (hm : 1 ≤ m) (hl : 1 ≤ last) : cm k last m - cm k (last - 1) m = if m = once last k then 1 else 0 := by
  unfold cm
  rw [← sm_sub]
  have e : sm 0 (fun t => (if m * k - t * (k - 1) ≤ last then (1 : Int) else 0) - if m * k - t * (k - 1) ≤ last - 1 then 1 else 0) (min (k - 1) m + 1).toNat =
      sm 0 (fun t => if t = last % k then (if m = once last k then 1 else 0) else 0) (min (k - 1) m + 1).toNat := sm_congr fun i hi => by
    have p := pre_is (k := k) (m := m) (t := 0 + (i : Int)) (last := last) hk hl (by omega) (by omega) (by omega)
    by_cases c1 : m * k - (0 + (i : Int)) * (k - 1) ≤ last - 1
    · rw [if_pos (by omega), if_pos c1]
      by_cases c2 : 0 + (i : Int) = last % k
      · rw [if_pos c2, if_neg fun c3 => by
          have := p.mpr ⟨c2, c3.symm⟩
          omega]
        rfl
      · rw [if_neg c2]
        rfl
    · rw [if_neg c1]
      by_cases c3 : m * k - (0 + (i : Int)) * (k - 1) ≤ last
      · obtain ⟨p1, p2⟩ := p.mp (by omega)
        rw [if_pos c3, if_pos p1, if_pos p2.symm]
        rfl
      · rw [if_neg c3]
        by_cases c2 : 0 + (i : Int) = last % k
        · rw [if_pos c2, if_neg fun c4 => c3 (by
            have := p.mpr ⟨c2, c4.symm⟩
            omega)]
          rfl
        · rw [if_neg c2]
          rfl
  rw [e, sm_ind]
  by_cases c : m = once last k
  · rw [if_pos c]
    have h1 := Int.emod_nonneg last (show k ≠ 0 by omega)
    have h2 := Int.emod_lt_of_pos last (show 0 < k by omega)
    have h3 : 0 ≤ last / k := Int.ediv_nonneg (by omega) (by omega)
    unfold once at c
    rw [if_pos (by omega)]
  · rw [if_neg c]
    split <;> rfl
theorem cm_zero {k m : Int} (hk : 2 ≤ k) (hm : 1 ≤ m) : cm k 0 m = 0 := by
  refine sm_zero fun i hi => if_neg ?_
  have e : m * k - (0 + (i : Int)) * (k - 1) = (m - i) * k + i := by
    rw [Int.zero_add, Int.sub_mul, Int.mul_sub, Int.mul_one]
    omega
  rw [e]
  have := Int.mul_nonneg (show 0 ≤ m - i by omega) (show 0 ≤ k by omega)
  rcases Nat.eq_zero_or_pos i with z | z
  · have := Int.mul_le_mul (show (1 : Int) ≤ m - i by omega) hk (by decide) (by omega)
    omega
  · omega
theorem cnt_cons {n k : Int} {r : List Int} (hk : 2 ≤ k) (B : Nat) : ∀ a : Nat, a ≤ B → cnt n (k :: r) a = sm 1 (fun m => hit n r m * cm k a m) B
  | 0, _ => by
    rw [cnt_zero (by decide)]
    symm
    exact sm_zero fun i _ => by
      show hit n r (1 + i) * cm k 0 (1 + i) = 0
      rw [cm_zero hk (by omega), Int.mul_zero]
  | a + 1, h => by
    have hl : (1 : Int) ≤ ((a + 1 : Nat) : Int) := by omega
    have ih := cnt_cons hk B a (by omega) (n := n) (r := r)
    rw [cnt_step hl, show ((a + 1 : Nat) : Int) - 1 = (a : Int) by omega, ih]
    have e : sm 1 (fun m => hit n r m * cm k ((a + 1 : Nat) : Int) m) B = sm 1 (fun m => hit n r m * cm k (a : Int) m + (if m = once ((a + 1 : Nat) : Int) k then hit n r m else 0)) B := sm_congr fun i _ => by
      have st := cm_step (k := k) (m := 1 + (i : Int)) (last := ((a + 1 : Nat) : Int)) hk (by omega) hl
      rw [show ((a + 1 : Nat) : Int) - 1 = (a : Int) by omega] at st
      have e2 : cm k ((a + 1 : Nat) : Int) (1 + (i : Int)) = cm k (a : Int) (1 + i) + (if 1 + (i : Int) = once ((a + 1 : Nat) : Int) k then 1 else 0) := by omega
      show hit n r (1 + i) * cm k ((a + 1 : Nat) : Int) (1 + i) = hit n r (1 + i) * cm k (a : Int) (1 + i) + _
      rw [e2, Int.mul_add]
      split <;> simp
    rw [e, sm_add, sm_ind, if_pos ⟨once_pos hl hk, by
      have := once_le (show (0 : Int) ≤ ((a + 1 : Nat) : Int) by omega) hk
      omega⟩]
    rfl
/-- all of them -/
theorem cm_all {k m last : Int} (hk : 2 ≤ k) (hm : 1 ≤ m) (h : m ≤ last / k) : cm k last m = k - (if m ≤ k - 2 then k - m - 1 else 0) := by
  have e : cm k last m = ((min (k - 1) m + 1).toNat : Int) := sm_one fun i hi => if_pos (by
    have h1 : m * k ≤ last := (Int.le_ediv_iff_mul_le (by omega)).mp h
    have := Int.mul_nonneg (show (0 : Int) ≤ 0 + (i : Int) by omega) (show 0 ≤ k - 1 by omega)
    omega)
  rw [e]
  split <;> omega
/-- none of them -/
theorem cm_none {k m last : Int} (hk : 2 ≤ k) (hm : 1 ≤ m) (h : (last + (k - 1) * (k - 1)) / k < m) : cm k last m = 0 := by
  refine sm_zero fun i hi => if_neg fun c => ?_
  have h1 : last + (k - 1) * (k - 1) < m * k := (Int.ediv_lt_iff_lt_mul (by omega)).mp h
  have h2 : (0 + (i : Int)) * (k - 1) ≤ (k - 1) * (k - 1) := Int.mul_le_mul_of_nonneg_right (by omega) (by omega)
  omega
/-- what the program adds up -/
theorem cnt_code {n k last : Int} {r : List Int} (hk : 2 ≤ k) (hl : 1 ≤ last) :
    cnt n (k :: r) last = k * cnt n r (last / k) - sm 1 (fun m => hit n r m * (k - m - 1)) (min (last / k) (k - 2)).toNat +
      sm (last / k + 1) (fun m => hit n r m * cm k last m) ((last + (k - 1) * (k - 1)) / k - last / k).toNat := by
  have hk0 : (0 : Int) < k := by omega
  have q0 : 0 ≤ last / k := Int.ediv_nonneg (by omega) (by omega)
  have sq := Int.mul_nonneg (show 0 ≤ k - 1 by omega) (show 0 ≤ k - 1 by omega)
  have q1 : last / k ≤ (last + (k - 1) * (k - 1)) / k := Int.ediv_le_ediv hk0 (by omega)
  generalize hU : (last + (k - 1) * (k - 1)) / k = U at *
  generalize hL : last / k = L at *
  have e0 := cnt_cons (n := n) (r := r) hk (L.toNat + ((U - L).toNat + last.toNat)) last.toNat (by omega)
  rw [show ((last.toNat : Nat) : Int) = last by omega] at e0
  rw [e0, sm_split, sm_split]
  have e3 : sm (1 + (L.toNat : Int) + ((U - L).toNat : Int)) (fun m => hit n r m * cm k last m) last.toNat = 0 := sm_zero fun i _ => by
    show hit n r _ * cm k last _ = 0
    rw [cm_none hk (by omega) (by omega), Int.mul_zero]
  have e1 : sm 1 (fun m => hit n r m * cm k last m) L.toNat = sm 1 (fun m => k * hit n r m - (if m ≤ k - 2 then hit n r m * (k - m - 1) else 0)) L.toNat := sm_congr fun i _ => by
    show hit n r (1 + i) * cm k last (1 + i) = k * hit n r (1 + i) - _
    rw [cm_all hk (by omega) (by omega), Int.mul_sub, Int.mul_comm]
    split <;> simp
  have e2 : sm 1 (fun m => if m ≤ k - 2 then hit n r m * (k - m - 1) else 0) L.toNat = sm 1 (fun m => hit n r m * (k - m - 1)) (min L (k - 2)).toNat := by
    rw [show L.toNat = (min L (k - 2)).toNat + (L.toNat - (min L (k - 2)).toNat) by omega, sm_split]
    rw [sm_zero (n := L.toNat - (min L (k - 2)).toNat) fun i hi => if_neg (by omega), Int.add_zero]
    exact sm_congr fun i hi => if_pos (by omega)
  rw [e3, e1, sm_sub, e2, Int.add_zero, sm_mul, show (1 : Int) + (L.toNat : Int) = L + 1 by omega]
  rfl
/-- what the law's own counting adds up -/
def allOf (goal : Int) : List Int → Int
  | [] => 1
  | k :: r => k * allOf goal r - sm 1 (fun m => hit goal r m * (k - m - 1)) (k - 2).toNat
theorem hit_far {goal m : Int} {r : List Int} (t : Two r) (hm : 0 ≤ m) (h : goal * prodL r < m) : hit goal r m = 0 := by
  refine if_neg fun e => ?_
  have := sqz_ge hm t
  rw [e, Int.mul_comm] at this
  omega
theorem all_is {goal : Int} (hg : 1 ≤ goal) : ∀ {row : List Int}, Two row → allOf goal row = cnt goal row (goal * prodL row)
  | [], _ => by
    rw [show goal * prodL [] = goal by simp [prodL], cnt_nil hg hg, if_pos (Int.le_refl _)]
    rfl
  | k :: r, h => by
    have t : Two r := fun j hj => h j (List.mem_cons_of_mem _ hj)
    have hk := h k (List.mem_cons_self ..)
    have ih := all_is hg t
    have p := prodL_pos t
    have gp : 1 ≤ goal * prodL r := Int.mul_pos (by omega) (by omega)
    have e : goal * prodL (k :: r) = goal * prodL r * k := by
      rw [prodL_cons, Int.mul_comm k, Int.mul_assoc]
    have l1 : 1 ≤ goal * prodL r * k := Int.mul_pos (by omega) (by omega)
    rw [e, cnt_code hk l1, Int.mul_ediv_cancel _ (by omega), ← ih]
    generalize hL : goal * prodL r = L at *
    have z : sm (L + 1) (fun m => hit goal r m * cm k (L * k) m) (((L * k) + (k - 1) * (k - 1)) / k - L).toNat = 0 := sm_zero fun i _ => by
      show hit goal r _ * _ = 0
      rw [hit_far t (by omega) (by omega), Int.zero_mul]
    rw [z, Int.add_zero]
    show k * allOf goal r - _ = _
    congr 1
    rcases Int.le_total L (k - 2) with c | c
    · rw [show (k - 2).toNat = (min L (k - 2)).toNat + ((k - 2).toNat - (min L (k - 2)).toNat) by omega, sm_split]
      rw [sm_zero (n := (k - 2).toNat - (min L (k - 2)).toNat) fun i hi => by
        show hit goal r _ * _ = 0
        rw [hit_far t (by omega) (by omega), Int.zero_mul], Int.add_zero]
    · rw [show (min L (k - 2)).toNat = (k - 2).toNat by omega]
theorem cnt_far {goal last : Int} {row : List Int} (t : Two row) (hg : 1 ≤ goal) (h : goal * prodL row ≤ last) : cnt goal row last = cnt goal row (goal * prodL row) := by
  have p := prodL_pos t
  have gp : 1 ≤ goal * prodL row := Int.mul_pos (by omega) (by omega)
  unfold cnt
  rw [show last.toNat = (goal * prodL row).toNat + (last.toNat - (goal * prodL row).toNat) by omega, sm_split]
  rw [sm_zero (n := last.toNat - (goal * prodL row).toNat) fun i hi => hit_far t (by omega) (by omega), Int.add_zero]
theorem sm_le {lo : Int} {f : Int → Int} (h : ∀ x, f x ≤ 1) : ∀ n : Nat, sm lo f n ≤ n
  | 0 => Int.le_refl 0
  | n + 1 => by
    have := sm_le (lo := lo) h n
    have := h (lo + n)
    simp only [sm]
    omega
theorem cnt_le {n last : Int} {row : List Int} (h : 0 ≤ last) : cnt n row last ≤ last := by
  have := sm_le (lo := 1) (f := hit n row) (fun x => by unfold hit; split <;> decide) last.toNat
  unfold cnt
  omega
/-- what k alone makes m long, the greatest first -/
def befores (m k : Int) : List Int := (List.range (min (k - 1) m + 1).toNat).map fun (t : Nat) => m * k - (0 + (t : Int)) * (k - 1)
theorem sm_filter {last : Int} (f : Int → Int) : ∀ n : Nat, sm 0 (fun t => if f t ≤ last then 1 else 0) n = ((((List.range n).map fun (t : Nat) => f (0 + (t : Int))).filter fun x => decide (x ≤ last)).length : Int)
  | 0 => rfl
  | n + 1 => by
    show sm 0 _ n + (if f (0 + (n : Int)) ≤ last then 1 else 0) = _
    rw [sm_filter f n, List.range_succ, List.map_append, List.filter_append, List.length_append]
    by_cases c : f (0 + (n : Int)) ≤ last
    · rw [if_pos c]
      simp only [List.map_cons, List.map_nil, List.filter_cons, c, decide_true, if_true, List.filter_nil, List.length_singleton]
      omega
    · rw [if_neg c]
      simp only [List.map_cons, List.map_nil, List.filter_cons, c, decide_false, Bool.false_eq_true, if_false, List.filter_nil, List.length_nil]
      omega
theorem cm_len (k last m : Int) : cm k last m = (((befores m k).filter fun x => decide (x ≤ last)).length : Int) := sm_filter (fun t => m * k - t * (k - 1)) _
theorem foldl_mul (row : List Int) : ∀ a : Int, row.foldl (fun x k => x * k) a = a * prodL row := by
  induction row with
  | nil => intro a; simp [prodL]
  | cons k r ih =>
    intro a
    rw [List.foldl_cons, ih, prodL_cons, Int.mul_assoc]
end Sq


namespace Sq
open PySem PySem.Spec PyProof.Rows L2
/-! ## ranges of wide ints -/
theorem turn_wide {P : Program} {w : World} {K : PySem.W.Frag} {tg : Expr} (z : Addr) (lo : Int) (n : Nat) : Turn P w K tg (Itr lo n) [z] z (fun i h => IsLongIter h z (lo + (i : Nat) * 1) ((n : Int) - (i : Nat)) 1) := by
  refine ⟨List.mem_singleton.mpr rfl, fun i h st b hb => ?_, fun i h h2 st k => k z (List.mem_singleton.mpr rfl) _ st, ?_, ?_, fun A i s Q E st h => wpAny_pyIter_longiter st h⟩
  · rw [List.mem_singleton.mp hb]
    exact ⟨_, st, fun v c => by cases (show Data.fields _ = Data.cell v from c)⟩
  · rintro X rfl rfl rfl hc i pins s σ H E I hf st hg
    have f := hf z (List.mem_singleton.mpr rfl)
    refine (Walks.longrange (prog := X.prog) (w := X.w) (I.ok.hd hc) z lo 1 n).item i s _ _ hg st fun v h2 tk hv st2 kk => ?_
    obtain ⟨t, rfl⟩ := hv
    have J : Inv X pins σ H { s with heap := h2, toks := tk } := I.turned (fun b o hb e => kk b o (fun m => hb (List.mem_singleton.mp m)) e) f.1 f.2.1 f.2.2.2.1 f.2.2.2.2.1 f.2.2.2.2.2
    refine ⟨_, rfl, go_of (s := { s with heap := h2, toks := tk }) (n := "longrange_iterator") st2 rfl rfl (by decide) ⟨.int (lo + i), H, J, ⟨t, by rw [Int.mul_one]⟩, ⟨rfl, rfl⟩, st2, fun b hb => (hf b hb).1⟩⟩
  · rintro X rfl rfl rfl hc i pins s σ H E I hf st hg
    have f := hf z (List.mem_singleton.mpr rfl)
    have m : n ≤ i := hg
    exact wpAny_pyNext_long_end (I.ok.hd hc) st (by omega) fun h2 k => ⟨rfl, I.turned (t' := s.toks) (fun b o hb e => k b o hb e) f.1 f.2.1 f.2.2.2.1 f.2.2.2.2.1 f.2.2.2.2.2⟩
section
variable {X : Cx} {tg a b : Expr} {t : TA} {p pos : Pos}
theorem rsz (lo hi : Int) : Builtin.Range.rangeSize lo hi 1 = ((hi - lo).toNat : Int) := by
  rw [rangeSize_one]
  split <;> omega
theorem wide_it {pins : List (Addr × Obj)} {σ : L2.St} {H : Hp} {s : Shared} {R : It → Hp → Prop} {E : Value → Shared → Prop} {lo hi : Int} {t u v : Tok} {tk : Nat} (I : Inv X pins σ H s) (q : R (Itr lo (hi - lo).toNat) H) :
    wpAny (model X.prog X.w) X.A (pyIter (.ref s.heap.objs.size)) (PIE X pins σ tg R) E { s with heap := s.heap.push { cls := .type "range", data := .fields #[.int lo t, .int hi u, .int 1 v] }, toks := tk } := by
  have J : Inv X pins σ H { s with heap := s.heap.push { cls := .type "range", data := .fields #[.int lo t, .int hi u, .int 1 v] }, toks := tk } := I.kept fun b o e => Heap.get?_push_of_some _ e
  have z0 : lo + ((0 : Nat) : Int) * 1 = lo := by omega
  have z1 : (((hi - lo).toNat : Nat) : Int) - ((0 : Nat) : Int) = Builtin.Range.rangeSize lo hi 1 := by
    rw [rsz]
    omega
  by_cases sm : Builtin.Range.small lo hi 1 = true
  · refine wpAny_pyIter_range (IsRange.new ..) sm ⟨(s.heap.push { cls := .type "range", data := .fields #[.int lo t, .int hi u, .int 1 v] }).objs.size, [(s.heap.push { cls := .type "range", data := .fields #[.int lo t, .int hi u, .int 1 v] }).objs.size], _, _, H, rfl,
      J.kept (t' := tk) fun b o e => Heap.get?_push_of_some _ e, turn_range _ lo (hi - lo).toNat, ?_, fun b hb => ?_, q⟩
    · show IsRangeIter _ _ (lo + ((0 : Nat) : Int) * 1) ((((hi - lo).toNat : Nat) : Int) - ((0 : Nat) : Int)) 1
      rw [z0, z1]
      exact Heap.get?_push_size _ rfl
    · rw [List.mem_singleton.mp hb]
      exact J.fpOk (Nat.le_refl _) (J.hok.fresh (Nat.le_refl _))
  · refine wpAny_pyIter_longrange (IsRange.new ..) (Bool.not_eq_true _ ▸ sm) ⟨(s.heap.push { cls := .type "range", data := .fields #[.int lo t, .int hi u, .int 1 v] }).objs.size, [(s.heap.push { cls := .type "range", data := .fields #[.int lo t, .int hi u, .int 1 v] }).objs.size], _, _, H, rfl,
      J.kept (t' := tk) fun b o e => Heap.get?_push_of_some _ e, turn_wide _ lo (hi - lo).toNat, ?_, fun b hb => ?_, q⟩
    · show IsLongIter _ _ (lo + ((0 : Nat) : Int) * 1) ((((hi - lo).toNat : Nat) : Int) - ((0 : Nat) : Int)) 1
      rw [z0, z1]
      exact Heap.get?_push_size _ rfl
    · rw [List.mem_singleton.mp hb]
      exact J.fpOk (Nat.le_refl _) (J.hok.fresh (Nat.le_refl _))
def iRngW (t : TA) : TI := fun σ H R => t σ H fun vs H1 => ∃ i j : Int, vs = [.int i, .int j] ∧ R (Itr i (j - i).toNat) H1
theorem pi_range2W (hg : Gl X "range") (hm : X.mg "range" = none) (ha : PA X [a, b] t) (h1 : starEach [a, b] X.env = [(false, eval a X.env), (false, eval b X.env)] := by rfl) (h2 : starEach [b] X.env = [(false, eval b X.env)] := by rfl) :
    PI X tg (.Call (.Name "range" p) [a, b] [] pos) (iRngW t) := by
  refine ⟨fun pins s σ H R I h => Call_ (ld_blt I hg hm boot_range (PyProof.Rows.callWith_type1 (thn (ha.run pos pins s σ H _ I h) fun us s1 hx => ?_) (by rw [h1, h2]) (by rw [h2]; rfl)))⟩
  obtain ⟨vs, H1, J, r, i, j, rfl, q⟩ := hx
  obtain ⟨u, v, rfl, ⟨c, rfl⟩, ⟨d, rfl⟩⟩ : ∃ u v, us = [u, v] ∧ RelV (.int i) u ∧ RelV (.int j) v := by
    cases r with
    | cons r1 r => cases r with
      | cons r2 r => cases r; exact ⟨_, _, rfl, r1, r2⟩
  exact call_range_2 (wide_it J q)
end
/-! ## parts of a list -/
theorem cut_from (xs : List V) (k : Nat) : cutV xs (some (k : Int)) none = xs.drop k := by
  unfold cutV
  rw [HT.sIx_nat, HT.sIx_none]
  rcases Nat.le_total k xs.length with h | h
  · rw [Nat.min_eq_left h]
    exact List.take_of_length_le (by rw [List.length_drop]; omega)
  · rw [Nat.min_eq_right h, List.drop_eq_nil_of_le (Nat.le_refl _), List.drop_eq_nil_of_le h]
    simp
theorem cut_to (xs : List V) (k : Nat) : cutV xs none (some (k : Int)) = xs.take k := by
  unfold cutV
  rw [HT.sIx_nat, HT.sIx_none, List.drop_zero, Nat.sub_zero]
  rcases Nat.le_total k xs.length with h | h
  · rw [Nat.min_eq_left h]
  · rw [Nat.min_eq_right h, List.take_of_length_le (Nat.le_refl _), List.take_of_length_le h]
theorem cut_mid (xs : List V) (j k : Nat) : cutV xs (some (j : Int)) (some (k : Int)) = (xs.drop j).take (k - j) := by
  unfold cutV
  rw [HT.sIx_nat, HT.sIx_nat]
  rcases Nat.le_total j xs.length with h | h
  · rw [Nat.min_eq_left h]
    rcases Nat.le_total k xs.length with h2 | h2
    · rw [Nat.min_eq_left h2]
    · rw [Nat.min_eq_right h2, List.take_of_length_le (by rw [List.length_drop]; omega), List.take_of_length_le (by rw [List.length_drop]; omega)]
  · rw [Nat.min_eq_right h, List.drop_eq_nil_of_le (Nat.le_refl _), List.drop_eq_nil_of_le h]
    simp
theorem iv_drop (ns : List Int) (k : Nat) : (iv ns).drop k = iv (ns.drop k) := by simp
theorem iv_take (ns : List Int) (k : Nat) : (iv ns).take k = iv (ns.take k) := by simp
/-! ## a op b op c op d -/
def tChain3 (r r' r'' : R2) (ta tb tc td : TE) : TE := fun σ H Q => ta σ H fun x H1 => tb σ H1 fun y H2 => r x y H2 fun z H3 => ∃ k, z = .bl k ∧
  (if k = true then tc σ H3 fun v H4 => r' y v H4 fun z' H5 => ∃ k', z' = .bl k' ∧ (if k' = true then td σ H5 fun u H6 => r'' v u H6 Q else Q (.bl false) H5) else Q (.bl false) H3)
section
variable {X : Cx} {a b c d : Expr} {ta tb tc td : TE} {pos : Pos} {op op' op'' : CmpOp} {r r' r'' : R2}
theorem pt_chain3 (h1 : OpR X (compareOp op) r) (h2 : OpR X (compareOp op') r') (h3 : OpR X (compareOp op'') r'') (ha : PE X a ta) (hb : PE X b tb) (hc : PE X c tc) (hd : PE X d td)
    (hm : lastMarks [op, op', op''] [b, c, d] = false := by with_unfolding_all rfl) : PT X (.Compare a [op, op', op''] [b, c, d] pos) (tTest (tChain3 r r' r'' ta tb tc td)) := by
  refine ⟨fun pins s σ H Q I h => isTrue_chain (thn (ha.run pins s σ H _ I h) fun v s1 ⟨x, H1, I1, r1, q1⟩ => test_link (thn (hb.run pins s1 σ H1 _ I1 q1) fun u s2 ⟨y, H2, I2, r2, q2⟩ =>
    thn (h1 pins s2 σ H2 x y v u _ I2 r1 r2 q2) fun e s3 ⟨z, H3, I3, r3, k, ez, q3⟩ => ?_)) hm⟩
  subst ez
  cases r3
  refine wpAny_truthy_bool ?_
  cases k with
  | false =>
    obtain ⟨k2, e2, q2⟩ := q3
    cases e2
    exact ite_ff ⟨H3, I3, q2⟩
  | true =>
    refine ite_tt (test_link (thn (hc.run pins s3 σ H3 _ I3 q3) fun w4 s4 ⟨y4, H4, I4, r4, q4⟩ => thn (h2 pins s4 σ H4 y y4 u w4 _ I4 r2 r4 q4) fun e5 s5 ⟨z5, H5, I5, r5, k5, e5', q5⟩ => ?_))
    subst e5'
    cases r5
    refine wpAny_truthy_bool ?_
    cases k5 with
    | false =>
      obtain ⟨k2, e2, q2⟩ := q5
      cases e2
      exact ite_ff ⟨H5, I5, q2⟩
    | true =>
      refine ite_tt (test_last (thn (hd.run pins s5 σ H5 _ I5 q5) fun w6 s6 ⟨y6, H6, I6, r6, q6⟩ => thn (h3 pins s6 σ H6 y4 y6 w4 w6 _ I6 r4 r6 q6) fun e7 s7 ⟨z7, H7, I7, r7, k7, e7', q7⟩ => ?_))
      subst e7'
      cases r7
      exact wpAny_truthy_bool ⟨H7, I7, q7⟩
end
end Sq


/-! all origins of a length, and sums of their counts -/
namespace Sq
theorem sm_comm {a b : Int} {f : Int → Int → Int} (m : Nat) : ∀ n : Nat, sm a (fun x => sm b (f x) m) n = sm b (fun y => sm a (fun x => f x y) n) m
  | 0 => by
    symm
    exact sm_zero fun i _ => rfl
  | n + 1 => by
    show sm a _ n + sm b (f (a + n)) m = _
    rw [sm_comm m n, ← sm_add]
    rfl
/-- the count with the length 0 -/
def cnt0 (n : Int) (row : List Int) (last : Int) : Int := if 0 < n then cnt n row last else 1
theorem cnt0_sum {row : List Int} {last T : Int} (h : Two row) (h0 : 0 ≤ last) (T0 : 0 ≤ T) (hT : ∀ x, 1 ≤ x → x ≤ last → sqz x row ≤ T) : sm 0 (fun g => cnt0 g row last) (T.toNat + 1) = last + 1 := by
  have e1 := sm_split (lo := 0) (f := fun g => cnt0 g row last) 1 T.toNat
  rw [Nat.add_comm 1] at e1
  rw [e1]
  have e2 : sm 0 (fun g => cnt0 g row last) 1 = 1 := by
    show 0 + cnt0 (0 + ((0 : Nat) : Int)) row last = 1
    rfl
  have e3 : sm (0 + ((1 : Nat) : Int)) (fun g => cnt0 g row last) T.toNat = sm 1 (fun g => sm 1 (fun x => hit g row x) last.toNat) T.toNat := by
    refine sm_congr fun i hi => ?_
    show cnt0 _ row last = cnt _ row last
    unfold cnt0
    rw [if_pos (by omega)]
  have e4 : sm 1 (fun x => sm 1 (fun g => hit g row x) T.toNat) last.toNat = (last.toNat : Int) := by
    refine sm_one fun i hi => ?_
    have a := sqz_pos (n := 1 + (i : Int)) (by omega) h
    have b := hT (1 + (i : Int)) (by omega) (by omega)
    have c : sm 1 (fun g => hit g row (1 + (i : Int))) T.toNat = sm 1 (fun t => if t = sqz (1 + (i : Int)) row then (fun _ => (1 : Int)) t else 0) T.toNat := sm_congr fun j _ => by
      show (if sqz (1 + (i : Int)) row = 1 + (j : Int) then (1 : Int) else 0) = if 1 + (j : Int) = sqz (1 + (i : Int)) row then 1 else 0
      by_cases z : sqz (1 + (i : Int)) row = 1 + (j : Int)
      · rw [if_pos z, if_pos z.symm]
      · rw [if_neg z, if_neg fun z2 => z z2.symm]
    show sm 1 (fun g => hit g row (1 + (i : Int))) T.toNat = 1
    rw [c, sm_ind, if_pos (by omega)]
  rw [e2, e3, sm_comm, e4]
  omega
theorem cnt0_next {g : Int} {row : List Int} {last : Int} (h0 : 0 ≤ last) (hn : sqz (last + 1) row ≠ g) : cnt0 g row (last + 1) = cnt0 g row last := by
  unfold cnt0
  split
  · rw [cnt_step (by omega), show last + 1 - 1 = last by omega]
    unfold hit
    rw [if_neg hn, Int.add_zero]
  · rfl
theorem slack_sum : ∀ {ns : List Int}, slack ns ≤ ns.sum
  | [] => by decide
  | k :: r => by
    have := slack_sum (ns := r)
    rw [slack_cons, List.sum_cons]
    omega
theorem sqz_top {row : List Int} {x last : Int} (h : Two row) (h0 : 0 ≤ x) (hl : x ≤ last) : sqz x row ≤ last / prodL row + row.sum := by
  have a := sqz_up h0 h
  have p := prodL_pos h
  have b : prodL row * (sqz x row - slack row) ≤ last := by
    rw [Int.mul_sub]
    omega
  rw [Int.mul_comm] at b
  have c := Int.le_ediv_of_mul_le (by omega) b
  have := slack_sum (ns := row)
  omega
/-! ### all origins -/
def orig (goal : Int) (row : List Int) : List Int := row.foldr (fun k acc => acc.flatMap fun m => befores m k) [goal]
theorem orig_cons (goal k : Int) (r : List Int) : orig goal (k :: r) = (orig goal r).flatMap fun m => befores m k := rfl
theorem mem_befores {m k x : Int} (hk : 2 ≤ k) (hm : 0 ≤ m) (h : x ∈ befores m k) : once x k = m ∧ 0 ≤ x ∧ x ≤ m * k := by
  unfold befores at h
  obtain ⟨t, ht, rfl⟩ := List.mem_map.mp h
  have ht := List.mem_range.mp ht
  have e : m * k - (0 + (t : Int)) * (k - 1) = (m - t) * k + t := by
    rw [Int.zero_add, Int.sub_mul, Int.mul_sub, Int.mul_one]
    omega
  have t0 : (0 : Int) ≤ (0 + (t : Int)) * (k - 1) := Int.mul_nonneg (by omega) (by omega)
  refine ⟨?_, ?_, by omega⟩
  · rw [e, once_qr (by omega) (by omega)]
    omega
  · rw [e]
    have := Int.mul_nonneg (show (0 : Int) ≤ m - t by omega) (show (0 : Int) ≤ k by omega)
    omega
theorem mem_orig {goal : Int} (h0 : 0 ≤ goal) : ∀ {row : List Int}, Two row → ∀ x ∈ orig goal row, sqz x row = goal ∧ 0 ≤ x ∧ x ≤ goal * prodL row
  | [], _, x, hx => by
    rw [List.mem_singleton.mp hx]
    exact ⟨rfl, h0, by simp [prodL]⟩
  | k :: r, h, x, hx => by
    have t : Two r := fun j hj => h j (List.mem_cons_of_mem _ hj)
    have hk := h k (List.mem_cons_self ..)
    rw [orig_cons] at hx
    obtain ⟨m, hm, hx⟩ := List.mem_flatMap.mp hx
    obtain ⟨a, b, c⟩ := mem_orig h0 t m hm
    obtain ⟨d, e, f⟩ := mem_befores hk b hx
    refine ⟨by rw [sqz_cons, d, a], e, Int.le_trans f ?_⟩
    rw [prodL_cons, Int.mul_comm k, ← Int.mul_assoc]
    exact Int.mul_le_mul_of_nonneg_right c (by omega)
theorem befores_le {m k : Int} (hk : 2 ≤ k) : ((befores m k).length : Int) ≤ k := by
  unfold befores
  rw [List.length_map, List.length_range]
  omega
theorem len_flat {k : Int} (hk : 2 ≤ k) : ∀ l : List Int, ((l.flatMap fun m => befores m k).length : Int) ≤ l.length * k
  | [] => by simp
  | a :: l => by
    have i := len_flat hk l
    have b := befores_le (m := a) hk
    rw [List.flatMap_cons, List.length_append, List.length_cons]
    have : (((l.length + 1 : Nat) : Int)) * k = l.length * k + k := by
      rw [Int.natCast_add, Int.add_mul]
      simp
    rw [this]
    omega
theorem len_orig {goal : Int} : ∀ {row : List Int}, Two row → ((orig goal row).length : Int) ≤ prodL row
  | [], _ => by simp [orig, prodL]
  | k :: r, h => by
    have t : Two r := fun j hj => h j (List.mem_cons_of_mem _ hj)
    have hk := h k (List.mem_cons_self ..)
    have i := len_orig (goal := goal) t
    have a := len_flat hk (orig goal r)
    rw [orig_cons, prodL_cons, Int.mul_comm k]
    exact Int.le_trans a (Int.mul_le_mul_of_nonneg_right i (by omega))
/-- the sum of f over a list -/
def sf (f : Int → Int) (l : List Int) : Int := (l.map f).sum
theorem sf_cons (f : Int → Int) (a : Int) (l : List Int) : sf f (a :: l) = f a + sf f l := by
  unfold sf
  rw [List.map_cons, List.sum_cons]
theorem sf_app (f : Int → Int) (a b : List Int) : sf f (a ++ b) = sf f a + sf f b := by
  unfold sf
  rw [List.map_append, List.sum_append]
theorem sf_flat (f : Int → Int) (g : Int → List Int) : ∀ l : List Int, sf f (l.flatMap g) = sf (fun m => sf f (g m)) l
  | [] => rfl
  | a :: l => by rw [List.flatMap_cons, sf_app, sf_flat f g l, sf_cons]
theorem sf_one : ∀ l : List Int, sf (fun _ => 1) l = l.length
  | [] => rfl
  | a :: l => by
    rw [sf_cons, sf_one l, List.length_cons]
    omega
theorem sf_range (f g : Int → Int) : ∀ n : Nat, sf f ((List.range n).map fun (t : Nat) => g (0 + (t : Int))) = sm 0 (fun t => f (g t)) n
  | 0 => rfl
  | n + 1 => by
    rw [List.range_succ, List.map_append, sf_app, sf_range f g n]
    show _ + sf f [g (0 + (n : Int))] = sm 0 _ n + f (g (0 + n))
    rw [sf_cons]
    simp [sf]
theorem sf_befores {m k : Int} (hk : 2 ≤ k) (hm : 1 ≤ m) (f : Int → Int) {B : Nat} (hB : m * k ≤ B) : sf f (befores m k) = sm 1 (fun x => if once x k = m then f x else 0) B := by
  unfold befores
  rw [sf_range f fun t => m * k - t * (k - 1)]
  have e1 : sm 0 (fun t => f (m * k - t * (k - 1))) (min (k - 1) m + 1).toNat = sm 0 (fun t => sm 1 (fun x => if x = m * k - t * (k - 1) then f x else 0) B) (min (k - 1) m + 1).toNat := sm_congr fun i hi => by
    have e : m * k - (0 + (i : Int)) * (k - 1) = (m - i) * k + i := by
      rw [Int.zero_add, Int.sub_mul, Int.mul_sub, Int.mul_one]
      omega
    have t0 : (0 : Int) ≤ (0 + (i : Int)) * (k - 1) := Int.mul_nonneg (by omega) (by omega)
    have p : 1 ≤ m * k - (0 + (i : Int)) * (k - 1) := by
      rw [e]
      rcases Int.lt_or_le (i : Int) m with c | c
      · have := Int.mul_le_mul (show (1 : Int) ≤ m - i by omega) hk (by decide) (by omega)
        omega
      · have : m - (i : Int) = 0 := by omega
        rw [this]
        omega
    show f _ = sm 1 (fun x => if x = m * k - (0 + (i : Int)) * (k - 1) then f x else 0) B
    rw [sm_ind, if_pos ⟨p, by omega⟩]
  rw [e1, sm_comm]
  refine sm_congr fun i hi => ?_
  show sm 0 (fun t => if 1 + (i : Int) = m * k - t * (k - 1) then f (1 + i) else 0) _ = if once (1 + (i : Int)) k = m then f (1 + i) else 0
  generalize hx : 1 + (i : Int) = x
  have x1 : 1 ≤ x := by omega
  by_cases c : once x k = m
  · rw [if_pos c]
    have e2 : sm 0 (fun t => if x = m * k - t * (k - 1) then f x else 0) (min (k - 1) m + 1).toNat = sm 0 (fun t => if t = x % k then (fun _ => f x) t else 0) (min (k - 1) m + 1).toNat := sm_congr fun j hj => by
      have z := pre_is (t := 0 + (j : Int)) hk x1 (by omega) (by omega) (m := m) (by omega)
      show (if x = m * k - (0 + (j : Int)) * (k - 1) then f x else 0) = if 0 + (j : Int) = x % k then f x else 0
      by_cases y : 0 + (j : Int) = x % k
      · rw [if_pos y, if_pos (z.mpr ⟨y, c⟩).symm]
      · rw [if_neg y, if_neg fun y2 => y (z.mp y2.symm).1]
    have r0 := Int.emod_nonneg x (show k ≠ 0 by omega)
    have r1 := Int.emod_lt_of_pos x (show 0 < k by omega)
    have r2 := Int.ediv_nonneg (show 0 ≤ x by omega) (show 0 ≤ k by omega)
    have r3 : x % k ≤ m := by
      unfold once at c
      omega
    rw [e2, sm_ind, if_pos (by omega)]
  · rw [if_neg c]
    refine sm_zero fun j hj => ?_
    have z := pre_is (t := 0 + (j : Int)) hk x1 (by omega) (by omega) (m := m) (by omega)
    show (if x = m * k - (0 + (j : Int)) * (k - 1) then f x else 0) = 0
    rw [if_neg fun y2 => c (z.mp y2.symm).2]
theorem sf_orig {goal : Int} (hg : 1 ≤ goal) : ∀ {row : List Int}, Two row → ∀ (f : Int → Int) (B : Nat), goal * prodL row ≤ B → sf f (orig goal row) = sm 1 (fun x => hit goal row x * f x) B
  | [], _, f, B, hB => by
    have e : sm 1 (fun x => hit goal [] x * f x) B = sm 1 (fun x => if x = goal then f x else 0) B := sm_congr fun i _ => by
      show (if 1 + (i : Int) = goal then (1 : Int) else 0) * f _ = _
      split
      · exact Int.one_mul _
      · exact Int.zero_mul _
    have hB : goal ≤ B := by simpa [prodL] using hB
    rw [e, sm_ind, if_pos (by omega)]
    show sf f [goal] = _
    rw [sf_cons]
    simp [sf]
  | k :: r, h, f, B, hB => by
    have t : Two r := fun j hj => h j (List.mem_cons_of_mem _ hj)
    have hk := h k (List.mem_cons_self ..)
    have p := prodL_pos t
    have gp : 1 ≤ goal * prodL r := Int.mul_pos (by omega) (by omega)
    have eB : goal * prodL (k :: r) = goal * prodL r * k := by rw [prodL_cons, Int.mul_comm k, ← Int.mul_assoc]
    rw [eB] at hB
    have ih := sf_orig hg t (fun m => sf f (befores m k)) (goal * prodL r).toNat (by omega)
    rw [orig_cons, sf_flat, ih]
    have e1 : sm 1 (fun x => hit goal r x * sf f (befores x k)) (goal * prodL r).toNat = sm 1 (fun m => sm 1 (fun x => hit goal r m * (if once x k = m then f x else 0)) B) (goal * prodL r).toNat := sm_congr fun i hi => by
      show hit goal r _ * sf f (befores (1 + (i : Int)) k) = sm 1 (fun x => hit goal r (1 + (i : Int)) * _) B
      rw [sm_mul (f := fun x => if once x k = 1 + (i : Int) then f x else 0), sf_befores hk (by omega) f (B := B)]
      refine Int.le_trans (Int.mul_le_mul_of_nonneg_right (show 1 + (i : Int) ≤ goal * prodL r by omega) (by omega)) hB
    rw [e1, sm_comm]
    refine sm_congr fun i hi => ?_
    show sm 1 (fun m => hit goal r m * (if once (1 + (i : Int)) k = m then f (1 + i) else 0)) _ = hit goal (k :: r) (1 + (i : Int)) * f (1 + i)
    generalize hx : 1 + (i : Int) = x
    have x1 : 1 ≤ x := by omega
    have o1 := once_pos x1 hk
    have e2 : sm 1 (fun m => hit goal r m * (if once x k = m then f x else 0)) (goal * prodL r).toNat = sm 1 (fun m => if m = once x k then (fun m => hit goal r m * f x) m else 0) (goal * prodL r).toNat := sm_congr fun j _ => by
      show hit goal r (1 + (j : Int)) * (if once x k = 1 + (j : Int) then f x else 0) = if 1 + (j : Int) = once x k then hit goal r (1 + (j : Int)) * f x else 0
      by_cases y : 1 + (j : Int) = once x k
      · rw [if_pos y, if_pos y.symm]
      · rw [if_neg y, if_neg fun y2 => y y2.symm, Int.mul_zero]
    rw [e2, sm_ind]
    show _ = hit goal r (once x k) * f x
    by_cases c : once x k ≤ goal * prodL r
    · rw [if_pos (by omega)]
    · rw [if_neg (by omega), hit_far t (by omega) (by omega), Int.zero_mul]
theorem orig_zero : ∀ {row : List Int}, Two row → orig 0 row = [0]
  | [], _ => rfl
  | k :: r, h => by
    have t : Two r := fun j hj => h j (List.mem_cons_of_mem _ hj)
    have hk := h k (List.mem_cons_self ..)
    rw [orig_cons, orig_zero t]
    show befores 0 k ++ [] = [0]
    unfold befores
    rw [show (min (k - 1) 0 + 1).toNat = 1 by omega]
    simp
/-- as many as are counted -/
theorem orig_len {goal : Int} {row : List Int} (h0 : 0 ≤ goal) (h : Two row) : ((orig goal row).length : Int) = cnt0 goal row (goal * prodL row) := by
  unfold cnt0
  split
  · rename_i g
    have p := prodL_pos h
    have gp : 1 ≤ goal * prodL row := Int.mul_pos (by omega) (by omega)
    rw [← sf_one, sf_orig (by omega) h (fun _ => 1) (goal * prodL row).toNat (by omega)]
    unfold cnt
    exact sm_congr fun i _ => Int.mul_one _
  · rename_i g
    rw [show goal = 0 by omega, orig_zero h]
    rfl
end Sq


set_option Elab.async false
set_option maxRecDepth 100000
set_option maxHeartbeats 4000000
namespace Sq
open PySem PySem.Spec PyProof.Rows L2
/-! ## an own exception's __init__(self, value): super().__init__(text); self.value = value -/
section
open PySem.W PySem.Calls
variable {prog : Program} {w : World} {A : Around} {E : Value → Shared → Prop} {h : Heap} {g : Array GenState} {d : Drawn} {t : Nat} {os : OsState}
variable {nm q : Str} {C N : Addr} {bs bm : List Value} {hdct : Bool} {sn : List Str} {sub : List Value} {ab : Bool} {col : Option Bool} {dd : Option Addr} {k0 k1 k2 k3 k5 : Option Value}
/-- ValueError.__init__, bound to e, called -/
theorem call_vw {u e t0 : Addr} {rest : List Value} {Q : Value → Shared → Prop}
    (hC : h.get? C = some (excClassObj nm q C N bs bm hdct sn sub ab col dd k0 k1 k2 k3 k5 "ValueError.__new__")) (he : h.get? e = some (HandSPX.excO C t0)) (hu : h.get? u = some (kxs_mw "ValueError.__init__" e)) (hrest : rest.length ≤ sizeLine)
    (hq : ∀ h' t1, (∀ b o, b ≠ e → h.get? b = some o → h'.get? b = some o) → h'.get? e = some (HandSPX.excO C t1) → Q .none ⟨h', g, d, t, os⟩) :
    wpAny (model prog w) A (call (.ref u) rest) Q E ⟨h, g, d, t, os⟩ := by
  refine wpAny_call (codeAny_of_tree ?_)
  show wpAny _ A.in1 (callAny (.ref u) ⟨rest, []⟩) _ _ _
  simp only [callAny]
  refine wpAny_bind (wpAny_load hu ?_)
  simp only [kxs_mw, show (Value.type "method-wrapper" == Value.type "method" || Value.type "method-wrapper" == Value.type "builtin_function_or_method" || Value.type "method-wrapper" == Value.type "method-wrapper") = true by decide, if_true]
  refine W.KFB.if_so (by decide) ?_
  refine wpAny_bind (check_bound_init F.excBase_ValueError.toExcCallFacts hC he rfl ?_)
  refine wpAny_bind (wpAny_pure (wpAny_pure ⟨Code.quiet_builtin _ (by decide +kernel), codeAny_builtin F.excBase_ValueError.initEntry ?_⟩))
  exact exc_init_tree (cls := .ref C) (t0 := t0) (dv := none) (c2 := .none) (c3 := .none) (b4 := .bool false) he hrest fun h' k e' _ => hq h' h.objs.size k e'
end

def spXI (C : Addr) : Sp := fun vs H Q _ => ∃ (a : Addr) (v : V), vs = [.ref a, v] ∧ H a = some (exo a C none) ∧ ∀ dx, H dx = none → dx ≠ a → Q .non (upd (upd H dx (exd dx [("value", v)])) a (exo a C (some dx)))
/-- what the written part says of such an __init__ -/
structure XIn (P : Program) (K : PySem.W.Frag) (C f cc cda : Addr) (qual file : Str) : Prop where
  code : PySem.W.codeIn K (.ref cda) qual = true
  cell : ∃ cl cld csl, K.lookup cc = some ⟨cl, cld, .cell (some (.ref C)), csl⟩
  rec_ : ∃ ccl cdd vs ccs tf, K.lookup cda = some ⟨ccl, cdd, .fields vs, ccs⟩ ∧ vs[2]? = some (.str file tf)
  file : ((P.main.file : Str) == file) = true
  top : (P.main.scope.names.lookup ("super" : Str)).isSome = false
  opq : PySem.W.nsIn K PySem.cStatics "thirdparty.any" = some none
  sup : PySem.W.ks_superIn K C C "__init__" = some (some (.builtin "ValueError.__init__"))
  veb : PySem.W.subIn K (.ref C) (.type "ValueError") = some true
  self : PySem.W.mroIn K C (.ref C) = some true
  val : PySem.W.findIn K (.ref C) "value" = some none
abbrev xiScope : Scope := ⟨.function, [("self", .local), ("value", .local), ("__class__", .free), ("super", .globalImplicit)], false, false, []⟩
abbrev xiArgs (q0 q1 : Pos) : Arguments := { posonlyargs := [], args := [{ arg := "self", annotation := none, pos := q0 }, { arg := "value", annotation := none, pos := q1 }], vararg := none, kwonlyargs := [], kw_defaults := [], kwarg := none, defaults := [] }
abbrev xiBody (m : Str) (p0 p1 p2 p3 p4 p5 p6 p7 p8 p9 : Pos) : List Stmt := [.Expr (.Call (.Attribute (.Call (.Name "super" p0) [] [] p1) "__init__" p2) [.Constant (.str m) 0 p3] [] p4) p5, .Assign [.Attribute (.Name "self" p6) "value" p7] (.Name "value" p8) p9]
theorem xi_S : NdefX.NScope ["self", "value", "__class__"] ["self", "value"] ["__class__"] xiScope := NdefX.nscope_by (by decide +kernel)
/-- how the call of super().__init__ begins (by rfl, once the places are known) -/
def XiCall (qual : Str) (f cc cda : Addr) (m : Str) (p0 p1 p2 p3 p4 : Pos) : Prop := ∀ L : Addr, eval (.Call (.Attribute (.Call (.Name "super" p0) [] [] p1) "__init__" p2) [.Constant (.str m) 0 p3] [] p4) (PySem.W.ksEnv qual xiScope L f (.ref cda) cc) = (do
  let ov ← attributeBase (.Call (.Name "super" p0) [] [] p1) "__init__" (PySem.W.ksEnv qual xiScope L f (.ref cda) cc) (eval (.Call (.Name "super" p0) [] [] p1) (PySem.W.ksEnv qual xiScope L f (.ref cda) cc))
  standAt p2.atName
  let (g, first) ← holding [ov] (getMethod ov "__init__" (do return (← importBound (.Call (.Name "super" p0) [] [] p1) (PySem.W.ksEnv qual xiScope L f (.ref cda) cc)).getD true))
  callWith p4 g first (backTo p4 (starEach [.Constant (.str m) 0 p3] (PySem.W.ksEnv qual xiScope L f (.ref cda) cc))) [])
theorem ok_xi {P : Program} {w : World} {K : PySem.W.Frag} {mg : Str → Option Value} {base : Heap} {CX : CXT} {k : Nat} {C f cc cda : Addr} {qual file : Str} {kV doc pm ct oc : Value} {an od : Option Addr} {osl : Array (Option Value)}
    {p0 p1 p2 p3 p4 p5 p6 p7 p8 p9 q0 q1 : Pos} {m : Str} (T : OexC K C) (XI : XIn P K C f cc cda qual file)
    (lk : K.lookup f = some ⟨oc, od, .func (PySem.W.ksFn "__init__" qual (xiArgs q0 q1) (xiBody m p0 p1 p2 p3 p4 p5 p6 p7 p8 p9) xiScope .none kV doc pm an (.ref cda) ct cc), osl⟩) (hms : mg "super" = none) (he : XiCall qual f cc cda m p0 p1 p2 p3 p4) :
    FnOk P w K mg base CX (k + 1) f (PySem.W.ksFn "__init__" qual (xiArgs q0 q1) (xiBody m p0 p1 p2 p3 p4 p5 p6 p7 p8 p9) xiScope .none kV doc pm an (.ref cda) ct cc) ["self", "value"] (spXI C) := by
  refine ⟨fun vs H Q E h => by obtain ⟨a, v, rfl, _⟩ := h; rfl, fun A outer s H args us vs Q E hr e0 hbind r hsp => ?_⟩
  obtain ⟨a, v, rfl, ha, hq⟩ := hsp
  have KX : K.In s.heap := e0.mod.kin.keeps fun b o e => (e0.bs b o e).1
  have lim : s.heap.NoLimit := e0.mod.nolimit.keeps fun b o e => (e0.bs b o e).1
  obtain ⟨cl, cld, csl, hcell⟩ := XI.cell
  obtain ⟨ccl, cdd, cvs, ccs, tf, hcode, hvs⟩ := XI.rec_
  refine PySem.ks_codeAny_call_defAt (binds := (["self", "value"] : List Str).zip us) hr.depth (KX _ _ lk) rfl lim (PySem.W.codeRec_of KX XI.code) rfl hbind xi_S.nocell (fun ⟨n, _⟩ hy => xi_S.par n (List.of_mem_zip hy).1) (fun h1 hns kp => ?_) xi_S.co xi_S.gen xi_S.kind
  have S := xi_S
  let F : NdefX.NF := ⟨"__init__", qual, xiArgs q0 q1, xiBody m p0 p1 p2 p3 p4 p5 p6 p7 p8 p9, xiScope, [("__class__", cc)], cda⟩
  have cells : NdefX.CellsAt F.cl ["__class__"] [none] s.heap H := by
    have one : ∀ y c, F.cl.lookup y = some c → y = ("__class__" : Str) ∧ c = cc := fun y c e => by
      have e' : ([("__class__", cc)] : List (Str × Addr)).lookup y = some c := e
      by_cases z : y = ("__class__" : Str)
      · subst z
        simp [List.lookup] at e'
        exact ⟨rfl, e'.symm⟩
      · have z2 : (y == ("__class__" : Str)) = false := by simpa using z
        simp [List.lookup, z2] at e'
    refine ⟨rfl, fun y c e => ?_, fun x y c e1 e2 => ?_, fun i y e => ?_⟩
    · rw [(one y c e).2]
      exact ⟨(e0.bs _ _ (e0.mod.kin _ _ hcell)).2, _, ⟨_, KX _ _ hcell, rfl⟩⟩
    · rw [(one x c e1).1, (one y c e2).1]
    · cases i with
      | zero =>
        obtain rfl : ("__class__" : Str) = y := by simpa using e
        exact ⟨cc, by simp [F, List.lookup], fun v h => by simp at h⟩
      | succ i => simp at e
  have I : Inv (NdefX.ncx CX P w K mg base ["self", "value", "__class__"] F f A outer s H E) [] (NdefX.startF ["self", "value", "__class__"] [.ref a, v] [none]) H { s with heap := h1, toks := s.toks + ((["self", "value"] : List Str).zip us).length } :=
    NdefX.inv_startN (F := F) S hr.hd e0 rfl r cells hns kp
  have K1 : K.In h1 := KX.keeps kp
  show PySem.wpAt (model P w) (A.deeper (PySem.W.ksEnv qual xiScope s.heap.objs.size f (.ref cda) cc)) (.func (xiBody m p0 p1 p2 p3 p4 p5 p6 p7 p8 p9) (PySem.W.ksEnv qual xiScope s.heap.objs.size f (.ref cda) cc)) (execs (xiBody m p0 p1 p2 p3 p4 p5 p6 p7 p8 p9) (PySem.W.ksEnv qual xiScope s.heap.objs.size f (.ref cda) cc)) _ _ _
  refine ks_wpAt_execs_cons (ks_wpAt_Expr_any (ks_wpAt_MethodCall ?_ (he _)))
  refine ks_wpAt_super_base (env := NdefX.envF F f s.heap.objs.size) rfl rfl (by decide) rfl (K1 _ _ lk) rfl rfl rfl (K1 _ _ hcode) rfl hvs XI.file XI.top ?_
  obtain ⟨nm, q, N, bs, bm, sn, sub, ab, col, dd, k0, k1, k2, k3, k5, hC, hbm⟩ := T.cls
  have hcl : PySem.W.clsIn K C = some { name := nm, bases := bs, mro := .ref C :: bm, ns := N, qualname := q, hasDict := true, slotNames := sn, subclasses := sub, abstract := ab, collection := col, hasDel := false } := by unfold PySem.W.clsIn; rw [hC] <;> rfl
  obtain ⟨mb, hb1, hb2⟩ := I.mod.blt
  obtain ⟨t1, hoe⟩ := exo_at I.hok ha
  have hself : (((["self", "value"] : List Str).zip us).reverse.lookup ("self" : Str)) = some (Value.ref a) := by
    cases r with
    | cons r1 r => cases r with
      | cons r2 r =>
        cases r
        obtain rfl := r1
        rfl
  refine PySem.W.ks_loadName_global rfl rfl (Calls.loadGlobal_builtin (I.mod.glob.keeps I.bk) hms (hb1.keeps I.bk) ((hb2 _ (by decide)).trans PyProof.Rows.Boot.«super») ⟨rfl, ?_⟩)
  refine wpAny_loadName_free rfl rfl rfl ⟨_, K1 _ _ hcell, rfl⟩ ?_
  refine wpAny_loadName_local rfl rfl hns hself ?_
  refine ks_wpAny_isType_cls (K1 _ _ hC) rfl ⟨rfl, ?_⟩
  refine ks_wpAny_call_super (K1 _ _ hC) rfl hoe rfl (fun c e => by cases e) (PySem.W.looks_mroIn K1 XI.self) (fun h2 e2 kp2 => ?_)
  have I2 := I.kept (t' := s.toks + ((["self", "value"] : List Str).zip us).length) kp2
  have K2 : K.In h2 := K1.keeps kp2
  obtain ⟨t2, hoe2⟩ := exo_at I2.hok ha
  have at2 : PySem.W.InstAt h2 a { cls := .ref C, dict := none, data := .fields #[.ref t2, .none, .none, .none, .bool false, .none] } C none := ⟨hoe2, rfl, rfl, trivial⟩
  have hsup : PySem.W.alongIn K "__init__" (((.ref C :: bm).dropWhile (· != Value.ref C)).drop 1) = some (some (.builtin "ValueError.__init__")) := by
    have z := XI.sup
    unfold PySem.W.ks_superIn at z
    rw [hcl] at z
    exact z
  refine PySem.W.kxs_getMethod PySem.W.kxs_ValueError e2 (PySem.W.looks_opaque K2 XI.opq) (l₀ := .ref C :: bm) ((PySem.W.looks_clsIn K2 hcl).andThen .now) rfl K2 hsup (at2.type.andThen (PySem.W.looks_subIn K2 XI.veb)) (PySem.W.ks_ne K2 at2 hcl) (by decide) ?_
  have I3 := I2.kept (h' := h2.push (PySem.W.kxs_mw "ValueError.__init__" a)) (t' := s.toks + ((["self", "value"] : List Str).zip us).length + 1) fun b o e => Heap.get?_push_of_some _ e
  refine PySem.W.kxs_callWith (i := "ValueError.__init__") (x := a) rfl (Calls.evalArgs_plain (Calls.spliced_cons (Calls.Constant_str (pos := p3) (k := 0) (Calls.spliced_nil ⟨Heap.get?_push_at rfl rfl, ?_⟩))))
  have I4 := I3.tok (s.toks + ((["self", "value"] : List Str).zip us).length + 1 + 1)
  obtain ⟨t4, hoe4⟩ := exo_at I4.hok ha
  refine call_vw (t0 := t4) (Heap.get?_push_of_some _ (K2 _ _ hC)) hoe4 (Heap.get?_push_at rfl rfl) (by simp [sizeLine_eq]) fun h5 t5 k5 e5 => ?_
  have J0 := I4.write (h' := h5) (t' := s.toks + ((["self", "value"] : List Str).zip us).length + 1 + 1) (x := a) (e := a) (o := exo a C none) (by rw [ha]; exact True.intro) (.inl rfl) k5 ⟨_, e5⟩ (exo_ok e5)
  have eu : upd H a (exo a C none) = H := by
    funext b
    by_cases hb : b = a
    · rw [hb, upd_same, ha]
    · rw [upd_ne hb]
  rw [eu] at J0
  show PySem.wpAt _ _ _ (execs [.Assign [.Attribute (.Name "self" p6) "value" p7] (.Name "value" p8) p9] _) _ _ _
  refine wpAt_of_wpAny ?_
  have pst : PSs (NdefX.ncx CX P w K mg base ["self", "value", "__class__"] F f A outer s H E) [.Assign [.Attribute (.Name "self" p6) "value" p7] (.Name "value" p8) p9] (tOst K "value" (tVar 0) (tVar 1)) := pss_one (ps_ost (pv 0) (pv 1) rfl)
  refine wpAny_mono (pst.run [] _ _ H { nx := fun _ H' => Q .non H', rt := Q } J0 ⟨v, rfl, .ref a, rfl, a, C, rfl, T, XI.val, .inl ⟨ha, fun dx n ne => hq dx n ne⟩⟩) (fun fl s' hs => ?_) fun e s' hs => hs
  cases fl with
  | ret u =>
    obtain ⟨v, σ', H', J, rv, q⟩ := hs
    exact ⟨v, H', J.os, J.bare, J.base, J.hok, rv, q⟩
  | next =>
    obtain ⟨σ', H', J, q⟩ := hs
    exact ⟨.non, H', J.os, J.bare, J.base, J.hok, rfl, q⟩
  | brk =>
    obtain ⟨_, _, _, q⟩ := hs
    exact False.elim q
  | cont =>
    obtain ⟨_, _, _, q⟩ := hs
    exact False.elim q
end Sq


set_option Elab.async false
set_option maxRecDepth 100000
set_option maxHeartbeats 4000000
namespace Sq
open PySem PySem.Spec PyProof.Rows L2
/-! ## an exception that has been caught and is kept -/
/-- at a: an exception of the class cls with the dict d, at rest -/
def Xo (a : Addr) (cls : Value) (d : Option Addr) : HO := .ext fun h => ∃ (oe : Obj) (vs : Array Value), h.get? a = some oe ∧ Zc cls d oe ∧ oe.data = .fields vs
theorem xo_ok {P : Program} {w : World} {H : Hp} {h : Heap} {a : Addr} {cls : Value} {d : Option Addr} {oe : Obj} {vs : Array Value} (e : h.get? a = some oe) (z : Zc cls d oe) (f : oe.data = .fields vs) : ObjOk P w H h a (Xo a cls d) :=
  ⟨⟨oe, vs, e, z, f⟩, ⟨_, e⟩, fun _ _ ⟨o2, v2, e2, z2, f2⟩ k => ⟨o2, v2, k _ e2, z2, f2⟩⟩
theorem xo_at {P : Program} {w : World} {H : Hp} {h : Heap} {a : Addr} {cls : Value} {d : Option Addr} (hok : HOk P w H h) (e : H a = some (Xo a cls d)) : ∃ (oe : Obj) (vs : Array Value), h.get? a = some oe ∧ Zc cls d oe ∧ oe.data = .fields vs := by
  have x : ObjOk P w H h a (.ext fun h => ∃ (oe : Obj) (vs : Array Value), h.get? a = some oe ∧ Zc cls d oe ∧ oe.data = .fields vs) := hok a _ e
  exact x.1
section
variable {X : Cx} {pins : List (Addr × Obj)} {σ : L2.St} {H : Hp} {s : Shared} {a : Addr} {cls : Value} {d : Option Addr} {oe : Obj} {vs : Array Value}
/-- an object that is younger than the entry and that nothing holds is kept from now on -/
theorem track (J : Inv X pins σ H s) (e : s.heap.get? a = some oe) (na : H a = none) (nL : a ≠ X.env.locals) (np : ∀ p ∈ X.pn ++ pins, p.1 ≠ a) (young : X.s_0.heap.get? a = none) (z : Zc cls d oe) (f : oe.data = .fields vs) : Inv X pins σ (upd H a (Xo a cls d)) s := by
  have old : ∀ {b : Addr} {o : Obj}, X.s_0.heap.get? b = some o → b ≠ a := fun {b o} q c => by
    rw [c, young] at q
    cases q
  have set : ∀ {b : Addr} {o : HO}, H b = some o → b ≠ a := fun {b o} q c => by
    rw [c, na] at q
    cases q
  refine ⟨J.ok, J.os, J.bare, ⟨J.base.keep, J.base.slot, fun b o q n x => ?_, J.base.there, fun b xs q => ?_, fun b o v q => ?_, fun b ps q => ?_⟩, J.loc, J.cell, ?_, fun y c q => ?_, fun p hp => ?_, fun b o q => ?_, J.len⟩
  · rw [upd_ne (old q)]
    exact J.base.free b o q n x
  · have z := J.base.tups b xs q
    rw [upd_ne (set z)]
    exact z
  · have z := J.base.frzs b o v q
    rw [upd_ne (set z)]
    exact z
  · obtain ⟨more, z⟩ := J.base.tbls b ps q
    exact ⟨more, by rw [upd_ne (set z)]; exact z⟩
  · rw [upd_ne (Ne.symm nL)]
    exact J.free
  · have nc : c ≠ a := fun h => by
      obtain ⟨w, o, e2, d2⟩ := J.cell y c q
      rw [h, e] at e2
      cases e2
      rw [f] at d2
      cases d2
    rw [upd_ne nc]
    exact J.freeC y c q
  · obtain ⟨e1, n1, r1⟩ := J.pin p hp
    exact ⟨e1, by rw [upd_ne (np p hp)]; exact n1, r1⟩
  · by_cases hb : b = a
    · subst hb
      rw [upd_same] at q
      cases q
      exact xo_ok e z f
    · rw [upd_ne hb] at q
      have own : ∀ c, H c = some (.own b) → c ≠ a := fun c hc h => by
        rw [h, na] at hc
        cases hc
      exact (J.hok b o q).stay (fun c v _ k => k) (fun c hc => by rw [upd_ne (own c hc)]; exact hc) fun c xs hc => by rw [upd_ne fun h => by rw [h, na] at hc; cases hc]; exact hc
end

/-- what is wished behind the suite of 'except x as n' -/
def keepD (D : Ends) (i : Nat) : Ends where
  nx := fun τ G => D.nx (τ.set i none) G
  rt := D.rt
  bk := fun τ G => D.bk (τ.set i none) G
  ct := fun τ G => D.ct (τ.set i none) G
def wKeep (K : PySem.W.Frag) (c : Value) (i : Nat) (ts : Addr → Value → Option Addr → TS) (Wout : WX) (D : Ends) : WX := fun cls d σ H => ∃ b, PySem.W.exmOne K cls c = some b ∧
  (b = true → ∀ a, H a = none → ts a cls d (keepD D i) (σ.set i (some (.ref a))) (upd H a (Xo a cls d))) ∧ (b = false → Wout cls d σ H)
/-- into the suite and out of it -/
theorem suite_in {X : Cx} {pins : List (Addr × Obj)} {σ : L2.St} {H : Hp} {s : Shared} {a : Addr} (I : Inv X pins σ H s) : Inv (X.suite a (X.pn ++ pins)) [] σ H s :=
  ⟨I.ok.suite _ _, I.os, I.bare, I.base, I.loc, I.cell, I.free, I.freeC, fun p hp => I.pin p (by rw [List.append_nil] at hp; exact hp), I.hok, I.len⟩
theorem suite_out {X : Cx} {pins : List (Addr × Obj)} {σ : L2.St} {H : Hp} {s : Shared} {a : Addr} (I : Inv (X.suite a (X.pn ++ pins)) [] σ H s) (ok : X.Ok) : Inv X pins σ H s :=
  ⟨ok, I.os, I.bare, I.base, I.loc, I.cell, I.free, I.freeC, fun p hp => I.pin p (by rw [List.append_nil]; exact hp), I.hok, I.len⟩
section
variable {X : Cx} {x n : Str} {c : Value} {i : Nat} {body rest : List Stmt} {st : Stmt} {np pos pos2 : Pos} {tb : WX → TS} {ts : Addr → Value → Option Addr → TS} {Wout : WX}
/-- as ps_try_as; the exception stays behind the suite -/
theorem ps_try_keep (hs : X.stack = X.env :: X.outer) (hf : X.env.frame = some X.env.locals) (hN : X.N.Nodup) (hi : X.N[i]? = some n) (hln : X.env.kindOf n = some .local) (hex : X.ex = []) (hc : Names X x c) (tk : Takes X Wout)
    (hb : ∀ (W : WX) (pn : List (Addr × Obj)) (xe : Value → Shared → Prop), Takes (X.tr pn xe) W → PassesOwn (model X.prog X.w) X.A X.env xe → PSs (X.tr pn xe) body (tb W))
    (hsu : ∀ (a : Addr) (cls : Value) (d : Option Addr) (pn : List (Addr × Obj)), PSs (X.suite a pn) (st :: rest) (ts a cls d)) :
    PS X (.Try body [.ExceptHandler (some (.Name x np)) (some n) (st :: rest) pos2] [] [] pos) (fun D σ H => tb (wKeep X.K c i ts Wout D) D σ H) := by
  refine ⟨fun pins s σ H D I h => wpAny_Try_except ?_⟩
  have ok := I.ok
  have hfr : X.A.frames = some (X.env :: X.outer) := by rw [ok.frames, hs]
  have hlc : Loc X.env.scope n := .inl hln
  have seen : ∀ {C : Heap} {h : Heap} {q : Addr} {o : Obj} {vs : Array Value}, h.FunFrames C (X.env :: X.outer) → h.get? q = some o → o.data = .fields vs → q ∉ frs (X.env :: X.outer) := fun {C h q o vs} ff e dd hm => by
    obtain ⟨_, o2, e2, nn⟩ := ff.mem hm
    rw [e] at e2
    cases e2
    exact nn _ dd
  refine wpAny_mono ((hb (wKeep X.K c i ts Wout D) (X.pn ++ pins) _ (fun u s2 air => ?_) PassesOwn.looking).run [] s σ H D (I.toTry _) h) (fun fl s2 q => ?_) fun _ _ z => z
  · obtain ⟨a, G, sI, pins2, τ, H2, cls, d, rfl, J2, nb, up, sky, na, os, ag, b, hb1, yes, no⟩ := air
    have J : Inv X pins τ H2 sI := J2.ofTry ok
    rw [hs] at sky
    refine Sky.land Zc.steady hfr hf sky fun h3 l3 up3 => ?_
    have J3 : Inv X pins τ H2 { s2 with heap := h3 } := J.landed nb l3.1 (up.trans up3) os ag
    obtain ⟨o3, v3, e3, z3, d3⟩ := l3.there
    have out := seen l3.2.2.1 e3 d3
    have nL : a ≠ X.env.locals := fun z => out (List.mem_filterMap.mpr ⟨X.env, List.mem_cons_self, by rw [hf, z]⟩)
    have nF : a ∉ X.fs := fun hm => by
      obtain ⟨e, he, q⟩ := List.mem_filterMap.mp hm
      exact out (List.mem_filterMap.mpr ⟨e, List.mem_cons_of_mem _ he, q⟩)
    have young : sI.heap.get? a = none := by
      cases q : sI.heap.get? a with
      | none => rfl
      | some o =>
        have z := nb a o q (by rw [hs]; exact out)
        rw [l3.2.1] at z
        cases z
    have young0 : X.s_0.heap.get? a = none := by
      cases q : X.s_0.heap.get? a with
      | none => rfl
      | some o =>
        obtain ⟨o2, z⟩ := J.base.there a o q (by rw [hex]; simp)
        rw [young] at z
        cases z
    have off : ∀ p ∈ X.pn ++ pins, p.1 ≠ a := fun p hp z => by
      have y := (J.pin p hp).1
      rw [z, young] at y
      cases y
    have S3 := J3.suite e3 d3 na nL nF
    have LT : PySem.W.Looks (model X.prog X.w) h3 (typeOf (.ref a)) cls := fun _ _ _ s k q => wpAny_typeOf_ref (k _ _ e3) (by rw [z3.1]; exact q)
    have LM := PySem.W.exm_one (M := model X.prog X.w) J3.kIn LT hb1
    have ask : ∀ {Q2 : Value → Shared → Prop} {E2 : Value → Shared → Prop}, Q2 c { s2 with heap := h3 } → wpAny (model X.prog X.w) (X.A.mark (some (.ref a))) (eval (.Name x np) X.env) Q2 E2 { s2 with heap := h3 } := fun {Q2 E2} q => by
      obtain ⟨hg, hdb, hm | ⟨hm, hv, hnn⟩⟩ := hc
      · exact ld_glob (X := X.suite a ((a, o3) :: (X.pn ++ pins))) S3 hg hm q hdb
      · exact ld_blt (X := X.suite a ((a, o3) :: (X.pn ++ pins))) S3 hg hm hv q hnn hdb
    refine wpAny_handleBy_cons (codeAny_handlers_test (ask (LM.here ?_))) (by intro q; cases q)
    cases b with
    | true =>
      refine codeAny_handlers_suite_as (HandSPX.lands_againZ l3 fun h4 l4 up4 => ?_)
      have J4 : Inv X pins τ H2 { s2 with heap := h4 } := J.landed nb l4.1 ((up.trans up3).trans up4) os ag
      obtain ⟨o4, v4, e4, z4, d4⟩ := l4.there
      have S4 : Inv (X.suite a (X.pn ++ pins)) [] τ (upd H2 a (Xo a cls d)) { s2 with heap := h4 } := suite_in (track J4 e4 na nL off young0 z4 d4)
      refine store_ok (X := X.suite a (X.pn ++ pins)) (v := .ref a) S4 hN hi hlc rfl (fun s5 S5 => ?_) (.inr hln)
      refine wpAny_mono ((hsu a cls d (X.pn ++ pins)).run [] s5 _ _ _ S5 (yes rfl a na)) (fun fl s6 hsp => ?_) fun _ _ z => z.elim
      have fin : ∀ {σ6 : L2.St} {H6 : Hp} {Q2 : Shared → Prop}, Inv (X.suite a (X.pn ++ pins)) [] σ6 H6 s6 → (∀ s7, Inv X pins (σ6.set i none) H6 s7 → Q2 s7) →
          wpAny (model X.prog X.w) X.A (do bindName X.env n .none; unbindBehindTheSuite X.env n pos2) (fun _ s7 => Q2 s7) X.xe s6 := fun {σ6 H6 Q2} S6 hq =>
        gone_ok (X := X.suite a (X.pn ++ pins)) S6 hN hi hln fun s7 S7 => hq s7 (suite_out S7 ok)
      cases fl with
      | next =>
        obtain ⟨σ6, H6, S6, q6⟩ := hsp
        exact fin S6 fun s7 J7 => ⟨_, _, J7, q6⟩
      | brk =>
        obtain ⟨σ6, H6, S6, q6⟩ := hsp
        exact fin S6 fun s7 J7 => ⟨_, _, J7, q6⟩
      | cont =>
        obtain ⟨σ6, H6, S6, q6⟩ := hsp
        exact fin S6 fun s7 J7 => ⟨_, _, J7, q6⟩
      | ret u =>
        obtain ⟨v6, σ6, H6, S6, r6, q6⟩ := hsp
        exact fin S6 fun s7 J7 => ⟨_, _, _, J7, r6, q6⟩
    | false =>
      refine wpAny_handleBy_nil ?_
      obtain ⟨_, _, _, oe, vs, T, _, _, he, _, hd, h1, _⟩ := id l3
      unfold PySem.passOn
      refine wpAny_bind (wpAny_field he hd h1 ?_)
      rw [if_neg (show ¬ ((Value.ref T == Value.none) = true) from by simp)]
      have go : wpAny (model X.prog X.w) X.A (setFlight (.ref a) X.env.frame) (fun _ s4 => wpAny (model X.prog X.w) X.A (throw (.ref a) : Sem Flow) (SP X pins D) X.xe s4) X.xe { s2 with heap := h3 } := by
        rw [hf]
        exact HandSPX.setFlight_upZ l3 fun h4 g4 up4 => wpAny_throw (tk _ _ ⟨a, G, sI, pins, τ, H2, cls, d, rfl, J, nb, (up.trans up3).trans up4, .inr (.inr (by rw [hs]; exact g4)), na, os, ag, no rfl⟩)
      first
        | exact wpAny_bind (wpAny_pure (wpAny_bind go))
        | exact wpAny_bind go
  · cases fl with
    | next =>
      obtain ⟨τ, H2, J, q⟩ := q
      exact wpAny_execs_nil ⟨τ, H2, J.ofTry ok, q⟩
    | brk =>
      obtain ⟨τ, H2, J, q⟩ := q
      exact ⟨τ, H2, J.ofTry ok, q⟩
    | cont =>
      obtain ⟨τ, H2, J, q⟩ := q
      exact ⟨τ, H2, J.ofTry ok, q⟩
    | ret u =>
      obtain ⟨v, τ, H2, J, r, q⟩ := q
      exact ⟨v, τ, H2, J.ofTry ok, r, q⟩
end

/-! ## a kept exception looked at -/
/-- at a: a kept exception of the own class C with the attributes fs -/
def Kept (H : Hp) (a C : Addr) (fs : List (Str × V)) : Prop := ∃ d, (H a = some (Xo a (.ref C) (some d)) ∧ H d = some (.xd fs)) ∨ (H a = some (exo a C (some d)) ∧ H d = some (exd d fs))
theorem kept_at {X : Cx} {pins : List (Addr × Obj)} {σ : L2.St} {H : Hp} {s : Shared} {a C : Addr} {fs : List (Str × V)} (I : Inv X pins σ H s) (k : Kept H a C fs) :
    ∃ (oe od : Obj) (d : Addr) (mA : Str → Option Value), PySem.W.InstAt s.heap a oe C (some od) ∧ s.heap.get? d = some od ∧ s.heap.Ns1 d mA ∧ ∀ f, RelO (fs.lookup f) (mA f) := by
  obtain ⟨d, ⟨h1, h2⟩ | ⟨h1, h2⟩⟩ := k
  · obtain ⟨oe, vs, e, z, f⟩ := xo_at I.hok h1
    have hx : ObjOk X.prog X.w H s.heap d (.xd fs) := I.hok d _ h2
    obtain ⟨mA, hns, hr⟩ := hx
    obtain ⟨od, ho, _⟩ := lookIn_ns hns
    exact ⟨oe, od, d, mA, ⟨e, z.1, by unfold PySem.W.notCls; rw [f] <;> rfl, by rw [z.2]; exact ho⟩, ho, hns, hr⟩
  · obtain ⟨t1, e⟩ := exo_at I.hok h1
    obtain ⟨mA, hns, hr⟩ := exd_at I.hok h2
    obtain ⟨od, ho, _⟩ := lookIn_ns hns
    exact ⟨_, od, d, mA, ⟨e, rfl, rfl, ho⟩, ho, hns, hr⟩
def rIsX (K : PySem.W.Frag) : List V → Hp → VK → Prop := fun xs H Q => ∃ (a C : Addr) (fs : List (Str × V)) (c : V) (cv : Value) (b : Bool), xs = [.ref a, c] ∧ Kept H a C fs ∧ ExcC K C ∧ ClsV c cv ∧ PySem.W.kitOne K (.ref C) cv = some b ∧ Q (.bl b) H
theorem call_isX {X : Cx} {K : PySem.W.Frag} (h : X.K = K := by rfl) : CallR X (.builtin "isinstance") (rIsX K) := by
  subst h
  intro pins s σ H xs us Q I r h
  obtain ⟨a, C, fs, c, cv, b, rfl, k, EC, hc, e, q⟩ := h
  obtain ⟨oe, od, d, mA, J, _⟩ := kept_at I k
  cases r with
  | @cons _ u0 _ ur rx rr =>
    cases rr with
    | @cons _ u1 _ _ rt rr =>
      cases rr
      cases rx
      have ec : u1 = cv := by
        cases hc <;> exact rt
      subst ec
      obtain ⟨cd, hcd, _⟩ := PySem.W.any_some EC.hd
      exact PySem.W.kia_one (PySem.W.kitx_exc (by rw [hcd]; rfl) EC.hg EC.hk EC.hs EC.ha EC.hn EC.ht EC.hm) I.kIn J e (fun z => nomatch z) fun tk => ⟨.bl b, H, I.kept (t' := tk) fun _ _ z => z, rfl, q⟩
def tXv (K : PySem.W.Frag) (te : TE) (f : Str) : TE := fun σ H Q => te σ H fun x H1 => ∃ (a C : Addr) (fs : List (Str × V)) (v : V), x = .ref a ∧ Kept H1 a C fs ∧ XfC K C ∧ PySem.W.findIn K (.ref C) f = some none ∧ fs.lookup f = some v ∧ Q v H1
theorem pe_xv {X : Cx} {K : PySem.W.Frag} {e : Expr} {te : TE} {f : Str} {pos : Pos} (he : PE X e te) (hb : attributeBase e f X.env (eval e X.env) = eval e X.env := by rfl) (h : X.K = K := by rfl) : PE X (.Attribute e f pos) (tXv K te f) := by
  subst h
  refine ⟨fun pins s σ H Q I h => attr_of hb (thn (he.run pins s σ H _ I h) fun u s1 hh => ?_)⟩
  obtain ⟨x, H1, I1, rx, a, C, fs, v, rfl, k, T, hno, l, q⟩ := hh
  obtain rfl : u = Value.ref a := rx
  obtain ⟨oe, od, d, mA, J, ho, hns, hr⟩ := kept_at I1 k
  obtain ⟨od2, ho2, hl⟩ := lookIn_ns hns
  rw [ho] at ho2
  cases ho2
  obtain ⟨u, hu, ru⟩ := RelO.some_of (v := v) (o := mA f) (by rw [← l]; exact hr f)
  exact HandSPX.exc_get I1.kIn J T.ga T.gg T.exC (PySem.W.findObj_own T.hdC hno rfl (by rw [hl, hu])) (handed_of ru) ⟨v, H1, I1.tok _, ru, q⟩
end Sq


set_option Elab.async false
set_option maxRecDepth 100000
set_option maxHeartbeats 4000000
namespace Sq
open PySem PySem.Spec PyProof.Rows L2
/-! ## raise C(e), C an own class with the __init__ of MExc -/
structure Rai (P : Program) (w : World) (K : PySem.W.Frag) (mg : Str → Option Value) (base : Heap) (k : Nat) (x : Str) (C : Addr) : Prop where
  ex : ∃ (f : Addr) (fd : FuncData), OexC K C ∧ PySem.W.findIn K (.ref C) "__init__" = some (some (.ref f)) ∧ PySem.W.typeIn K (.ref f) = some (.type "function") ∧ FnOk P w K mg base CX0 k f fd ["self", "value"] (spXI C) ∧ mg x = some (.ref C) ∧ L2.Binds K fd ["self", "value"] []
def tRx (W : WX) (C : Addr) (te : TE) : TS := fun _ σ H => te σ H fun v H1 => ∀ d, H1 d = none → W (.ref C) (some d) σ (upd H1 d (.xd [("value", v)]))
theorem heap_rx {H : Hp} {a d : Addr} {u z o : HO} (na : H a = none) (n : d ≠ a) : upd (del (upd (upd (upd H a u) d z) a o) a) d (.xd [("value", v)]) = upd H d (.xd [("value", v)]) := by
  funext b
  by_cases h1 : b = d
  · rw [h1, upd_same, upd_same]
  · rw [upd_ne h1, upd_ne h1]
    by_cases h2 : b = a
    · rw [h2, del_same, na]
    · rw [del_ne h2, upd_ne h2, upd_ne h1, upd_ne h2]
/-- a reading that may be weakened -/
def tWk (te : TE) : TE := fun σ H Q => ∃ R : VK, te σ H R ∧ ∀ v G, R v G → Q v G
theorem pe_wk {X : Cx} {e : Expr} {te : TE} (h : PE X e te) : PE X e (tWk te) := ⟨fun pins s σ H Q I ⟨R, q, k⟩ => wpAny_mono (h.run pins s σ H R I q) (fun u s1 ⟨x, G, J, r, z⟩ => ⟨x, G, J, r, k _ _ z⟩) fun _ _ z => z⟩
section
variable {X : Cx} {W : WX} {k j : Nat} {C : Addr} {x : Str} {p pos pos2 : Pos} {e : Expr} {te : TE}
theorem ps_rx (c : Rai X.prog X.w X.K X.mg X.base k x C) (hr : Room j X.A) (hk : k + 1 ≤ j) (hg : Gl X x) (tk : Takes X W) (ha : PE X e te) (hc : X.calm = true := by rfl)
    (hdb : (x == ("__debug__" : Str)) = false := by decide) (he : starEach [e] X.env = (false, eval e X.env) :: starEach [] X.env := by rfl) (hpl : (backTo pos (starEach [] X.env)).any (·.1) = false := by rfl) : PS X (.Raise (some (.Call (.Name x p) [e] [] pos)) none pos2) (tRx W C te) := by
  obtain ⟨f, fd, T, iC, tI, F, hm, b⟩ := c.ex
  have mk := pmk_oex (pos := pos) (p := p) T iC tI F (hr.mono hk) b .nil pass0 hg hm (pa_cons (pe_wk ha) pa_nil he) hdb he hpl
  have r := ps_raise (pos := pos2) hc tk mk
  refine ⟨fun pins s σ H D I h => r.run pins s σ H D I ⟨_, h, fun v G q => ⟨Nat.le_of_ble_eq_true rfl, fun a na => ⟨a, v, rfl, upd_same, fun dx nd ne => ?_⟩⟩⟩⟩
  have nd' : G dx = none := by
    rw [upd_ne ne] at nd
    exact nd
  refine ⟨rfl, dx, _, upd_same, by rw [upd_ne ne, upd_same], nd', ?_⟩
  rw [heap_rx na ne]
  exact q dx nd'
end

/-! ## defs that may raise -/
structure CalX (P : Program) (w : World) (K : PySem.W.Frag) (mg : Str → Option Value) (base : Heap) (k : Nat) (x : Str) (sp : Sp) : Prop where
  ex : ∃ (f : Addr) (fd : FuncData) (ps : List Str), FnOk P w K mg base (L2.CX P w) k f fd ps sp ∧ mg x = some (.ref f) ∧ PySem.W.keepIn K (.ref f) = true ∧ L2.Binds K fd ps []
section
variable {P : Program} {w : World} {K : PySem.W.Frag} {mg : Str → Option Value} {base : Heap}
theorem DefAt.calX {x : Str} {st : Stmt} {ps N : List Str} {k : Nat} {sp : Sp} (D : DefAt K mg x st ps) (S : FnScope N ps (defScope st)) (len : ∀ vs H Q E, sp vs H Q E → vs.length = ps.length)
    (hb : ∀ (f : Addr) (cdv : Value) (A : Around) (outer : List Env) (s : Shared) (H : Hp) (vs : List V) (Q : VK) (E : XK), Room k (A.deeper (envOfC x (defScope st) s.heap.objs.size f cdv)) → sp vs H Q E →
      (Takes (cxOf (L2.CX P w) P w K mg base N x (defScope st) f cdv A outer s H E) fun cls d _ G => E cls d G) →
      ∃ t, PSs (cxOf (L2.CX P w) P w K mg base N x (defScope st) f cdv A outer s H E) (defBody st) t ∧ t { nx := fun _ H' => Q .non H', rt := Q } (start N vs) H) : CalX P w K mg base (k + 1) x sp := by
  obtain ⟨f, fd, F, hm, b⟩ := D.ex
  exact ⟨f, fd, ps, F.okX S len fun cdv A outer s H vs Q E hr hsp => hb f cdv A outer s H vs Q E hr hsp (takes_of rfl rfl rfl rfl), hm, F.kp, b⟩
/-- where it raises nothing it is a plain def -/
theorem fn_calm {k : Nat} {f : Addr} {fd : FuncData} {ps : List Str} {sp sp' : Sp} (F : FnOk P w K mg base (L2.CX P w) k f fd ps sp) (h : ∀ vs H Q E, sp' vs H Q E → sp vs H Q E0) : FnOk P w K mg base CX0 k f fd ps sp' := by
  refine ⟨fun vs H Q E q => F.len _ _ _ _ (h _ _ _ _ q), fun A outer s H args us vs Q E hr e0 b r q => codeAny_mono (F.run A outer s H args us vs Q E0 hr e0 b r (h _ _ _ _ q)) fun res s' z => ?_⟩
  cases res with
  | ok fl => cases fl <;> exact z
  | error e =>
    obtain ⟨_, _, _, _, _, _, _, _, _, _, _, _, no⟩ := z
    exact no.elim
theorem CalX.calm {x : Str} {k : Nat} {sp sp' : Sp} (c : CalX P w K mg base k x sp) (h : ∀ vs H Q E, sp' vs H Q E → sp vs H Q E0) : Cal P w K mg base k x sp' [] := by
  obtain ⟨f, fd, ps, F, hm, kp, b⟩ := c.ex
  exact ⟨f, fd, ps, [], fn_calm F h, hm, kp, b, .nil⟩
theorem CalX.imp {x : Str} {k j : Nat} {sp sp' : Sp} (c : CalX P w K mg base k x sp) (hk : k ≤ j) (h : ∀ vs H Q E, sp' vs H Q E → sp vs H Q E) : CalX P w K mg base j x sp' := by
  obtain ⟨f, fd, ps, F, hm, kp, b⟩ := c.ex
  exact ⟨f, fd, ps, (F.mono hk).imp h, hm, kp, b⟩
end
section
variable {X : Cx} {W : WX} {k j : Nat} {x : Str} {sp : Sp} {p pos : Pos} {e : Expr} {es : List Expr} {t : TA}
/-- a call that may raise, where W is wished of what is raised -/
theorem pe_cx (c : CalX X.prog X.w X.K X.mg X.base k x sp) (hr : Room j X.A) (hk : k ≤ j) (tk : Takes X W) (hg : Gl X x) (ha : PA X (e :: es) t)
    (hdb : (x == ("__debug__" : Str)) = false := by decide) (he : starEach (e :: es) X.env = (false, eval e X.env) :: starEach es X.env := by rfl) (hpl : (backTo pos (starEach es X.env)).any (·.1) = false := by rfl) :
    PE X (.Call (.Name x p) (e :: es) [] pos) (tCallS sp (WE W) t) := by
  obtain ⟨f, fd, ps, F, hm, kp, b⟩ := c.ex
  exact pe_callS F (hr.mono hk) hg hm kp b (passAt tk) ha hdb he hpl
/-- a call of such a def that raises nothing -/
theorem pe_cx0 (c : CalX X.prog X.w X.K X.mg X.base k x sp) (hr : Room j X.A) (hk : k ≤ j) (hg : Gl X x) (ha : PA X (e :: es) t)
    (hdb : (x == ("__debug__" : Str)) = false := by decide) (he : starEach (e :: es) X.env = (false, eval e X.env) :: starEach es X.env := by rfl) (hpl : (backTo pos (starEach es X.env)).any (·.1) = false := by rfl) :
    PE X (.Call (.Name x p) (e :: es) [] pos) (tCall sp [] E0 t) := by
  obtain ⟨f, fd, ps, F, hm, kp, b⟩ := c.ex
  exact L2.pe_call F (hr.mono hk) hg hm kp b .nil passL ha hdb he hpl
end

/-! ## methods and new objects that may raise -/
structure MetX (P : Program) (w : World) (K : PySem.W.Frag) (mg : Str → Option Value) (base : Heap) (k : Nat) (C : Addr) (m : Str) (sp : Sp) : Prop where
  ex : ∃ (f : Addr) (fd : FuncData) (ps : List Str), Cls K C ∧ Meth K C m f ∧ FnOk P w K mg base (L2.CX P w) k f fd ps sp ∧ L2.Binds K fd ps []
structure MakX (P : Program) (w : World) (K : PySem.W.Frag) (mg : Str → Option Value) (base : Heap) (k : Nat) (x : Str) (C : Addr) (sp : Sp) : Prop where
  ex : ∃ (f : Addr) (fd : FuncData) (ps : List Str), Mk K C f ∧ FnOk P w K mg base (L2.CX P w) k f fd ps sp ∧ mg x = some (.ref C) ∧ L2.Binds K fd ps []
section
variable {P : Program} {w : World} {K : PySem.W.Frag} {mg : Str → Option Value} {base : Heap} {C : Addr} {m x qual : Str} {st : Stmt} {ps N : List Str} {k : Nat} {sp : Sp}
theorem MetAt.metX (D : MetAt K C m qual st ps) (cl : Cls K C) (S : FnScope N ps (defScope st)) (len : ∀ vs H Q E, sp vs H Q E → vs.length = ps.length)
    (hb : ∀ (f : Addr) (cdv : Value) (A : Around) (outer : List Env) (s : Shared) (H : Hp) (vs : List V) (Q : VK) (E : XK), Room k (A.deeper (envOfC qual (defScope st) s.heap.objs.size f cdv)) → sp vs H Q E →
      (Takes (cxOf (L2.CX P w) P w K mg base N qual (defScope st) f cdv A outer s H E) fun cls d _ G => E cls d G) →
      ∃ t, PSs (cxOf (L2.CX P w) P w K mg base N qual (defScope st) f cdv A outer s H E) (defBody st) t ∧ t { nx := fun _ H' => Q .non H', rt := Q } (start N vs) H) : MetX P w K mg base (k + 1) C m sp := by
  obtain ⟨f, fd, F, hm, b⟩ := D.ex
  exact ⟨f, fd, ps, cl, hm, F.okX S len fun cdv A outer s H vs Q E hr hsp => hb f cdv A outer s H vs Q E hr hsp (takes_of rfl rfl rfl rfl), b⟩
theorem IniAt.makX (D : IniAt K mg C x qual st ps) (S : FnScope N ps (defScope st)) (len : ∀ vs H Q E, sp vs H Q E → vs.length = ps.length)
    (hb : ∀ (f : Addr) (cdv : Value) (A : Around) (outer : List Env) (s : Shared) (H : Hp) (vs : List V) (Q : VK) (E : XK), Room k (A.deeper (envOfC qual (defScope st) s.heap.objs.size f cdv)) → sp vs H Q E →
      (Takes (cxOf (L2.CX P w) P w K mg base N qual (defScope st) f cdv A outer s H E) fun cls d _ G => E cls d G) →
      ∃ t, PSs (cxOf (L2.CX P w) P w K mg base N qual (defScope st) f cdv A outer s H E) (defBody st) t ∧ t { nx := fun _ H' => Q .non H', rt := Q } (start N vs) H) : MakX P w K mg base (k + 1) x C sp := by
  obtain ⟨f, fd, F, hm, hg, b⟩ := D.ex
  exact ⟨f, fd, ps, hm, F.okX S len fun cdv A outer s H vs Q E hr hsp => hb f cdv A outer s H vs Q E hr hsp (takes_of rfl rfl rfl rfl), hg, b⟩
end
theorem MetX.calm {P : Program} {w : World} {K : PySem.W.Frag} {mg : Str → Option Value} {base : Heap} {C : Addr} {m : Str} {k : Nat} {sp sp' : Sp} (c : MetX P w K mg base k C m sp) (h : ∀ vs H Q E, sp' vs H Q E → sp vs H Q E0) : Met P w K mg base k C m sp' := by
  obtain ⟨f, fd, ps, c1, c2, F, b⟩ := c.ex
  exact ⟨f, fd, ps, c1, c2, fn_calm F h, b⟩
theorem MakX.calm {P : Program} {w : World} {K : PySem.W.Frag} {mg : Str → Option Value} {base : Heap} {C : Addr} {x : Str} {k : Nat} {sp sp' : Sp} (c : MakX P w K mg base k x C sp) (h : ∀ vs H Q E, sp' vs H Q E → sp vs H Q E0) : Mak P w K mg base k x C sp' := by
  obtain ⟨f, fd, ps, M, F, hm, b⟩ := c.ex
  exact ⟨f, fd, ps, M, fn_calm F h, hm, b⟩
def tMethS (C : Addr) (m : Str) (sp : Sp) (E : L2.St → XK) (ta : TE) (t : TA) : TE := fun σ H Q => ta σ H fun x H1 => ∃ a dx fs, x = .ref a ∧ H1 a = some (.ins C dx fs) ∧ fs.lookup m = none ∧ t σ H1 fun vs H2 => sp (x :: vs) H2 Q (E σ)
def tMakeS (C : Addr) (sp : Sp) (E : L2.St → XK) (t : TA) : TE := fun σ H Q => t σ H fun vs H1 => ∀ x dx, H1 x = none → H1 dx = none → dx ≠ x →
  sp (.ref x :: vs) (upd (upd H1 dx (.own x)) x (.ins C dx [])) (fun v H2 => v = .non ∧ Q (.ref x) H2) (E σ)
section
variable {X : Cx} {W : WX} {k j : Nat} {C : Addr} {x m : Str} {sp : Sp} {p pos apos : Pos} {e o : Expr} {es : List Expr} {ta : TE} {t : TA}
theorem pe_mx {pl : Sem Bool} (c : MetX X.prog X.w X.K X.mg X.base k C m sp) (hr : Room j X.A) (hk : k ≤ j) (tk : Takes X W) (he : PE X o ta) (ha : PA X (e :: es) t)
    (ht : eval (.Call (.Attribute o m apos) (e :: es) [] pos) X.env = (do
      let ov ← eval o X.env
      standAt apos.atName
      let (f, first) ← holding [ov] (getMethod ov m pl)
      callWith pos f first (backTo pos (starEach (e :: es) X.env)) (backToKw pos (keywordEach [] X.env))) := by rfl)
    (hst : starEach (e :: es) X.env = (false, eval e X.env) :: starEach es X.env := by rfl) (hpl : (backTo pos (starEach es X.env)).any (·.1) = false := by rfl) : PE X (.Call (.Attribute o m apos) (e :: es) [] pos) (tMethS C m sp (WE W) ta t) := by
  obtain ⟨f, fd, ps, cl, hm, F, b⟩ := c.ex
  refine ⟨fun pins s σ H Q I h => PySem.W.methodCall_KW (pl := pl) (thn (he.run pins s σ H _ I h) fun u s1 hh => ?_) ht⟩
  obtain ⟨x, H1, I1, rx, a, dx, fs, rfl, ea, l, q⟩ := hh
  obtain rfl : u = Value.ref a := rx
  refine getmeth_ok I1 ea cl hm l (PySem.W.callWith_K (first := [.ref a]) (h₀ := X.base) I.ok.mod.kin hm.kp (thn (ha.run pos pins s1 σ H1 _ I1 q) fun us s2 hh => ?_) hst hpl)
  obtain ⟨vs, H2, I2, r, q2⟩ := hh
  exact ⟨I2.kIn, run_fnS (us := .ref a :: us) (vs := .ref a :: vs) F (hr.mono hk) b (passAt tk σ) I2 (.cons rfl r) q2⟩
theorem pe_mkx (c : MakX X.prog X.w X.K X.mg X.base k x C sp) (hr : Room j X.A) (hk : k + 1 ≤ j) (tk : Takes X W) (hg : Gl X x) (ha : PA X (e :: es) t)
    (hdb : (x == ("__debug__" : Str)) = false := by decide) (he : starEach (e :: es) X.env = (false, eval e X.env) :: starEach es X.env := by rfl) (hpl : (backTo pos (starEach es X.env)).any (·.1) = false := by rfl) :
    PE X (.Call (.Name x p) (e :: es) [] pos) (tMakeS C sp (WE W) t) := by
  obtain ⟨f, fd, ps, M, F, hm, b⟩ := c.ex
  refine ⟨fun pins s σ H Q I h => wpAny_Call_Name_kw (ld_glob I hg hm ?_ hdb)⟩
  refine PySem.W.callWith_K (h₀ := X.base) I.ok.mod.kin M.kp (thn (ha.run pos pins s σ H _ I h) fun us s1 hh => ?_) he hpl
  obtain ⟨vs, H1, I1, r, q⟩ := hh
  refine ⟨I1.kIn, ?_⟩
  have hq := q (s1.heap.objs.size + 1) s1.heap.objs.size (I1.hok.fresh (Nat.le_succ _)) (I1.hok.fresh (Nat.le_refl _)) (Nat.ne_of_lt (Nat.lt_succ_self _))
  have I2 := Inv.made (C := C) I1
  have r2 : Vals (V.ref (s1.heap.objs.size + 1) :: vs) (Value.ref (s1.heap.objs.size + 1) :: us) := .cons rfl r
  have ln : (Value.ref (s1.heap.objs.size + 1) :: us).length = ps.length := by
    rw [← r2.length]
    exact F.len _ _ _ _ hq
  have bb := b _ (Value.ref (s1.heap.objs.size + 1) :: us) I2.kIn (by rw [List.append_nil]; exact ln)
  rw [List.append_nil] at bb
  show wpAny _ _ (call (.ref C) us) _ _ _
  refine wpAny_call (make_map (f := f) I1.kIn M.makes M.init (beq_iff_eq.mp M.fn) (codeAny_mono (F.run _ X.stack _ _ ⟨Value.ref (s1.heap.objs.size + 1) :: us, []⟩ _ _ _ (WE W σ) ((hr.mono hk).make C us []) (I2.env0.make C us []) bb r2 hq) fun r s' hq2 => ?_))
  cases r with
  | error er => exact passAt tk σ pins _ _ er s' I2 hq2
  | ok fl =>
    cases fl with
    | ret u =>
      obtain ⟨v, H', I3, rv, ev, q3⟩ := I2.after hq2
      subst ev
      exact ⟨rv, ⟨V.ref (s1.heap.objs.size + 1), H', I3, rfl, q3⟩⟩
    | next => exact False.elim hq2
    | brk => exact False.elim hq2
    | cont => exact False.elim hq2
theorem pe_mx0 {pl : Sem Bool} (c : MetX X.prog X.w X.K X.mg X.base k C m sp) (hr : Room j X.A) (hk : k ≤ j) (he : PE X o ta) (ha : PA X (e :: es) t)
    (ht : eval (.Call (.Attribute o m apos) (e :: es) [] pos) X.env = (do
      let ov ← eval o X.env
      standAt apos.atName
      let (f, first) ← holding [ov] (getMethod ov m pl)
      callWith pos f first (backTo pos (starEach (e :: es) X.env)) (backToKw pos (keywordEach [] X.env))) := by rfl)
    (hst : starEach (e :: es) X.env = (false, eval e X.env) :: starEach es X.env := by rfl) (hpl : (backTo pos (starEach es X.env)).any (·.1) = false := by rfl) : PE X (.Call (.Attribute o m apos) (e :: es) [] pos) (tMeth C m sp [] E0 ta t) := by
  obtain ⟨f, fd, ps, c1, c2, F, b⟩ := c.ex
  exact L2.pe_meth (pl := pl) he c1 c2 F (hr.mono hk) b .nil passL ha hst hpl ht
theorem pe_mkx0 (c : MakX X.prog X.w X.K X.mg X.base k x C sp) (hr : Room j X.A) (hk : k + 1 ≤ j) (hg : Gl X x) (ha : PA X (e :: es) t)
    (hdb : (x == ("__debug__" : Str)) = false := by decide) (he : starEach (e :: es) X.env = (false, eval e X.env) :: starEach es X.env := by rfl) (hpl : (backTo pos (starEach es X.env)).any (·.1) = false := by rfl) :
    PE X (.Call (.Name x p) (e :: es) [] pos) (tMake C sp [] E0 t) := by
  obtain ⟨f, fd, ps, M, F, hm, b⟩ := c.ex
  exact L2.pe_make M F (hr.mono hk) hg hm b .nil passL ha hdb he hpl
end

/-! ## an exception class of the text, out of what the top has written -/
theorem rai_mk {P : Program} {w : World} {K : PySem.W.Frag} {h base : Heap} {mg : Str → Option Value} {x : Str} {C f cc cda N : Addr} {nm q qual m file : Str} {bs bm sub : List Value} {sn : List Str} {ab : Bool} {col : Option Bool} {dd cld cdd od an : Option Addr} {k0 k1 k2 k3 k5 : Option Value}
    {cl ccl oc kV doc pm ct : Value} {csl ccs osl : Array (Option Value)} {cvs : Array Value} {tf : Tok} {p0 p1 p2 p3 p4 p5 p6 p7 p8 p9 q0 q1 : Pos} (X : K.In h) (G : h.Ns mainGlobals mg) (hm : mg x = some (.ref C))
    (lC : K.lookup C = some (excClassObj nm q C N bs bm true sn sub ab col dd k0 k1 k2 k3 k5 "ValueError.__new__")) (rC : PySem.HandSPX.refsVE bm = true) (sa : PySem.W.findIn K (.ref C) "__setattr__" = some (some (.builtin "object.__setattr__")))
    (ex : PySem.W.subIn K (.ref C) (.type "BaseException") = some true) (ty : PySem.W.typeIn K (.ref C) = some (.type "type")) (kc : PySem.W.keepIn K (.ref C) = true)
    (ini : PySem.W.findIn K (.ref C) "__init__" = some (some (.ref f))) (tyf : PySem.W.typeIn K (.ref f) = some (.type "function"))
    (l : K.lookup f = some ⟨oc, od, .func (PySem.W.ksFn "__init__" qual (xiArgs q0 q1) (xiBody m p0 p1 p2 p3 p4 p5 p6 p7 p8 p9) xiScope .none kV doc pm an (.ref cda) ct cc), osl⟩)
    (co : PySem.W.codeIn K (.ref cda) qual = true) (cell : K.lookup cc = some ⟨cl, cld, .cell (some (.ref C)), csl⟩) (rec_ : K.lookup cda = some ⟨ccl, cdd, .fields cvs, ccs⟩) (v2 : cvs[2]? = some (.str file tf)) (fl : ((P.main.file : Str) == file) = true)
    (top : (P.main.scope.names.lookup ("super" : Str)).isSome = false) (opq : PySem.W.nsIn K PySem.cStatics "thirdparty.any" = some none) (sup : PySem.W.ks_superIn K C C "__init__" = some (some (.builtin "ValueError.__init__"))) (veb : PySem.W.subIn K (.ref C) (.type "ValueError") = some true)
    (slf : PySem.W.mroIn K C (.ref C) = some true) (val : PySem.W.findIn K (.ref C) "value" = some none) (ms : PySem.W.nsIn K mainGlobals "super" = some none) (he : XiCall qual f cc cda m p0 p1 p2 p3 p4)
    (hb : ∀ us : List Value, us.length = 2 → bindArgs (PySem.W.ksFn "__init__" qual (xiArgs q0 q1) (xiBody m p0 p1 p2 p3 p4 p5 p6 p7 p8 p9) xiScope .none kV doc pm an (.ref cda) ct cc) ⟨us, []⟩ = pure ((["self", "value"] : List Str).zip us)) : Rai P w K mg base 1 x C :=
  ⟨f, _, ⟨⟨nm, q, N, bs, bm, sn, sub, ab, col, dd, k0, k1, k2, k3, k5, lC, rC⟩, sa, ex, ty, kc⟩, ini, tyf,
    ok_xi ⟨⟨nm, q, N, bs, bm, sn, sub, ab, col, dd, k0, k1, k2, k3, k5, lC, rC⟩, sa, ex, ty, kc⟩ ⟨co, ⟨cl, cld, csl, cell⟩, ⟨ccl, cdd, cvs, ccs, tf, rec_, v2⟩, fl, top, opq, sup, veb, slf, val⟩ l (PySem.W.mg_none_of X G ms) he, hm, L2.Binds.all hb⟩
end Sq


set_option Elab.async false
set_option maxRecDepth 100000
set_option maxHeartbeats 2000000
/-! for in a generator's body; list(g(..)) -/
namespace Sq
open PySem PySem.Spec PyProof.Rows L2 GenW
section
variable {prog : Program} {w : World} {A : Around} {R : GenEnd} {Y : Protocol} {n : Nat} {s₀ : Shared} {c : Code} {fs : List Frame} {s : Shared} {env : Env}
  {K : Flow → Sem PySem.Fin} {H : Value → Sem PySem.Fin} {gd : Bool → Bool} {lv : List Value → List Value}
theorem seg_For {target iter : Expr} {body orelse : List Stmt} {pos : Pos}
    (h : wpAny (model prog w) (A.over c fs) (eval iter env) (fun x s₁ => wpAny (model prog w) (A.over c fs) (pyIter x) (fun it s₂ =>
      ∀ p, Seg (model prog w) A R Y n s₀ (.forLoop target it body orelse env) ((model prog w).den (.forLoop target it body orelse env))
        (.ret (fun r => ((match r with | .ok f => (.pure f : Sem Flow) | .error e => .raise e).onRaise (cameBack env)).wrap K H gd lv) none (gd false) (lv []) c p [] :: fs) s₂)
      (fun x s' => Seg (model prog w) A R Y n s₀ c (H x) fs s') s₁) (fun x s' => Seg (model prog w) A R Y n s₀ c (H x) fs s') s)
    (hs : ∀ x, foldedSetIterable iter env x = pure x := by intro _; rfl) :
    Seg (model prog w) A R Y n s₀ c ((exec (.For target iter body orelse pos) env).wrap K H gd lv) fs s := by
  rw [exec_For]
  refine seg_bind_wrap (wpAny_standAt (seg_bind_wrap (wpAny_mono h (fun x s₁ h₁ => ?_) fun _ _ z => z)))
  refine seg_bind_wrap (wpAny_of_eq (hs x) (seg_bind_wrap (wpAny_standAt (seg_bind_wrap (wpAny_holding (wpAny_mono h₁ (fun it s₂ h₂ => ?_) fun _ _ z => z))))))
  exact seg_call h₂
theorem seg_forLoop {target : Expr} {it : Value} {body : List Stmt}
    (h : wpAny (model prog w) (A.over (.forLoop target it body [] env) fs) (pyNext it) (fun r s₁ => match r with
      | none => Seg (model prog w) A R Y n s₀ (.block [] env) (.pure (.done .next)) fs s₁
      | some v => wpAny (model prog w) (A.over (.forLoop target it body [] env) fs) (letOwnedTupleGo target it v) (fun _ s₁' =>
          wpAny (model prog w) (A.over (.forLoop target it body [] env) fs) (assign target env v) (fun _ s₂ =>
            Seg (model prog w) A R Y n s₀ (.forLoop target it body [] env) ((execs body env).wrap (fun f => match f with
            | .next | .cont => .pure (.again (.forLoop target it body [] env))
            | .brk => .pure (.done .next)
            | .ret v => .pure (.done (.ret v))) (fun e => (do noteFrame e env; theTreesLotGoes e : Sem Unit).wrap (fun _ => .raise e) .raise id id) id id) fs s₂)
          (fun x s' => Seg (model prog w) A R Y n s₀ (.forLoop target it body [] env) ((do noteFrame x env; theTreesLotGoes x : Sem Unit).wrap (fun _ => .raise x) .raise id id) fs s') s₁')
          (fun x s' => Seg (model prog w) A R Y n s₀ (.forLoop target it body [] env) ((do noteFrame x env; theTreesLotGoes x : Sem Unit).wrap (fun _ => .raise x) .raise id id) fs s') s₁)
      (fun x s' => Seg (model prog w) A R Y n s₀ (.forLoop target it body [] env) ((do noteFrame x env; theTreesLotGoes x : Sem Unit).wrap (fun _ => .raise x) .raise id id) fs s') s) :
    Seg (model prog w) A R Y n s₀ (.forLoop target it body [] env) ((model prog w).den (.forLoop target it body [] env)) fs s := by
  show Seg _ A R Y n s₀ _ ((forTurn target it body [] env).onRaise (fun x => do noteFrame x env; theTreesLotGoes x)) fs s
  rw [Sem.onRaise_eq_wrap]
  have eN : ∀ (x : Value) (s' : Shared), Seg (model prog w) A R Y n s₀ (.forLoop target it body [] env) ((do noteFrame x env; theTreesLotGoes x : Sem Unit).wrap (fun _ => .raise x) .raise id id) fs s' →
      Seg (model prog w) A R Y n s₀ (.forLoop target it body [] env) ((do noteFrame x env; theTreesLotGoes x : Sem Unit).bind fun _ => .raise x) fs s' := fun x s' hx => by
    rw [Sem.bind_eq_wrap]
    exact hx
  unfold forTurn
  refine seg_bind_wrap (wpAny_standAt (seg_bind_wrap (wpAny_onRaise (wpAny_mono h (fun r s₁ h₁ => ?_) fun x s' hx => wpAny_standAt (eN x s' hx)))))
  cases r with
  | none => exact seg_again rfl h₁
  | some v =>
    refine seg_bind_wrap (wpAny_mono h₁ (fun _ s₁' h₁' => ?_) fun x s' hx => eN x s' hx)
    refine seg_bind_wrap (wpAny_mono h₁' (fun _ s₂ h₂ => ?_) fun x s' hx => eN x s' hx)
    rw [Sem.bind_eq_wrap', Sem.wrap_wrap]
    rw [Sem.wrap_congr (execs body env) _ _ (K' := fun f => match f with
            | .next | .cont => .pure (.again (.forLoop target it body [] env))
            | .brk => .pure (.done .next)
            | .ret v => .pure (.done (.ret v))) (H' := (fun e => (do noteFrame e env; theTreesLotGoes e : Sem Unit).wrap (fun _ => .raise e) .raise id id))
        (fun f => by cases f <;> rfl)
        (fun e => by first | exact Sem.bind_eq_wrap _ _ | (show (do noteFrame e env; theTreesLotGoes e : Sem Unit).bind (fun _ => .raise e) = _; rw [Sem.bind_eq_wrap]))]
    exact h₂
end
section
variable {X : Cx}
def tGFor (wi : TI) (g : TG) (tb : TGn) : TGn := fun D ys σ H => wi σ H fun J H1 => ∃ W : Nat → Nat → List V → L2.St → Hp → Prop, (∃ m, W 0 m ys σ H1) ∧ ∀ i m ys σ H, W i m ys σ H →
  (J.stop i H ∧ D.nx ys σ H) ∨ (J.go i H ∧ ∃ N : List V → L2.St → Hp → Prop, (∀ ys' σ' H', N ys' σ' H' → ∃ m', m' < m ∧ W (i + 1) m' ys' σ' H') ∧ ∀ x H', J.yld i H x H' → g x σ H' fun σ2 H2 => tb { D with nx := N, ct := N, bk := D.nx } ys σ2 H2)
theorem gs_for {tg iter : Expr} {body : List Stmt} {wi : TI} {g : TG} {tb : TGn} {pos : Pos} (hp : PassesOwn (model X.prog X.w) X.A X.env X.xe) (hc : X.calm = true) (hi : PI X tg iter wi) (hg : PG X tg g) (hb : GSs X body tb)
    (hs : ∀ x, foldedSetIterable iter X.env x = pure x := by intro _; rfl) : GS X (.For tg iter body [] pos) (tGFor wi g tb) := by
  refine ⟨fun A S ip R n ys s₀ c fs K J gd lv s σ H D gc hn k hI ht => ?_⟩
  obtain ⟨acc, cc, r, I⟩ := hI
  refine seg_For ?_ hs
  rw [gc.over]
  refine wpAny_mono (hi.run _ s σ H _ I ht) (fun v s1 h1 => wpAny_mono h1 (fun itv s2 h2 p => ?_) fun x s' hx => k.exc n s₀ x s' hx) fun x s' hx => k.exc n s₀ x s' hx
  obtain ⟨it, fp, tn, JI, H2, e, I2, T, st2, f2, W, ⟨m0, w0⟩, turn⟩ := h2
  subst e
  have gl := fun (kk : Result → Sem PySem.Fin) => gc_loop (k := kk) (c' := .forLoop tg (.ref it) body [] X.env) (l := lv []) (kp := []) (p := p) gc rfl rfl
  have fpS : ∀ b ∈ fp, b ≠ S := fun b hb z => (f2 b hb).2.2.2.2.2 (S, lstObj acc cc) (List.mem_append_right _ List.mem_cons_self) z.symm
  have stat : ∀ {acc' : Array Value} {c' : Nat} {H' : Hp}, (∀ b ∈ fp, H' b = none) → ∀ b ∈ fp, FpOk X ((S, lstObj acc' c') :: ip) H' b := fun {acc' c' H'} hn b hb => by
    obtain ⟨_, g1, g2, g3, g4, g5⟩ := f2 b hb
    refine ⟨hn b hb, g1, g2, g3, g4, fun q hq => ?_⟩
    rcases List.mem_append.mp hq with hq | hq
    · exact g5 q (List.mem_append_left _ hq)
    · rcases List.mem_cons.mp hq with hq | hq
      · rw [hq]
        exact (fpS b hb).symm
      · exact g5 q (List.mem_append_right _ (List.mem_cons_of_mem _ hq))
  have loop : ∀ (m i n : Nat) (ys : List V) (s₀ s : Shared) (σ : L2.St) (H : Hp), n + ys.length = sizeLine → W i m ys σ H → GI X S ip ys σ H s → tn i s.heap → (∀ b ∈ fp, H b = none) →
      Seg (model X.prog X.w) A R (GY X S) n s₀ (.forLoop tg (.ref it) body [] X.env) ((model X.prog X.w).den (.forLoop tg (.ref it) body [] X.env))
        (.ret (fun r => ((match r with | .ok f => (.pure f : Sem Flow) | .error e => .raise e).onRaise (cameBack X.env)).wrap K J gd lv) none (gd false) (lv []) c p [] :: fs) s := by
    intro m
    induction m using Nat.strongRecOn with
    | ind m ih =>
      intro i n ys s₀ s σ H hn w hI st fr
      have ee : ∀ (n : Nat) (s₀ : Shared) (x : Value) (s' : Shared), X.xe x s' → Seg (model X.prog X.w) A R (GY X S) n s₀ (.forLoop tg (.ref it) body [] X.env)
          ((do noteFrame x X.env; theTreesLotGoes x : Sem Unit).wrap (fun _ => .raise x) .raise id id)
          (.ret (fun r => ((match r with | .ok f => (.pure f : Sem Flow) | .error e => .raise e).onRaise (cameBack X.env)).wrap K J gd lv) none (gd false) (lv []) c p [] :: fs) s' := fun n s₀ x s' hx => by
        refine seg_wrap ?_
        rw [(gl _).over]
        refine wpAny_bind (wpAny_mono (hp x s' hx) (fun _ s'' hcb => wpAny_theTreesLotGoes ?_) fun y s'' hcb => ?_)
        · exact seg_leaf (.error x) (seg_cameBack gc k hcb)
        · exact seg_leaf (.error y) (seg_cameBack gc k hcb)
      refine seg_forLoop ?_
      rw [(gl _).over]
      obtain ⟨acc, cc, r, I⟩ := hI
      rcases turn i m ys σ H w with ⟨stop, qn⟩ | ⟨go, N, hN, step⟩
      · refine wpAny_mono (T.done X rfl rfl rfl hc i _ s σ H X.xe I (stat fr) st stop) (fun r s' hr => ?_) fun x s' hx => ee n s₀ x s' hx
        obtain ⟨hr, I4⟩ := hr
        subst hr
        exact seg_leaf (.ok .next) (k.ok n ys s₀ s' .next hn ⟨σ, H, ⟨acc, cc, r, I4⟩, qn⟩)
      · refine wpAny_mono (T.item X rfl rfl rfl hc i _ s σ H X.xe I (stat fr) st go) (fun r s4 hr => ?_) fun x s' hx => ee n s₀ x s' hx
        obtain ⟨u, hr, h4⟩ := hr
        subst hr
        refine wpAny_mono h4 (fun _ s5 h5 => ?_) fun x s' hx => ee n s₀ x s' hx
        obtain ⟨x, H5, I5, r5, y5, st5, fr5⟩ := h5
        have I5' := I5.pinned (stat fr5) (T.obj _ _ st5)
        refine wpAny_mono (hg.run _ s5 σ H5 x u _ I5' r5 (step x H5 y5)) (fun _ s6 h6 => ?_) fun x s' hx => ee n s₀ x s' hx
        obtain ⟨σ6, H6, I6, q6⟩ := h6
        have gb : GC X S (ip ++ pinsAt fp s5.heap) A (.forLoop tg (.ref it) body [] X.env) (.ret (fun r => ((match r with | .ok f => (.pure f : Sem Flow) | .error e => .raise e).onRaise (cameBack X.env)).wrap K J gd lv) none (gd false) (lv []) c p [] :: fs) id :=
          { gl _ with ip := fun q hq => (List.mem_append.mp hq).elim (gc.ip q) fun z => fpS _ (of_pinsAt z).1 }
        have again : ∀ {ys' : List V} {s7 : Shared} {σ7 : L2.St} {H7 : Hp}, GI X S (ip ++ pinsAt fp s5.heap) ys' σ7 H7 s7 → GI X S ip ys' σ7 H7 s7 ∧ tn (i + 1) s7.heap ∧ ∀ b ∈ fp, H7 b = none := fun {ys' s7 σ7 H7} h7 => by
          obtain ⟨acc7, cc7, r7, I7⟩ := h7
          have pin : ∀ b ∈ fp, ∀ o, s5.heap.get? b = some o → s7.heap.get? b = some o ∧ H7 b = none := fun b hb o e => by
            have z := I7.pin (b, o) (List.mem_append_right _ (List.mem_cons_of_mem _ (List.mem_append_right _ (mem_pinsAt hb e))))
            exact ⟨z.1, z.2.1⟩
          refine ⟨⟨acc7, cc7, r7, I7.pins_of fun q hq => ?_⟩, T.keep _ _ _ st5 fun b hb o e => (pin b hb o e).1, fun b hb => ?_⟩
          · rcases List.mem_cons.mp hq with z | z
            · exact I7.pin q (List.mem_append_right _ (by rw [z]; exact List.mem_cons_self))
            · exact I7.pin q (List.mem_append_right _ (List.mem_cons_of_mem _ (List.mem_append_left _ z)))
          · obtain ⟨o, e, d⟩ := T.obj _ _ st5 b hb
            exact (pin b hb o e).2
        refine hb.run A S (ip ++ pinsAt fp s5.heap) R n ys s₀ _ _ _ _ id id s6 σ6 H6 { D with nx := N, ct := N, bk := D.nx } gb hn ⟨fun n' ys' s₀' s7 f hn' hs7 => ?_, fun n' s₀' x s3 hx => ee n' s₀' x s3 hx⟩ ⟨acc, cc, r, I6⟩ q6
        cases f with
        | next =>
          obtain ⟨σ7, H7, I7, n7⟩ := hs7
          obtain ⟨m', hm, w7⟩ := hN ys' σ7 H7 n7
          obtain ⟨a1, a2, a3⟩ := again I7
          exact seg_again rfl (ih m' hm (i + 1) n' ys' s₀' s7 σ7 H7 hn' w7 a1 a2 a3)
        | cont =>
          obtain ⟨σ7, H7, I7, n7⟩ := hs7
          obtain ⟨m', hm, w7⟩ := hN ys' σ7 H7 n7
          obtain ⟨a1, a2, a3⟩ := again I7
          exact seg_again rfl (ih m' hm (i + 1) n' ys' s₀' s7 σ7 H7 hn' w7 a1 a2 a3)
        | brk =>
          obtain ⟨σ7, H7, I7, n7⟩ := hs7
          exact seg_leaf (.ok .next) (k.ok n' ys' s₀' s7 .next hn' ⟨σ7, H7, (again I7).1, n7⟩)
        | ret v =>
          obtain ⟨x7, σ7, H7, I7, r7, n7⟩ := hs7
          exact seg_leaf (.ok (.ret v)) (k.ok n' ys' s₀' s7 (.ret v) hn' ⟨x7, σ7, H7, (again I7).1, r7, n7⟩)
  exact loop m0 0 n ys s₀ s2 σ H2 hn w0 ⟨acc, cc, r, I2⟩ st2 fun b hb => (f2 b hb).1
/-- a comprehension's loop over a list, for any body -/
theorem it_list {K : PySem.W.Frag} {a : Addr} {xs : List V} {H0 : Hp} {Bd : V → Hp → (Hp → Prop) → Prop} {Qd : Hp → Prop} (Pv : Nat → Hp → Prop) (h0 : Pv 0 H0) (hl : ∀ i H, i ≤ xs.length → Pv i H → SqL K H a xs)
    (hs : ∀ i x H, xs[i]? = some x → Pv i H → Bd x H (Pv (i + 1))) (hd : ∀ H, Pv xs.length H → Qd H) :
    ∃ W : Nat → Nat → Hp → Prop, (∃ m, W 0 m H0) ∧ ∀ i m H, W i m H →
      ((Itl K a).stop i H ∧ Qd H) ∨ ((Itl K a).go i H ∧ ∃ Nx : Hp → Prop, (∀ H', Nx H' → ∃ m', m' < m ∧ W (i + 1) m' H') ∧ ∀ x H', (Itl K a).yld i H x H' → Bd x H' Nx) := by
  refine ⟨fun i m H => m = xs.length - i ∧ i ≤ xs.length ∧ Pv i H, ⟨xs.length, by simp, Nat.zero_le _, h0⟩, ?_⟩
  rintro i m H ⟨rfl, hi, p⟩
  have q := hl i H hi p
  by_cases hlt : i < xs.length
  · refine .inr ⟨⟨xs, xs[i], q, by simp [hlt]⟩, Pv (i + 1), fun H' p' => ⟨xs.length - (i + 1), by omega, rfl, hlt, p'⟩, fun x H' y => ?_⟩
    obtain ⟨e, y⟩ := y
    subst e
    exact hs i x _ (y xs q) p
  · have e : i = xs.length := by omega
    subst e
    exact .inl ⟨⟨xs, q, Nat.le_refl _⟩, hd H p⟩
theorem gfor_list {K : PySem.W.Frag} {a : Addr} {xs : List V} {g : TG} {tb : TGn} {D : GEnds} {ys : List V} {σ : L2.St} {H : Hp} (Pv : Nat → List V → L2.St → Hp → Prop) (h0 : Pv 0 ys σ H) (hl : ∀ i ys σ H, i ≤ xs.length → Pv i ys σ H → SqL K H a xs)
    (hs : ∀ i x ys σ H, xs[i]? = some x → Pv i ys σ H → g x σ H fun σ2 H2 => tb { D with nx := Pv (i + 1), ct := Pv (i + 1), bk := D.nx } ys σ2 H2) (hd : ∀ ys σ H, Pv xs.length ys σ H → D.nx ys σ H) :
    ∃ W : Nat → Nat → List V → L2.St → Hp → Prop, (∃ m, W 0 m ys σ H) ∧ ∀ i m ys σ H, W i m ys σ H →
      ((Itl K a).stop i H ∧ D.nx ys σ H) ∨ ((Itl K a).go i H ∧ ∃ N : List V → L2.St → Hp → Prop, (∀ ys' σ' H', N ys' σ' H' → ∃ m', m' < m ∧ W (i + 1) m' ys' σ' H') ∧ ∀ x H', (Itl K a).yld i H x H' → g x σ H' fun σ2 H2 => tb { D with nx := N, ct := N, bk := D.nx } ys σ2 H2) := by
  refine ⟨fun i m ys σ H => m = xs.length - i ∧ i ≤ xs.length ∧ Pv i ys σ H, ⟨xs.length, by simp, Nat.zero_le _, h0⟩, ?_⟩
  rintro i m ys σ H ⟨rfl, hi, p⟩
  have q := hl i ys σ H hi p
  by_cases hlt : i < xs.length
  · refine .inr ⟨⟨xs, xs[i], q, by simp [hlt]⟩, Pv (i + 1), fun ys' σ' H' p' => ⟨xs.length - (i + 1), by omega, rfl, hlt, p'⟩, fun x H' y => ?_⟩
    obtain ⟨e, y⟩ := y
    subst e
    exact hs i x ys σ _ (y xs q) p
  · have e : i = xs.length := by omega
    subst e
    exact .inl ⟨⟨xs, q, Nat.le_refl _⟩, hd ys σ H p⟩
end
/-- a generator def that may be called by its name -/
structure CalGn (P : Program) (w : World) (K : PySem.W.Frag) (mg : Str → Option Value) (base : Heap) (k : Nat) (x : Str) (ps : List Str) (sp : SpG) : Prop where
  ex : ∃ (f : Addr) (fd : FuncData), GFn P w K mg base k f fd ps sp ∧ mg x = some (.ref f) ∧ PySem.W.keepIn K (.ref f) = true ∧ Binds K fd ps []
section
variable {P : Program} {w : World} {K : PySem.W.Frag} {mg : Str → Option Value} {base : Heap}
theorem DefAt.gen {x : Str} {st : Stmt} {ps N : List Str} {k : Nat} {sp : SpG} (D : DefAt K mg x st ps) (S : GScope N ps (defScope st)) (len : ∀ vs H Q E, sp vs H Q E → vs.length = ps.length)
    (hb : ∀ (f : Addr) (cdv : Value) (A : Around) (outer : List Env) (s : Shared) (H : Hp) (vs : List V) (Q : List V → Hp → Prop) (E : XK) (pn : List (Addr × Obj)), Room k (A.deeper (envOfC x (defScope st) s.heap.objs.size f cdv)) →
      Takes (gcxOf P w K mg base N x (defScope st) f cdv A outer s H E pn) (fun cls d _ H' => E cls d H') → PassesOwn (model P w) (gcxOf P w K mg base N x (defScope st) f cdv A outer s H E pn).A (gcxOf P w K mg base N x (defScope st) f cdv A outer s H E pn).env (gcxOf P w K mg base N x (defScope st) f cdv A outer s H E pn).xe → sp vs H Q E →
      ∃ t, GSs (gcxOf P w K mg base N x (defScope st) f cdv A outer s H E pn) (defBody st) t ∧ t { nx := fun ys _ H' => Q ys H', rt := fun ys v H' => v = .non ∧ Q ys H' } [] (start N vs) H) : CalGn P w K mg base (k + 1) x ps sp := by
  obtain ⟨f, fd, ⟨⟨oc, od, kV, doc, pm, an, cdv, ct, osl, rfl, lk, hcd⟩, kp⟩, hm, b⟩ := D.ex
  exact ⟨f, _, gfn_of lk hcd S len fun A outer s H vs Q E pn hr hsp => hb f cdv A outer s H vs Q E pn hr takes_gcx owns_gcx hsp, hm, kp, b⟩
end
section
variable {X : Cx} {k j : Nat} {x : Str} {ps : List Str} {sp : SpG} {p p2 pos pos' : Pos} {e : Expr} {es : List Expr} {t : TA}
theorem noStop0 {K : PySem.W.Frag} : NoStop K E0 := fun _ _ _ h => False.elim h
theorem passesX0 {P : Program} {w : World} : Passes (CX P w) X E0 := fun pins σ H s e s' I h => by
  obtain ⟨_, _, _, _, _, _, _, _, _, _, _, _, z⟩ := h
  exact False.elim z
/-- list(g(e, ..)) -/
theorem pe_lg {nm : Str} (c : CalGn X.prog X.w X.K X.mg X.base k x ps sp) (hr : Room j X.A) (hk : k + 3 ≤ j) (hg : Gl X x) (ha : PA X (e :: es) t) (hgl : Gl X nm) (hmg : X.mg nm = none) (hv : bootBuiltins nm = some (.type "list")) (hnm : nm ≠ "__name__" := by decide)
    (hdn : (nm == ("__debug__" : Str)) = false := by decide) (hdb : (x == ("__debug__" : Str)) = false := by decide) (he : starEach (e :: es) X.env = (false, eval e X.env) :: starEach es X.env := by rfl) (hpl : (backTo pos (starEach es X.env)).any (·.1) = false := by rfl)
    (he2 : starEach [.Call (.Name x p) (e :: es) [] pos] X.env = (false, eval (.Call (.Name x p) (e :: es) [] pos) X.env) :: starEach [] X.env := by rfl) :
    PE X (.Call (.Name nm p2) [.Call (.Name x p) (e :: es) [] pos] [] pos') (tListG (tCallG sp [] E0 t)) := by
  obtain ⟨f, fd, F, hm, kp, b⟩ := c.ex
  exact pe_listG (pgen_call F (hr.mono (by omega)) hg hm kp b .nil ha hdb he hpl) passesX0 noStop0 (hr.mono hk) hgl hmg hv hnm hdn he2
end
end Sq

/-! ## own tactic words (local) -/
local macro_rules | `(tactic| walk_at "sq hp") => `(tactic| first
  | assumption
  | exact L2.upd_same
  | (refine Sq.Sep.get (by assumption) ?_; walk_at "sq hp")
  | (refine Sq.upd_keep (by assumption) ?_; walk_at "sq hp")
  | (refine Sq.Same.get (by assumption) ?_; walk_at "sq hp")
  | (refine Sq.upd_off (by assumption) ?_; walk_at "sq hp")
  | (refine Sq.upd_off (Ne.symm (by assumption)) ?_; walk_at "sq hp"))
local macro_rules | `(tactic| walk_at "sq sql") => `(tactic| first
  | assumption
  | exact Sq.seqL_of (by walk_at "sq hp")
  | exact L2.Same.seq (by assumption) (by assumption)
  | exact L2.Same.seq (Sq.Sep.same (by assumption)) (by assumption))
local macro_rules | `(tactic| walk_at "sq len") => `(tactic| (
  (try simp only [List.length_map, List.length_append, List.length_cons, List.length_nil, List.length_take, List.length_drop, List.length_reverse]); (try rw [PySem.sizeLine_eq]); omega))
local macro_rules | `(tactic| walk_at "sq side") => `(tactic| first
  | exact rfl
  | exact Nat.zero_le _
  | exact Sq.lit_len (Nat.le_of_ble_eq_true rfl)
  | ((with_reducible show L2.SqL _ _ _ _); walk_at "sq sql")
  | ((with_reducible show L2.SqT _ _ _ _); exact L2.SqT.of (by walk_at "sq hp"))
  | (apply Exists.intro; walk_at "sq sql")
  | ((with_reducible show _ = some _); walk_at "sq hp")
  | ((with_reducible show Sq.Sep _ _ _); assumption)
  | ((with_reducible show L2.ClsV _ _); first | exact .ty _ | exact .own _)
  | ((with_reducible show L2.TyX _ _ _ _); first | exact .base .non | exact .base (.bl _) | exact .base (.int _) | exact .base (.str _) | exact Sq.tyx_lst (by walk_at "sq sql") | exact Sq.tyx_tup (by exact L2.SqT.of (by walk_at "sq hp")) | assumption)
  | ((with_reducible show Sq.CPowW _ _); first | assumption | exact ⟨by decide, by decide, by decide⟩)
  | ((with_reducible show L2.CMulW _ _); first | assumption | exact (by decide +kernel))
  | ((with_reducible show L2.CDivW _ _); first | assumption | exact ⟨by decide, by decide⟩)
  | ((with_reducible show L2.tyV _ "list" _ _); exact Or.inl ⟨rfl, _, by walk_at "sq sql"⟩)
  | ((with_reducible show _ < PySem.sizeLine); walk_at "sq len")
  | ((with_reducible show _ ≤ PySem.sizeLine); walk_at "sq len")
  | ((with_reducible show (0 : Int) < _); first | assumption | decide | omega)
  | decide
  | omega)
local macro_rules | `(tactic| walk_at "sq go") => `(tactic| repeat (first
  | exact rfl
  | (fail_if_success (show ∃ W : Nat → Nat → L2.St → L2.Hp → Prop, _)
     fail_if_success (show ∃ W : Nat → Nat → L2.Hp → Prop, _)
     fail_if_success (show ∃ W : Nat → L2.St → L2.Hp → Prop, _)
     fail_if_success (show ∃ W : Nat → Nat → List L2.V → L2.St → L2.Hp → Prop, _)
     apply Exists.intro)
  | (apply And.intro; focus walk_at "sq side")
  | refine L2.iteT ?_
  | refine L2.iteF ?_))
namespace Sq
open PySem PySem.Spec PyProof.Rows L2
def topS (i : Nat) : Stmt := PySem.Challenge.pw_squeezelists_k12_whole_origins_and_reach.main.body.getD i (.Pass ⟨0, 0, 0, 0⟩)
structure Bt (mg : Str → Option Value) : Prop where
  «ValueError» : mg "ValueError" = none
  «bool» : mg "bool" = none
  «enumerate» : mg "enumerate" = none
  «int» : mg "int" = none
  «isinstance» : mg "isinstance" = none
  «len» : mg "len" = none
  «list» : mg "list" = none
  «max» : mg "max" = none
  «min» : mg "min" = none
  «range» : mg "range" = none
  «sorted» : mg "sorted" = none
  «str» : mg "str" = none
  «sum» : mg "sum" = none
  «tuple» : mg "tuple" = none
section
variable {P : Program} {w : World} {K : PySem.W.Frag} {mg : Str → Option Value} {base : Heap}

/-! ### check_list, of valid lists -/
abbrev s_check_list : Stmt := topS 5
theorem sc_check_list : FnScope ["replacements", "index", "replacement"] ["replacements"] (defScope s_check_list) := ⟨rfl, rfl, rfl, by decide +kernel, rfl, by decide +kernel, by decide +kernel⟩

def spCheckList (K : PySem.W.Frag) : Sp := fun vs H Q _ => ∃ (a : Addr) (ns : List Int), vs = [.ref a] ∧ SqL K H a (iv ns) ∧ Keep (Two ns) ∧ ∀ H', Same H H' → Q .non H'
theorem cal_check_list (D : DefAt K mg "check_list" s_check_list ["replacements"]) (B : Bt mg) : Cal P w K mg base 1 "check_list" (spCheckList K) [] := by
  refine D.cal sc_check_list (fun vs H Q E h => ?_) (fun f cdv A outer s H vs Q E hr h => ?_)
  · obtain ⟨a, ns, rfl, _⟩ := h
    rfl
  · obtain ⟨a, ns, rfl, hS, ⟨h2⟩, q⟩ := h
    refine ⟨_, (pss_one (ps_for PassesOwn.never rfl (pi_enumK (K := K) (by rfl) B.enumerate (pa_cons (pv 0) pa_nil)) (pg_tupK (K := K) (n := 2) rfl (pgs_cons (pg_name (i := 1) sc_check_list.nd rfl (Or.inl rfl)) (pgs_cons (pg_name (i := 2) sc_check_list.nd rfl (Or.inl rfl)) pgs_nil)))
   (pss_one (ps_if (pt_cmpR op_lt (pv 2) pe_int (nomark _)) (pss_one ps_never) pss_nil)))), ?_⟩
    walk_at "sq go"
    refine for_enum (K := K) (a := a) (xs := iv ns) (fun i σ H' => Keep (∃ x y, σ = [some (.ref a), x, y] ∧ Same H H')) ⟨none, none, rfl, .refl H⟩ (fun i σ H' h => ?_) (fun i x T σ H' hx h nT => ?_) (fun σ H' h => ?_)
    · obtain ⟨_, _, _, s⟩ := h.o
      exact s.seq hS
    · obtain ⟨y1, y2, rfl, s⟩ := h.o
      obtain ⟨n, hn, rfl⟩ := iv_get hx
      have hn2 := h2 n (List.mem_of_getElem? hn)
      walk_at "sq go"
      refine ifD (fun c => absurd c (by omega)) (fun c => ?_)
      exact ⟨_, _, rfl, s.trans (same_new nT)⟩
    · obtain ⟨y1, y2, rfl, s⟩ := h.o
      exact q H' s

/-! ### lengths of runs, of valid arguments -/
abbrev s_check_length : Stmt := topS 6
theorem sc_check_length : FnScope ["length"] ["length"] (defScope s_check_length) := ⟨rfl, rfl, rfl, by decide +kernel, rfl, by decide +kernel, by decide +kernel⟩

def spCheckLength : Sp := fun vs H Q _ => ∃ m : Int, vs = [.int m] ∧ Keep (0 ≤ m) ∧ Q .non H
theorem cal_check_length (D : DefAt K mg "check_length" s_check_length ["length"]) (B : Bt mg) : Cal P w K mg base 1 "check_length" spCheckLength [] := by
  refine D.cal sc_check_length (fun vs H Q E h => ?_) (fun f cdv A outer s H vs Q E hr h => ?_)
  · obtain ⟨m, rfl, _⟩ := h
    rfl
  · obtain ⟨m, rfl, ⟨h1⟩, q⟩ := h
    refine ⟨_, (pss_one (ps_if (pt_cmpR op_lt (pv 0) pe_int (nomark _)) (pss_one ps_never) pss_nil)), ?_⟩
    walk_at "sq go"
    exact ifD (fun c => absurd c (by omega)) (fun c => q)
abbrev s_squeezed_once : Stmt := topS 7
theorem sc_squeezed_once : FnScope ["length", "replacement"] ["length", "replacement"] (defScope s_squeezed_once) := ⟨rfl, rfl, rfl, by decide +kernel, rfl, by decide +kernel, by decide +kernel⟩

def spSqOnce : Sp := fun vs H Q _ => ∃ n k : Int, vs = [.int n, .int k] ∧ Keep (2 ≤ k ∧ k < 2 ^ 240) ∧ Q (.int (once n k)) H
theorem cal_squeezed_once (D : DefAt K mg "squeezed_once" s_squeezed_once ["length", "replacement"]) (B : Bt mg) : Cal P w K mg base 1 "squeezed_once" spSqOnce [] := by
  refine D.cal sc_squeezed_once (fun vs H Q E h => ?_) (fun f cdv A outer s H vs Q E hr h => ?_)
  · obtain ⟨n, k, rfl, _⟩ := h
    rfl
  · obtain ⟨n, k, rfl, ⟨h2, hb⟩, q⟩ := h
    refine ⟨_, (pss_one (ps_ret (pe_op op_add (pe_op op_fdivW (pv 0) (pv 1)) (pe_op op_mod (pv 0) (pv 1))))), ?_⟩
    have c : CDivW n k := div_ok (by omega) hb
    walk_at "sq go"
    exact q
abbrev s_squeezed_by : Stmt := topS 8
theorem sc_squeezed_by : FnScope ["length", "replacements", "replacement"] ["length", "replacements"] (defScope s_squeezed_by) := ⟨rfl, rfl, rfl, by decide +kernel, rfl, by decide +kernel, by decide +kernel⟩

def spSqBy (K : PySem.W.Frag) : Sp := fun vs H Q _ => ∃ (n : Int) (p : Addr) (ns : List Int), vs = [.int n, .ref p] ∧ SqL K H p (iv ns) ∧ Keep (Mid ns) ∧ Q (.int (sqz n ns)) H
theorem cal_squeezed_by (D : DefAt K mg "squeezed_by" s_squeezed_by ["length", "replacements"]) (B : Bt mg) (c_squeezed_once : Cal P w K mg base 1 "squeezed_once" spSqOnce []) : Cal P w K mg base 2 "squeezed_by" (spSqBy K) [] := by
  refine D.cal sc_squeezed_by (fun vs H Q E h => ?_) (fun f cdv A outer s H vs Q E hr h => ?_)
  · obtain ⟨n, p, ns, rfl, _⟩ := h
    rfl
  · obtain ⟨n, p, ns, rfl, hS, ⟨hm⟩, q⟩ := h
    refine ⟨_, (pss_cons (ps_for PassesOwn.never rfl (pi_listK (K := K) (pv 1)) (pg_name (i := 2) sc_squeezed_by.nd rfl (Or.inl rfl))
   (pss_one (ps_set (i := 0) sc_squeezed_by.nd rfl (Or.inl rfl) (pe_c c_squeezed_once hr (by first | decide | omega) (by rfl) (pa_cons (pv 0) (pa_cons (pv 2) pa_nil))))))
  (pss_one (ps_ret (pv 0)))), ?_⟩
    walk_at "sq go"
    refine for_list (K := K) (a := p) (xs := iv ns) (fun i σ H' => Keep (∃ x, σ = [some (.int (sqz n (ns.take i))), some (.ref p), x] ∧ H' = H)) ⟨none, rfl, rfl⟩ (fun i σ H' _ h => ?_) (fun i x σ H' hx h => ?_) (fun σ H' h => ?_)
    · obtain ⟨x, _, rfl⟩ := h.o
      exact hS
    · obtain ⟨x, rfl, rfl⟩ := h.o
      obtain ⟨k, hk, rfl⟩ := iv_get hx
      walk_at "sq go"
      refine ⟨⟨hm k (List.mem_of_getElem? hk)⟩, ?_⟩
      exact ⟨_, by rw [sqz_take hk]; rfl, rfl⟩
    · obtain ⟨x, rfl, rfl⟩ := h.o
      have e : (iv ns).length = ns.length := iv_len _
      rw [e, List.take_length]
      walk_at "sq go"
      exact q
abbrev s_squeezed : Stmt := topS 9
theorem sc_squeezed : FnScope ["length", "replacements"] ["length", "replacements"] (defScope s_squeezed) := ⟨rfl, rfl, rfl, by decide +kernel, rfl, by decide +kernel, by decide +kernel⟩

def spSq (K : PySem.W.Frag) : Sp := fun vs H Q _ => ∃ (n : Int) (p : Addr) (ns : List Int), vs = [.int n, .ref p] ∧ SqL K H p (iv ns) ∧ Keep (0 ≤ n ∧ Mid ns) ∧ ∀ H', Same H H' → Q (.int (sqz n ns)) H'
theorem cal_squeezed_p (D : DefAt K mg "squeezed" s_squeezed ["length", "replacements"]) (B : Bt mg) (c_check_length : Cal P w K mg base 1 "check_length" spCheckLength []) (c_check_list : Cal P w K mg base 1 "check_list" (spCheckList K) [])
    (c_squeezed_by : Cal P w K mg base 2 "squeezed_by" (spSqBy K) []) : Cal P w K mg base 3 "squeezed" (spSq K) [] := by
  refine D.cal sc_squeezed (fun vs H Q E h => ?_) (fun f cdv A outer s H vs Q E hr h => ?_)
  · obtain ⟨n, p, ns, rfl, _⟩ := h
    rfl
  · obtain ⟨n, p, ns, rfl, hS, ⟨h0, hm⟩, q⟩ := h
    refine ⟨_, (pss_cons (ps_expr (pe_c c_check_length hr (by first | decide | omega) (by rfl) (pa_cons (pv 0) pa_nil)))
  (pss_cons (ps_expr (pe_c c_check_list hr (by first | decide | omega) (by rfl) (pa_cons (pv 1) pa_nil)))
  (pss_one (ps_ret (pe_c c_squeezed_by hr (by first | decide | omega) (by rfl) (pa_cons (pv 0) (pa_cons (pv 1) pa_nil))))))), ?_⟩
    walk_at "sq go"
    refine ⟨⟨h0⟩, ?_⟩
    walk_at "sq go"
    refine ⟨⟨hm.two⟩, fun H1 s1 => ?_⟩
    have hS1 := s1.seq hS
    walk_at "sq go"
    exact ⟨⟨hm⟩, q H1 s1⟩

abbrev s_greatest_origin_of : Stmt := topS 11
theorem sc_greatest_origin_of : FnScope ["length", "replacements", "replacement"] ["length", "replacements"] (defScope s_greatest_origin_of) := ⟨rfl, rfl, rfl, by decide +kernel, rfl, by decide +kernel, by decide +kernel⟩

/-- sizes of a length and a list's numbers -/
def FitP (ns : List Int) (m : Int) : Prop := ∃ b c : Nat, (∀ k ∈ ns, Sm b k) ∧ Sm c m ∧ 10 ≤ b ∧ 10 ≤ c ∧ c + (ns.length + 1) * b ≤ 900000
theorem sm_prod {b c : Nat} {m : Int} : ∀ {ns : List Int}, (∀ k ∈ ns, Sm b k) → Sm c m → Sm (c + ns.length * b) (m * prodL ns)
  | [], _, h => by simpa [prodL] using h
  | k :: r, hb, h => by
    have ih := sm_prod (ns := r) (m := m * k) (c := c + b) (fun j hj => hb j (List.mem_cons_of_mem _ hj)) (h.mul (hb k (List.mem_cons_self ..)))
    rw [prodL_cons, ← Int.mul_assoc, List.length_cons, Nat.add_mul, Nat.one_mul, show c + (r.length * b + b) = c + b + r.length * b by omega]
    exact ih
def spGO (K : PySem.W.Frag) : Sp := fun vs H Q _ => ∃ (n : Int) (p : Addr) (ns : List Int), vs = [.int n, .ref p] ∧ SqL K H p (iv ns) ∧ Keep (FitP ns n) ∧ Q (.int (n * prodL ns)) H
theorem prod_take {row : List Int} {k : Int} {i : Nat} (h : row[i]? = some k) (n : Int) : n * prodL (row.take (i + 1)) = n * prodL (row.take i) * k := by
  rw [List.take_add_one, h]
  show n * prodL (row.take i ++ [k]) = _
  rw [prodL_snoc, Int.mul_assoc]
theorem cal_greatest_origin_of (D : DefAt K mg "greatest_origin_of" s_greatest_origin_of ["length", "replacements"]) (B : Bt mg) : Cal P w K mg base 1 "greatest_origin_of" (spGO K) [] := by
  refine D.cal sc_greatest_origin_of (fun vs H Q E h => ?_) (fun f cdv A outer s H vs Q E hr h => ?_)
  · obtain ⟨n, p, ns, rfl, _⟩ := h
    rfl
  · obtain ⟨n, p, ns, rfl, hS, ⟨b, c, hb, hc, h10, hc10, hz⟩, q⟩ := h
    refine ⟨_, (pss_cons (ps_for PassesOwn.never rfl (pi_listK (K := K) (pv 1)) (pg_name (i := 2) sc_greatest_origin_of.nd rfl (Or.inl rfl))
   (pss_one (ps_aug (i := 0) sc_greatest_origin_of.nd rfl (Or.inl rfl) (pv 2) ip_mulW)))
  (pss_one (ps_ret (pv 0)))), ?_⟩
    walk_at "sq go"
    refine for_list (K := K) (a := p) (xs := iv ns) (fun i σ H' => Keep (∃ x, σ = [some (.int (n * prodL (ns.take i))), some (.ref p), x] ∧ H' = H)) ⟨none, by simp [prodL, L2.start], rfl⟩ (fun i σ H' _ h => ?_) (fun i x σ H' hx h => ?_) (fun σ H' h => ?_)
    · obtain ⟨x, _, rfl⟩ := h.o
      exact hS
    · obtain ⟨x, rfl, rfl⟩ := h.o
      obtain ⟨k, hk, rfl⟩ := iv_get hx
      have s1 := sm_prod (ns := ns.take i) (fun j hj => hb j (List.mem_of_mem_take hj)) hc
      have len : (ns.take i).length ≤ ns.length := by
        rw [List.length_take]
        omega
      have le := Nat.mul_le_mul_right b len
      have wm : CMulW (n * prodL (ns.take i)) k := s1.wide (hb k (List.mem_of_getElem? hk)) (by omega) (by omega) (by
        rw [Nat.add_mul] at hz
        omega)
      walk_at "sq go"
      exact ⟨_, by rw [prod_take hk]; rfl, rfl⟩
    · obtain ⟨x, rfl, rfl⟩ := h.o
      have e : (iv ns).length = ns.length := iv_len _
      rw [e, List.take_length]
      walk_at "sq go"
      exact q

abbrev s_greatest_origin : Stmt := topS 12
theorem sc_greatest_origin : FnScope ["length", "replacements"] ["length", "replacements"] (defScope s_greatest_origin) := ⟨rfl, rfl, rfl, by decide +kernel, rfl, by decide +kernel, by decide +kernel⟩

def spGOrigin (K : PySem.W.Frag) : Sp := fun vs H Q _ => ∃ (n : Int) (p : Addr) (ns : List Int), vs = [.int n, .ref p] ∧ SqL K H p (iv ns) ∧ Keep (0 ≤ n ∧ Two ns ∧ FitP ns n) ∧ ∀ H', Same H H' → Q (.int (n * prodL ns)) H'
theorem cal_greatest_origin (D : DefAt K mg "greatest_origin" s_greatest_origin ["length", "replacements"]) (B : Bt mg) (c_check_length : Cal P w K mg base 1 "check_length" spCheckLength []) (c_check_list : Cal P w K mg base 1 "check_list" (spCheckList K) [])
    (c_greatest_origin_of : Cal P w K mg base 1 "greatest_origin_of" (spGO K) []) : Cal P w K mg base 2 "greatest_origin" (spGOrigin K) [] := by
  refine D.cal sc_greatest_origin (fun vs H Q E h => ?_) (fun f cdv A outer s H vs Q E hr h => ?_)
  · obtain ⟨n, p, ns, rfl, _⟩ := h
    rfl
  · obtain ⟨n, p, ns, rfl, hS, ⟨h0, h2, hf⟩, q⟩ := h
    refine ⟨_, (pss_cons (ps_expr (pe_c c_check_length hr (by first | decide | omega) (by rfl) (pa_cons (pv 0) pa_nil)))
  (pss_cons (ps_expr (pe_c c_check_list hr (by first | decide | omega) (by rfl) (pa_cons (pv 1) pa_nil)))
  (pss_one (ps_ret (pe_c c_greatest_origin_of hr (by first | decide | omega) (by rfl) (pa_cons (pv 0) (pa_cons (pv 1) pa_nil))))))), ?_⟩
    walk_at "sq go"
    refine ⟨⟨h0⟩, ?_⟩
    walk_at "sq go"
    refine ⟨⟨h2⟩, fun H1 s1 => ?_⟩
    have hS1 := s1.seq hS
    walk_at "sq go"
    exact ⟨⟨hf⟩, q H1 s1⟩

abbrev s_before_one : Stmt := topS 13
theorem sc_before_one : FnScope ["length", "replacement", "rest"] ["length", "replacement"] (defScope s_before_one) := ⟨rfl, rfl, rfl, by decide +kernel, rfl, by decide +kernel, by decide +kernel⟩

def spBefore : Sp := fun vs H Q _ => ∃ m k : Int, vs = [.int m, .int k] ∧ Keep (0 ≤ m ∧ 2 ≤ k ∧ k ≤ 1000 ∧ Sm 300 m) ∧ ∀ p, H p = none → Q (.ref p) (upd H p (.lst (iv (befores m k))))
theorem befores_len {m k : Int} (hk : k ≤ 1000) : (befores m k).length ≤ 1000 := by
  unfold befores
  rw [List.length_map, List.length_range]
  omega
theorem cal_before_one (D : DefAt K mg "before_one" s_before_one ["length", "replacement"]) (B : Bt mg) : Cal P w K mg base 1 "before_one" spBefore [] := by
  refine D.cal sc_before_one (fun vs H Q E h => ?_) (fun f cdv A outer s H vs Q E hr h => ?_)
  · obtain ⟨m, k, rfl, _⟩ := h
    rfl
  · obtain ⟨m, k, rfl, ⟨m1, k2, k3, sm⟩, q⟩ := h
    refine ⟨_, (pss_one (ps_ret (pe_lc (own := [("rest", 2)]) (g := gName 2) (by rfl) sc_before_one.nd (pi_range1 (by rfl) B.range (pa_cons (pe_op op_add (pe_callB (call_min2 rfl) (by rfl) B.min (by decide +kernel) (pa_cons (pe_op op_sub (pv 1) pe_int) (pa_cons (pv 0) pa_nil))) pe_int) pa_nil)) (blkOk_by (own := [("rest", 2)]) (N := ["length", "replacement", "rest"]) (sc := defScope s_before_one) (by decide +kernel)) (fun _ _ _ _ _ => (pg_name (i := 2) sc_before_one.nd rfl (Or.inl rfl))) (fun _ _ _ _ _ => pts_nil) (fun _ _ _ _ _ => (pe_op op_sub (pe_op op_mulW (pv 0) (pv 1)) (pe_op op_mulW (pv 2) (pe_op op_sub (pv 1) pe_int))))))), ?_⟩
    walk_at "sq go"
    intro p np
    have en : ((if m < k - 1 then m else k - 1) + 1).toNat = (min (k - 1) m + 1).toNat := by
      split <;> omega
    rw [en]
    refine lc_range (lo := 0) (n := (min (k - 1) m + 1).toNat) (fun i H' => Keep (H' = upd H p (.lst (iv ((List.range i).map fun (t : Nat) => m * k - (0 + (t : Int)) * (k - 1)))))) ⟨rfl⟩ (fun i H' hi h => ?_) (fun H' h => ?_)
    · obtain ⟨rfl⟩ := h
      have w1 : CMulW m k := sm.wide (b := 10) (by unfold Sm; omega) (by decide) (by decide) (by decide)
      have w2 : CMulW (0 + (i : Int)) (k - 1) := Sm.wide (a := 10) (b := 10) (by unfold Sm; omega) (by unfold Sm; omega) (by decide) (by decide) (by decide)
      have len : (iv ((List.range i).map fun (t : Nat) => m * k - (0 + (t : Int)) * (k - 1))).length = i := by
        rw [iv_len, List.length_map, List.length_range]
      have sz : (iv ((List.range i).map fun (t : Nat) => m * k - (0 + (t : Int)) * (k - 1))).length < sizeLine := by
        rw [len, sizeLine_eq]
        omega
      have here : upd H p (.lst (iv ((List.range i).map fun (t : Nat) => m * k - (0 + (t : Int)) * (k - 1)))) p = some (.lst (iv ((List.range i).map fun (t : Nat) => m * k - (0 + (t : Int)) * (k - 1)))) := upd_same
      walk_at "sq go"
      exact ⟨by rw [upd_upd, List.range_succ, List.map_append]; simp⟩
    · obtain ⟨rfl⟩ := h
      exact q p np
abbrev s_count_up_to : Stmt := topS 16
theorem sc_count_up_to : FnScope ["length", "replacements", "last", "first", "rest", "limit", "total", "later", "before"] ["length", "replacements", "last"] (defScope s_count_up_to) := ⟨rfl, rfl, rfl, by decide +kernel, rfl, by decide +kernel, by decide +kernel⟩

def spCount (K : PySem.W.Frag) (d : Nat) : Sp := fun vs H Q _ => ∃ (n last : Int) (p : Addr) (ns : List Int), vs = [.int n, .ref p, .int last] ∧ SqL K H p (iv ns) ∧ Keep (ns.length < d ∧ 1 ≤ n ∧ (∀ k ∈ ns, 2 ≤ k ∧ k ≤ 1000) ∧ ns.length ≤ 1000 ∧ 0 ≤ last ∧ Sm 250 last) ∧ ∀ H', Same H H' → Q (.int (cnt n ns last)) H'
theorem cal_count_up_to (D : DefAt K mg "count_up_to" s_count_up_to ["length", "replacements", "last"]) (B : Bt mg) (c_squeezed_by : Cal P w K mg base 2 "squeezed_by" (spSqBy K) []) (c_before_one : Cal P w K mg base 1 "before_one" spBefore []) :
    ∀ d : Nat, Cal P w K mg base (d + 3) "count_up_to" (spCount K d) []
  | 0 => by
    refine D.cal sc_count_up_to (fun vs H Q E h => ?_) (fun f cdv A outer s H vs Q E hr h => ?_)
    · obtain ⟨n, last, p, ns, rfl, _⟩ := h
      rfl
    · obtain ⟨n, last, p, ns, rfl, _, ⟨h, _⟩, _⟩ := h
      exact absurd h (by omega)
  | d + 1 => by
    have c_count_up_to := cal_count_up_to D B c_squeezed_by c_before_one d
    refine D.cal sc_count_up_to (fun vs H Q E h => ?_) (fun f cdv A outer s H vs Q E hr h => ?_)
    · obtain ⟨n, last, p, ns, rfl, _⟩ := h
      rfl
    · obtain ⟨n, last, p, ns, rfl, hS, ⟨hd, n1, hk, hl, l0, ls⟩, q⟩ := h
      refine ⟨_, (pss_cons (ps_if (pt_cmpR op_lt (pv 2) pe_int (nomark _)) (pss_one (ps_ret pe_int)) pss_nil)
  (pss_cons (ps_if (pt_cmpR (op_eqDK (K := K) hr.units) (pv 1) (pe_lst pa_nil) (nomark _)) (pss_one (ps_ret (pe_callTy call_int1 (by rfl) B.int (by decide +kernel) (pa_cons (pe_cmpR op_le (pv 0) (pv 2) (nomark _)) pa_nil)))) pss_nil)
  (pss_cons (ps_par (i := 3) (j := 4) rfl sc_count_up_to.nd rfl rfl (by decide) rfl rfl (pa_cons (pe_ix (ix_listK (K := K)) (pv 1) pe_int (fun _ _ => rfl)) (pa_cons (pe_slice (sl_listK (K := K)) (pv 1) (po_some pe_int) po_none) pa_nil)) (by rfl))
  (pss_cons (ps_set (i := 5) sc_count_up_to.nd rfl (Or.inl rfl) (pe_op op_fdivW (pv 2) (pv 3)))
  (pss_cons (ps_set (i := 6) sc_count_up_to.nd rfl (Or.inl rfl) (pe_op op_mulW (pv 3) (pe_c c_count_up_to hr (by first | decide | omega) (by rfl) (pa_cons (pv 0) (pa_cons (pv 4) (pa_cons (pv 5) pa_nil))))))
  (pss_cons (ps_for PassesOwn.never rfl (pi_range2W (by rfl) B.range (pa_cons pe_int (pa_cons (pe_op op_add (pe_callB (call_min2 rfl) (by rfl) B.min (by decide +kernel) (pa_cons (pv 5) (pa_cons (pe_op op_sub (pv 3) pe_int) pa_nil))) pe_int) pa_nil))) (pg_name (i := 7) sc_count_up_to.nd rfl (Or.inl rfl))
   (pss_one (ps_if (pt_cmpR op_eq (pe_c c_squeezed_by hr (by first | decide | omega) (by rfl) (pa_cons (pv 7) (pa_cons (pv 4) pa_nil))) (pv 0) (nomark _)) (pss_one (ps_aug (i := 6) sc_count_up_to.nd rfl (Or.inl rfl) (pe_op op_sub (pe_op op_sub (pv 3) (pv 7)) pe_int) ip_sub)) pss_nil)))
  (pss_cons (ps_for PassesOwn.never rfl (pi_range2W (by rfl) B.range (pa_cons (pe_op op_add (pv 5) pe_int) (pa_cons (pe_op op_add (pe_op op_fdivW (pe_op op_add (pv 2) (pe_op op_mulW (pe_op op_sub (pv 3) pe_int) (pe_op op_sub (pv 3) pe_int))) (pv 3)) pe_int) pa_nil))) (pg_name (i := 7) sc_count_up_to.nd rfl (Or.inl rfl))
   (pss_one (ps_if (pt_cmpR op_eq (pe_c c_squeezed_by hr (by first | decide | omega) (by rfl) (pa_cons (pv 7) (pa_cons (pv 4) pa_nil))) (pv 0) (nomark _)) (pss_one (ps_aug (i := 6) sc_count_up_to.nd rfl (Or.inl rfl) (pe_callB (len_seqK (K := K)) (by rfl) B.len boot_len (pa_cons (pe_lc (own := [("before", 8)]) (g := gName 8) (by rfl) sc_count_up_to.nd (pi_listK (K := K) (pe_c c_before_one hr (by first | decide | omega) (by rfl) (pa_cons (pv 7) (pa_cons (pv 3) pa_nil)))) (blkOk_by (own := [("before", 8)]) (N := ["length", "replacements", "last", "first", "rest", "limit", "total", "later", "before"]) (sc := defScope s_count_up_to) (by decide +kernel)) (fun _ _ _ _ _ => (pg_name (i := 8) sc_count_up_to.nd rfl (Or.inl rfl))) (fun _ _ _ _ _ => (pts_one (pt_cmpR op_le (pv 8) (pv 2) (nomark _)))) (fun _ _ _ _ _ => (pv 8))) pa_nil)) ip_add)) pss_nil)))
  (pss_one (ps_ret (pv 6)))))))))), ?_⟩
      walk_at "sq go"
      refine ifD (fun c => ?_) (fun c => ?_)
      · rw [cnt_zero c] at q
        walk_at "sq go"
        exact q H (.refl H)
      · walk_at "sq go"
        intro e ne
        have hS1 := (same_new (o := .lst []) ne).seq hS
        walk_at "sq go"
        refine r_eqI (xs := ns) (ys := []) hS1 (seqL_of upd_same) ?_
        walk_at "sq go"
        cases ns with
        | nil =>
          walk_at "sq go"
          refine .inr ⟨_, rfl, ?_⟩
          rw [cnt_nil n1 (by omega)] at q
          have z : (if decide (n ≤ last) = true then (1 : Int) else 0) = if n ≤ last then 1 else 0 := by
            by_cases h : n ≤ last <;> simp [h]
          show Q (.int (if decide (n ≤ last) = true then (1 : Int) else 0)) _
          rw [z]
          exact q _ (same_new ne)
        | cons k r =>
          have a0 : atI (iv (k :: r)) 0 = some (.int k) := atI_nat (j := 0) rfl
          walk_at "sq go"
          intro t nt
          have ec : cutV (iv (k :: r)) (some 1) none = iv r := cut_from _ 1
          rw [ec]
          obtain ⟨k2, k3⟩ := hk k (List.mem_cons_self ..)
          have rk : ∀ j ∈ r, (2 : Int) ≤ j ∧ j ≤ 1000 := fun j hj => hk j (List.mem_cons_of_mem _ hj)
          have s1 : Same H (upd (upd H e (.lst [])) t (.lst (iv r))) := (same_new ne).trans (same_new nt)
          have hr1 : SqL K (upd (upd H e (.lst [])) t (.lst (iv r))) t (iv r) := seqL_of upd_same
          have dv : ∀ i : Int, CDivW i k := fun i => div_ok (by omega) (by omega)
          have dv1 := dv last
          have q0 : 0 ≤ last / k := Int.ediv_nonneg l0 (by omega)
          have q1 : last / k ≤ last := Int.ediv_le_self k l0
          have sq0 := Int.mul_nonneg (show 0 ≤ k - 1 by omega) (show 0 ≤ k - 1 by omega)
          have dv2 := dv (last + (k - 1) * (k - 1))
          have w2 : CMulW (k - 1) (k - 1) := Sm.wide (a := 10) (b := 10) (by unfold Sm; omega) (by unfold Sm; omega) (by decide) (by decide) (by decide)
          walk_at "sq go"
          have hl2 : r.length + 1 ≤ 1000 := hl
          have hd2 : r.length + 1 < d + 1 := hd
          refine ⟨⟨by omega, n1, rk, by omega, q0, ls.le q0 q1⟩, fun H2 s2 => ?_⟩
          have c0 := cnt_nn n r (last / k)
          have c1 := cnt_le (n := n) (row := r) q0
          have w1 : CMulW k (cnt n r (last / k)) := Sm.wide (a := 10) (b := 250) (by unfold Sm; omega) (ls.le c0 (by omega)) (by decide) (by decide) (by decide)
          have hr2 := s2.seq hr1
          have code := cnt_code (n := n) (r := r) k2 (show 1 ≤ last by omega)
          have hU : last / k ≤ (last + (k - 1) * (k - 1)) / k := Int.ediv_le_ediv (by omega) (by omega)
          have hU2 : (last + (k - 1) * (k - 1)) / k ≤ last + (k - 1) * (k - 1) := Int.ediv_le_self k (by omega)
          have sqs : (k - 1) * (k - 1) ≤ 999 * 999 := Int.mul_le_mul (by omega) (by omega) (by omega) (by decide)
          have mid : Mid r := fun j hj => ⟨(rk j hj).1, Int.lt_of_le_of_lt (rk j hj).2 (by decide)⟩
          have s12 := s1.trans s2
          walk_at "sq go"
          have en : ((if k - 2 < last / k then k - 2 else last / k) + 1 - 1).toNat = (min (last / k) (k - 2)).toNat := by
            split <;> omega
          rw [en]
          refine for_range (lo := 1) (n := (min (last / k) (k - 2)).toNat) (fun i σ H' => Keep (∃ x, σ = [some (.int n), some (.ref p), some (.int last), some (.int k), some (.ref t), some (.int (last / k)), some (.int (k * cnt n r (last / k) - sm 1 (fun m => hit n r m * (k - m - 1)) i)), x, none] ∧ H' = H2))
            ⟨none, by simp [sm, L2.start], rfl⟩ (fun i σ H' hi h => ?_) (fun σ H' h => ?_)
          · obtain ⟨x, rfl, rfl⟩ := h.o
            walk_at "sq go"
            refine ⟨⟨mid⟩, ?_⟩
            walk_at "sq go"
            refine ifI (fun c => ?_) (fun c => ?_)
            · have e1 : k * cnt n r (last / k) - sm 1 (fun m => hit n r m * (k - m - 1)) (i + 1) = k * cnt n r (last / k) - sm 1 (fun m => hit n r m * (k - m - 1)) i - (k - (1 + (i : Int)) - 1) := by
                show _ - (sm 1 _ i + hit n r (1 + i) * (k - (1 + i) - 1)) = _
                rw [show hit n r (1 + i) = 1 from if_pos c]
                omega
              walk_at "sq go"
              exact ⟨_, by rw [e1]; rfl, rfl⟩
            · have e1 : k * cnt n r (last / k) - sm 1 (fun m => hit n r m * (k - m - 1)) (i + 1) = k * cnt n r (last / k) - sm 1 (fun m => hit n r m * (k - m - 1)) i := by
                show _ - (sm 1 _ i + hit n r (1 + i) * (k - (1 + i) - 1)) = _
                rw [show hit n r (1 + i) = 0 from if_neg c]
                omega
              exact ⟨_, by rw [e1]; rfl, rfl⟩
          · obtain ⟨x, rfl, rfl⟩ := h.o
            walk_at "sq go"
            have en2 : ((last + (k - 1) * (k - 1)) / k + 1 - (last / k + 1)).toNat = ((last + (k - 1) * (k - 1)) / k - last / k).toNat := by
              omega
            rw [en2]
            generalize hT : k * cnt n r (last / k) - sm 1 (fun m => hit n r m * (k - m - 1)) (min (last / k) (k - 2)).toNat = T at code ⊢
            refine for_range (lo := last / k + 1) (n := ((last + (k - 1) * (k - 1)) / k - last / k).toNat) (fun i σ H3 => Keep (∃ x, σ = [some (.int n), some (.ref p), some (.int last), some (.int k), some (.ref t), some (.int (last / k)), some (.int (T + sm (last / k + 1) (fun m => hit n r m * cm k last m) i)), x, none] ∧ Same H' H3))
              ⟨x, by simp [sm], .refl _⟩ (fun i σ H3 hi h => ?_) (fun σ H3 h => ?_)
            · obtain ⟨x, rfl, s3⟩ := h.o
              have hr3 := s3.seq hr2
              walk_at "sq go"
              refine ⟨⟨mid⟩, ?_⟩
              walk_at "sq go"
              refine ifI (fun c => ?_) (fun c => ?_)
              · walk_at "sq go"
                refine ⟨⟨by omega, k2, k3, ?_⟩, fun b nb => ?_⟩
                · unfold Sm at ls ⊢
                  omega
                walk_at "sq go"
                intro a na
                have nba : b ≠ a := fun z => by
                  rw [← z, upd_same] at na
                  cases na
                have bl := befores_len (m := last / k + 1 + (i : Int)) k3
                have cl := cm_len k last (last / k + 1 + (i : Int))
                generalize hM : last / k + 1 + (i : Int) = M at *
                generalize befores M k = bs at *
                have eb : (iv bs).length = bs.length := iv_len _
                refine lc_list (K := K) (a := b) (xs := iv bs) (fun j H4 => Keep (H4 = upd (upd H3 b (.lst (iv bs))) a (.lst (iv ((bs.take j).filter fun x => decide (x ≤ last)))))) ⟨rfl⟩ (fun j H4 _ h => ?_) (fun j x H4 hx h => ?_) (fun H4 h => ?_)
                · obtain ⟨rfl⟩ := h
                  exact seqL_of (upd_off nba upd_same)
                · obtain ⟨rfl⟩ := h
                  obtain ⟨v, hv, rfl⟩ := iv_get hx
                  have ta : bs.take (j + 1) = bs.take j ++ [v] := by
                    rw [List.take_add_one, hv]
                    rfl
                  walk_at "sq go"
                  refine ifD (fun c2 => ?_) (fun c2 => ?_)
                  · have here : upd (upd H3 b (.lst (iv bs))) a (.lst (iv ((bs.take j).filter fun x => decide (x ≤ last)))) a = some (.lst (iv ((bs.take j).filter fun x => decide (x ≤ last)))) := upd_same
                    have sz : (iv ((bs.take j).filter fun x => decide (x ≤ last))).length < sizeLine := by
                      rw [iv_len, sizeLine_eq]
                      have := List.length_filter_le (fun x => decide (x ≤ last)) (bs.take j)
                      rw [List.length_take] at this
                      omega
                    walk_at "sq go"
                    exact ⟨by rw [upd_upd, iv_app, ta, List.filter_append]; simp [c2]⟩
                  · exact ⟨by rw [ta, List.filter_append]; simp [c2]⟩
                · obtain ⟨rfl⟩ := h
                  rw [eb, List.take_length]
                  have here := seqL_of (K := K) (H := upd (upd H3 b (.lst (iv bs))) a (.lst (iv (bs.filter fun x => decide (x ≤ last))))) (a := a) upd_same
                  walk_at "sq go"
                  have e1 : T + sm (last / k + 1) (fun m => hit n r m * cm k last m) (i + 1) = T + sm (last / k + 1) (fun m => hit n r m * cm k last m) i + ((bs.filter fun x => decide (x ≤ last)).length : Int) := by
                    show _ + (sm _ _ i + hit n r _ * cm k last _) = _
                    rw [hM, show hit n r M = 1 from if_pos c, cl]
                    omega
                  rw [iv_len]
                  exact ⟨_, by rw [e1]; rfl, s3.trans ((same_new nb).trans (same_new na))⟩
              · have e1 : T + sm (last / k + 1) (fun m => hit n r m * cm k last m) (i + 1) = T + sm (last / k + 1) (fun m => hit n r m * cm k last m) i := by
                  show _ + (sm _ _ i + hit n r _ * cm k last _) = _
                  rw [show hit n r (last / k + 1 + i) = 0 from if_neg c]
                  omega
                exact ⟨_, by rw [e1]; rfl, s3⟩
            · obtain ⟨x, rfl, s3⟩ := h.o
              rw [← code]
              walk_at "sq go"
              exact q H3 (s12.trans s3)
abbrev s_count_origins : Stmt := topS 17
theorem sc_count_origins : FnScope ["length", "replacements", "last"] ["length", "replacements", "last"] (defScope s_count_origins) := ⟨rfl, rfl, rfl, by decide +kernel, rfl, by decide +kernel, by decide +kernel⟩

def spCountO (K : PySem.W.Frag) (d : Nat) : Sp := fun vs H Q _ => ∃ (n last : Int) (p : Addr) (ns : List Int), vs = [.int n, .ref p, .int last] ∧ SqL K H p (iv ns) ∧ Keep (ns.length < d ∧ 0 ≤ n ∧ (∀ k ∈ ns, 2 ≤ k ∧ k ≤ 1000) ∧ ns.length ≤ 1000 ∧ 0 ≤ last ∧ Sm 250 last) ∧ ∀ H', Same H H' → Q (.int (cnt0 n ns last)) H'
theorem cal_count_origins {d : Nat} (D : DefAt K mg "count_origins" s_count_origins ["length", "replacements", "last"]) (B : Bt mg) (c_check_length : Cal P w K mg base 1 "check_length" spCheckLength []) (c_check_list : Cal P w K mg base 1 "check_list" (spCheckList K) [])
    (c_count_up_to : Cal P w K mg base (d + 3) "count_up_to" (spCount K d) []) : Cal P w K mg base (d + 4) "count_origins" (spCountO K d) [] := by
  refine D.cal sc_count_origins (fun vs H Q E h => ?_) (fun f cdv A outer s H vs Q E hr h => ?_)
  · obtain ⟨n, last, p, ns, rfl, _⟩ := h
    rfl
  · obtain ⟨n, last, p, ns, rfl, hS, ⟨hd, n1, hk, hl, l0, ls⟩, q⟩ := h
    refine ⟨_, (pss_cons (ps_expr (pe_c c_check_length hr (by first | decide | omega) (by rfl) (pa_cons (pv 0) pa_nil)))
  (pss_cons (ps_expr (pe_c c_check_list hr (by first | decide | omega) (by rfl) (pa_cons (pv 1) pa_nil)))
  (pss_cons (ps_if (pt_cmpR op_lt (pv 2) pe_int (nomark _)) (pss_one ps_never) pss_nil)
  (pss_one (ps_ret (pe_ifExp (pt_cmpR op_gt (pv 0) pe_int (nomark _)) (pe_c c_count_up_to hr (by first | decide | omega) (by rfl) (pa_cons (pv 0) (pa_cons (pv 1) (pa_cons (pv 2) pa_nil)))) pe_int)))))), ?_⟩
    walk_at "sq go"
    refine ⟨⟨by omega⟩, ?_⟩
    walk_at "sq go"
    refine ⟨⟨fun k h => (hk k h).1⟩, fun H1 s1 => ?_⟩
    have hS1 := s1.seq hS
    walk_at "sq go"
    refine ifD (fun c => absurd c (by omega)) (fun _ => ?_)
    walk_at "sq go"
    refine ifD (fun c => ?_) (fun c => ?_)
    · have q' := fun H' s => q H' s
      unfold cnt0 at q'
      rw [if_pos c] at q'
      walk_at "sq go"
      exact ⟨⟨hd, by omega, hk, hl, l0, ls⟩, fun H2 s2 => q' H2 (s1.trans s2)⟩
    · unfold cnt0 at q
      rw [if_neg c] at q
      walk_at "sq go"
      exact q H1 s1

/-! ### reaches, of valid arguments -/
abbrev s_check_most : Stmt := topS 20
theorem sc_check_most : FnScope ["most"] ["most"] (defScope s_check_most) := ⟨rfl, rfl, rfl, by decide +kernel, rfl, by decide +kernel, by decide +kernel⟩

def spCheckMost : Sp := fun vs H Q _ => ∃ m : Int, vs = [.int m] ∧ Keep (1 ≤ m) ∧ Q .non H
theorem cal_check_most (D : DefAt K mg "check_most" s_check_most ["most"]) (B : Bt mg) : Cal P w K mg base 1 "check_most" spCheckMost [] := by
  refine D.cal sc_check_most (fun vs H Q E h => ?_) (fun f cdv A outer s H vs Q E hr h => ?_)
  · obtain ⟨m, rfl, _⟩ := h
    rfl
  · obtain ⟨m, rfl, ⟨h1⟩, q⟩ := h
    refine ⟨_, (pss_one (ps_if (pt_cmpR op_lt (pv 0) pe_int (nomark _)) (pss_one ps_never) pss_nil)), ?_⟩
    walk_at "sq go"
    exact ifD (fun c => absurd c (by omega)) (fun c => q)
abbrev s_reach_before : Stmt := topS 21
theorem sc_reach_before : FnScope ["reached", "replacement"] ["reached", "replacement"] (defScope s_reach_before) := ⟨rfl, rfl, rfl, by decide +kernel, rfl, by decide +kernel, by decide +kernel⟩

theorem rb_Sm {a b : Nat} {R k : Int} (hR : Sm a R) (hk : Sm b k) (hb : 10 ≤ b) (hk2 : 2 ≤ k) (hR1 : 1 ≤ R) : Sm (a + b) (rb R k) := by
  unfold rb
  split
  · exact hR.mono (by omega)
  · rename_i c
    have h1 : 0 ≤ (R + 3 - k) * k - 2 := by
      have := Int.mul_le_mul (show (2 : Int) ≤ R + 3 - k by omega) hk2 (by decide) (by omega)
      omega
    have h2 : (R + 3 - k) * k - 2 ≤ (R + 1) * k := by
      have := Int.mul_le_mul_of_nonneg_right (show R + 3 - k ≤ R + 1 by omega) (show 0 ≤ k by omega)
      omega
    unfold Sm at *
    have e1 : (R + 1).natAbs ≤ 2 ^ a := by omega
    have e2 : ((R + 1) * k).natAbs < 2 ^ (a + b) := by
      rw [Int.natAbs_mul, Nat.pow_add]
      calc (R + 1).natAbs * k.natAbs ≤ 2 ^ a * k.natAbs := Nat.mul_le_mul_right _ e1
        _ < 2 ^ a * 2 ^ b := Nat.mul_lt_mul_of_pos_left hk (Nat.pow_pos (by decide))
    omega
def spReachBefore : Sp := fun vs H Q _ => ∃ R k : Int, vs = [.int R, .int k] ∧ Keep (∃ a b : Nat, 1 ≤ R ∧ 2 ≤ k ∧ Sm a R ∧ Sm b k ∧ 10 ≤ a ∧ 10 ≤ b ∧ a + b ≤ 900000) ∧ Q (.int (rb R k)) H
theorem cal_reach_before (D : DefAt K mg "reach_before" s_reach_before ["reached", "replacement"]) (B : Bt mg) : Cal P w K mg base 1 "reach_before" spReachBefore [] := by
  refine D.cal sc_reach_before (fun vs H Q E h => ?_) (fun f cdv A outer s H vs Q E hr h => ?_)
  · obtain ⟨R, k, rfl, _⟩ := h
    rfl
  · obtain ⟨R, k, rfl, ⟨a, b, hR1, hk2, hR, hk, ha, hb, hab⟩, q⟩ := h
    refine ⟨_, (pss_cons (ps_if (pt_cmpR op_gt (pv 1) (pe_op op_add (pv 0) pe_int) (nomark _)) (pss_one (ps_ret (pv 0))) pss_nil)
  (pss_one (ps_ret (pe_op op_sub (pe_op op_mulW (pe_op op_sub (pe_op op_add (pv 0) pe_int) (pv 1)) (pv 1)) pe_int)))), ?_⟩
    walk_at "sq go"
    refine ifD (fun c => ?_) (fun c => ?_)
    · have e : rb R k = R := if_pos c
      rw [e] at q
      walk_at "sq go"
      exact q
    · have e : rb R k = (R + 3 - k) * k - 2 := if_neg c
      rw [e] at q
      have wd : CMulW (R + 3 - k) k := Sm.wide (a := a + 1) (b := b) (Sm.le (hR.add (Sm.of (i := 1) (by decide) ha)) (by omega) (by omega)) hk (by omega) (by omega) (by omega)
      walk_at "sq go"
      exact q
abbrev s_reach_of : Stmt := topS 22
theorem sc_reach_of : FnScope ["replacements", "most", "reached", "replacement"] ["replacements", "most"] (defScope s_reach_of) := ⟨rfl, rfl, rfl, by decide +kernel, rfl, by decide +kernel, by decide +kernel⟩

/-- numbers of a list and a length of a bounded size -/
def Fit (ns : List Int) (m : Int) : Prop := ∃ b c : Nat, (∀ k ∈ ns, Sm b k) ∧ Sm c m ∧ 10 ≤ b ∧ 10 ≤ c ∧ c + (ns.length + 1) * b ≤ 900000
theorem reachOf_snoc (a : List Int) (k m : Int) : reachOf (a ++ [k]) m = reachOf a (rb m k) := by
  unfold reachOf
  rw [List.foldr_append]
  rfl
theorem foldr_take_rev {row : List Int} {m k : Int} {i : Nat} (h : row.reverse[i]? = some k) : (row.reverse.take (i + 1)).foldl rb m = rb ((row.reverse.take i).foldl rb m) k := by
  rw [List.take_add_one, h, List.foldl_append]
  rfl
theorem reachOf_rev (row : List Int) (m : Int) : row.reverse.foldl rb m = reachOf row m := by
  unfold reachOf
  rw [List.foldl_reverse]
theorem rbs_pos : ∀ {row : List Int} {m : Int}, 1 ≤ m → Two row → m ≤ row.foldl rb m
  | [], m, _, _ => Int.le_refl m
  | k :: r, m, h, t => by
    have p := rb_pos h (t k (List.mem_cons_self ..))
    exact Int.le_trans p (rbs_pos (row := r) (by omega) fun j hj => t j (List.mem_cons_of_mem _ hj))
theorem rbs_Sm : ∀ {row : List Int} {m : Int} {b c : Nat}, 1 ≤ m → Two row → (∀ k ∈ row, Sm b k) → Sm c m → 10 ≤ b → Sm (c + row.length * b) (row.foldl rb m)
  | [], m, b, c, _, _, _, h, _ => by simpa using h
  | k :: r, m, b, c, h1, t, hb, hc, h10 => by
    have hk := t k (List.mem_cons_self ..)
    have p := rb_pos h1 hk
    have ih := rbs_Sm (row := r) (m := rb m k) (b := b) (c := c + b) (by omega) (fun j hj => t j (List.mem_cons_of_mem _ hj)) (fun j hj => hb j (List.mem_cons_of_mem _ hj)) (rb_Sm hc (hb k (List.mem_cons_self ..)) h10 hk h1) h10
    have e : c + b + r.length * b = c + (k :: r).length * b := by
      rw [List.length_cons, Nat.add_mul]
      omega
    rw [e] at ih
    exact ih
def spReachOf (K : PySem.W.Frag) : Sp := fun vs H Q _ => ∃ (p : Addr) (ns : List Int) (m : Int), vs = [.ref p, .int m] ∧ SqL K H p (iv ns) ∧ Keep (Two ns ∧ 1 ≤ m ∧ Fit ns m) ∧ ∀ H', Same H H' → Q (.int (reachOf ns m)) H'
theorem cal_reach_of (D : DefAt K mg "reach_of" s_reach_of ["replacements", "most"]) (B : Bt mg) (c_reach_before : Cal P w K mg base 1 "reach_before" spReachBefore []) : Cal P w K mg base 2 "reach_of" (spReachOf K) [] := by
  refine D.cal sc_reach_of (fun vs H Q E h => ?_) (fun f cdv A outer s H vs Q E hr h => ?_)
  · obtain ⟨p, ns, m, rfl, _⟩ := h
    rfl
  · obtain ⟨p, ns, m, rfl, hS, ⟨h2, hm, b, c, hb, hc, h10, hc10, hz⟩, q⟩ := h
    refine ⟨_, (pss_cons (ps_set (i := 2) sc_reach_of.nd rfl (Or.inl rfl) (pv 1))
  (pss_cons (ps_for PassesOwn.never rfl (pi_listK (K := K) (pe_revLK (K := K) (pv 0))) (pg_name (i := 3) sc_reach_of.nd rfl (Or.inl rfl))
   (pss_one (ps_set (i := 2) sc_reach_of.nd rfl (Or.inl rfl) (pe_c c_reach_before hr (by first | decide | omega) (by rfl) (pa_cons (pv 2) (pa_cons (pv 3) pa_nil))))))
  (pss_one (ps_ret (pv 2))))), ?_⟩
    walk_at "sq go"
    intro t nt
    have sm := same_new (o := .lst (iv ns).reverse) nt
    have ht : SqL K (upd H t (.lst (iv ns).reverse)) t (iv ns.reverse) := by
      have e : iv ns.reverse = (iv ns).reverse := List.map_reverse ..
      rw [e]
      exact seqL_of upd_same
    walk_at "sq go"
    refine for_list (K := K) (a := t) (xs := iv ns.reverse) (fun i σ H' => Keep (∃ y, σ = [some (.ref p), some (.int m), some (.int ((ns.reverse.take i).foldl rb m)), y] ∧ H' = upd H t (.lst (iv ns).reverse))) ⟨none, rfl, rfl⟩ (fun i σ H' _ h => ?_) (fun i x σ H' hx h => ?_) (fun σ H' h => ?_)
    · obtain ⟨_, _, rfl⟩ := h.o
      exact ht
    · obtain ⟨y, rfl, rfl⟩ := h.o
      obtain ⟨k, hk, rfl⟩ := iv_get hx
      have mk : k ∈ ns := List.mem_reverse.mp (List.mem_of_getElem? hk)
      have tk : Two (ns.reverse.take i) := fun j hj => h2 j (List.mem_reverse.mp (List.mem_of_mem_take hj))
      have len : (ns.reverse.take i).length ≤ ns.length := by
        rw [List.length_take, List.length_reverse]
        omega
      have sR := rbs_Sm hm tk (fun j hj => hb j (List.mem_reverse.mp (List.mem_of_mem_take hj))) hc h10
      have sz : c + (ns.reverse.take i).length * b + b ≤ 900000 := by
        have := Nat.mul_le_mul_right b len
        rw [Nat.add_mul] at hz
        omega
      walk_at "sq go"
      refine ⟨⟨_, b, by have := rbs_pos hm tk; omega, h2 k mk, sR, hb k mk, by omega, h10, sz⟩, ?_⟩
      exact ⟨_, by rw [foldr_take_rev hk]; rfl, rfl⟩
    · obtain ⟨y, rfl, rfl⟩ := h.o
      have e : (iv ns.reverse).length = ns.reverse.length := iv_len _
      rw [e, List.take_length, reachOf_rev]
      walk_at "sq go"
      exact q _ sm
abbrev s_reach : Stmt := topS 23
theorem sc_reach : FnScope ["replacements", "most"] ["replacements", "most"] (defScope s_reach) := ⟨rfl, rfl, rfl, by decide +kernel, rfl, by decide +kernel, by decide +kernel⟩

def spReach (K : PySem.W.Frag) : Sp := fun vs H Q _ => ∃ (p : Addr) (ns : List Int) (m : Int), vs = [.ref p, .int m] ∧ SqL K H p (iv ns) ∧ Keep (Two ns ∧ 1 ≤ m ∧ Fit ns m) ∧ ∀ H', Same H H' → Q (.int (reachOf ns m)) H'
theorem ok_reach {f : Addr} {fd : FuncData} (F : FunD K "reach" "reach" (defArgs s_reach) (defBody s_reach) (defScope s_reach) [.int 1] [] f fd) (B : Bt mg) (c_check_list : Cal P w K mg base 1 "check_list" (spCheckList K) [])
    (c_check_most : Cal P w K mg base 1 "check_most" spCheckMost []) (c_reach_of : Cal P w K mg base 2 "reach_of" (spReachOf K) []) : FnOk P w K mg base CX0 3 f fd ["replacements", "most"] (spReach K) := by
  refine F.ok sc_reach (fun vs H Q E h => ?_) (fun cdv A outer s H vs Q E hr h => ?_)
  · obtain ⟨p, ns, m, rfl, _⟩ := h
    rfl
  · obtain ⟨p, ns, m, rfl, hS, ⟨h2, hm, hf⟩, q⟩ := h
    refine ⟨_, (PSs.nox (pss_cons (ps_expr (pe_c c_check_list hr (by first | decide | omega) (by rfl) (pa_cons (pv 0) pa_nil)))
  (pss_cons (ps_expr (pe_c c_check_most hr (by first | decide | omega) (by rfl) (pa_cons (pv 1) pa_nil)))
  (pss_one (ps_ret (pe_c c_reach_of hr (by first | decide | omega) (by rfl) (pa_cons (pv 0) (pa_cons (pv 1) pa_nil)))))))), ?_⟩
    walk_at "sq go"
    refine ⟨⟨h2⟩, fun H1 s1 => ?_⟩
    walk_at "sq go"
    refine ⟨⟨hm⟩, ?_⟩
    walk_at "sq go"
    exact ⟨⟨h2, hm, hf⟩, fun H2 s2 => q H2 (s1.trans s2)⟩

theorem ne_new {H : Hp} {a b : Addr} {u : HO} (e : H a = some u) (n : H b = none) : a ≠ b := fun z => by
  rw [z, n] at e
  cases e
theorem drop_back {ns : List Int} {i : Nat} {k : Int} (h : ns.reverse[i]? = some k) : ns.drop (ns.length - (i + 1)) = k :: ns.drop (ns.length - i) := by
  obtain ⟨hi, e⟩ := List.getElem?_eq_some_iff.mp h
  rw [List.length_reverse] at hi
  rw [List.getElem_reverse] at e
  have hj : ns.length - (i + 1) < ns.length := by omega
  rw [List.drop_eq_getElem_cons hj, show ns.length - (i + 1) + 1 = ns.length - i by omega]
  congr 1
  rw [← e]
  congr 1
  omega
theorem prod_drop {ns : List Int} (h : Two ns) (j : Nat) : prodL (ns.drop j) ≤ prodL ns := by
  have e := prodL_app (ns.take j) (ns.drop j)
  rw [List.take_append_drop] at e
  have p := prodL_pos (ns := ns.take j) fun k hk => h k (List.mem_of_mem_take hk)
  have q := prodL_pos (ns := ns.drop j) fun k hk => h k (List.mem_of_mem_drop hk)
  rw [e]
  have := Int.mul_le_mul_of_nonneg_right p (show 0 ≤ prodL (ns.drop j) by omega)
  omega
theorem same_put {H H' : Hp} {a : Addr} {o : HO} (s : Same H H') (n : H a = none) : Same H (upd H' a o) := fun b u e => by
  by_cases hb : b = a
  · rw [hb, n] at e
    cases e
  · rw [upd_ne hb]
    exact s b u e
theorem flat_take {f : Int → List Int} {os : List Int} {i : Nat} {m : Int} (h : os[i]? = some m) : (os.take (i + 1)).flatMap f = (os.take i).flatMap f ++ f m := by
  rw [List.take_add_one, h, List.flatMap_append]
  simp
theorem flat_take_len (f : Int → List Int) (os : List Int) (i : Nat) : ((os.take i).flatMap f).length ≤ (os.flatMap f).length := by
  conv => rhs; rw [← List.take_append_drop i os, List.flatMap_append, List.length_append]
  omega
abbrev s_origins_of : Stmt := topS 14
theorem sc_origins_of : FnScope ["length", "replacements", "found", "replacement", "later", "before"] ["length", "replacements"] (defScope s_origins_of) := ⟨rfl, rfl, rfl, by decide +kernel, rfl, by decide +kernel, by decide +kernel⟩

def spOriginsOf (K : PySem.W.Frag) : Sp := fun vs H Q _ => ∃ (goal : Int) (p : Addr) (ns : List Int), vs = [.int goal, .ref p] ∧ SqL K H p (iv ns) ∧ Keep (0 ≤ goal ∧ goal ≤ 1000 ∧ (∀ k ∈ ns, 2 ≤ k ∧ k ≤ 1000) ∧ prodL ns ≤ 10000) ∧
  ∀ (ss : List Int) (l : Addr) H', ss.Perm (orig goal ns) → Same H H' → H l = none → H' l = some (.lst (iv ss)) → Q (.ref l) H'
theorem cal_origins_of (D : DefAt K mg "origins_of" s_origins_of ["length", "replacements"]) (B : Bt mg) (c_before_one : Cal P w K mg base 1 "before_one" spBefore []) : Cal P w K mg base 2 "origins_of" (spOriginsOf K) [] := by
  refine D.cal sc_origins_of (fun vs H Q E h => ?_) (fun f cdv A outer s H vs Q E hr h => ?_)
  · obtain ⟨goal, p, ns, rfl, _⟩ := h
    rfl
  · obtain ⟨goal, p, ns, rfl, hS, ⟨g0, g1, bk, pr⟩, q⟩ := h
    refine ⟨_, (pss_cons (ps_set (i := 2) sc_origins_of.nd rfl (Or.inl rfl) (pe_lst (pa_cons (pv 0) pa_nil)))
  (pss_cons (ps_for PassesOwn.never rfl (pi_listK (K := K) (pe_revLK (K := K) (pv 1))) (pg_name (i := 3) sc_origins_of.nd rfl (Or.inr rfl))
   (pss_one (ps_setLc2 (i := 2) (own := [("later", 4), ("before", 5)]) (g := gName 4) (g1 := gName 5) (vs1 := [5]) (by rfl) sc_origins_of.nd rfl rfl (sw_true rfl rfl rfl (by decide +kernel)) (pi_listK (K := K) (pv 2)) (blkOk_by (own := [("later", 4), ("before", 5)]) (N := ["length", "replacements", "found", "replacement", "later", "before"]) (sc := defScope s_origins_of) (by decide +kernel)) (by decide) (fun _ _ _ _ _ => (pg_name (i := 4) sc_origins_of.nd rfl (Or.inl rfl))) (fun _ _ _ _ _ => pts_nil) (fun _ _ _ _ _ => (pi_listK (K := K) (pe_c c_before_one hr (by first | decide | omega) (by rfl) (pa_cons (pv 4) (pa_cons (pv 3) pa_nil))))) (fun _ _ _ _ _ => (pg_name (i := 5) sc_origins_of.nd rfl (Or.inl rfl))) (fun _ _ _ _ _ => pts_nil) (fun _ _ _ _ _ => (pv 5)))))
  (pss_one (ps_ret (pe_callB (cr_sortedIK (K := K)) (by rfl) B.sorted (by decide +kernel) (pa_cons (pv 2) pa_nil)))))), ?_⟩
    have two : Two ns := fun k hk => (bk k hk).1
    walk_at "sq go"
    intro f0 nf0
    have s0 := same_new (o := .lst [.int goal]) nf0
    have hS0 := s0.seq hS
    walk_at "sq go"
    intro rv nrv
    have er : (iv ns).reverse = iv ns.reverse := (List.map_reverse ..).symm
    rw [er]
    have s1 := s0.trans (same_new (o := .lst (iv ns.reverse)) nrv)
    have hrv : SqL K (upd (upd H f0 (.lst [.int goal])) rv (.lst (iv ns.reverse))) rv (iv ns.reverse) := seqL_of upd_same
    have hf0 := upd_keep (o := .lst (iv ns.reverse)) nrv (upd_same (H := H) (a := f0) (o := .lst [.int goal]))
    generalize hH1 : upd (upd H f0 (.lst [.int goal])) rv (.lst (iv ns.reverse)) = H1 at *
    walk_at "sq go"
    refine for_list (K := K) (a := rv) (xs := iv ns.reverse) (fun i σ H' => Keep (∃ fa x y z, σ = [some (.int goal), some (.ref p), some (.ref fa), x, y, z] ∧ Same H1 H' ∧ H fa = none ∧ H' fa = some (.lst (iv (orig goal (ns.drop (ns.length - i))))))) ?_ (fun i σ H' _ h => ?_) (fun i x σ H' hx h => ?_) (fun σ H' h => ?_)
    · refine ⟨f0, none, none, none, rfl, .refl _, nf0, ?_⟩
      rw [hf0, Nat.sub_zero, List.drop_length]
      rfl
    · obtain ⟨fa, x, y, z, _, s2, _⟩ := h.o
      exact s2.seq hrv
    · obtain ⟨fa, x2, y, z, rfl, s2, nfa, hfa⟩ := h.o
      obtain ⟨k, hk, rfl⟩ := iv_get hx
      have mk : k ∈ ns := List.mem_reverse.mp (List.mem_of_getElem? hk)
      have ek := drop_back hk
      have twd : Two (ns.drop (ns.length - i)) := fun j hj => two j (List.mem_of_mem_drop hj)
      have bo := mem_orig g0 twd
      have prd := prod_drop two (ns.length - i)
      have lno := len_orig (goal := goal) twd
      have two1 : Two (k :: ns.drop (ns.length - i)) := by
        rw [← ek]
        exact fun j hj => two j (List.mem_of_mem_drop hj)
      have lnn := len_orig (goal := goal) two1
      rw [orig_cons] at lnn
      have prn := prod_drop two (ns.length - (i + 1))
      rw [ek] at prn
      have k2 := bk k mk
      rw [ek, orig_cons]
      generalize orig goal (ns.drop (ns.length - i)) = os at *
      generalize prodL (ns.drop (ns.length - i)) = pd at *
      walk_at "sq go"
      intro D nD
      have nD0 : H1 D = none := s2.free nD
      have lnn' : (os.flatMap fun m => befores m k).length ≤ 10000 := by omega
      refine it_list (K := K) (a := fa) (xs := iv os) (fun i Hh => Keep (Same H' Hh ∧ Hh D = some (.lst (iv ((os.take i).flatMap fun m => befores m k))))) ⟨same_new nD, upd_same⟩ (fun i Hh _ h => ?_) (fun i x Hh hx h => ?_) (fun Hh h => ?_)
      · obtain ⟨s3, _⟩ := h.o
        exact seqL_of (s3 _ _ hfa)
      · obtain ⟨s3, hD⟩ := h.o
        obtain ⟨m, hm, rfl⟩ := iv_get hx
        obtain ⟨_, m0, m1⟩ := bo m (List.mem_of_getElem? hm)
        have m2 : m ≤ 1000 * 10000 := Int.le_trans m1 (Int.le_trans (Int.mul_le_mul_of_nonneg_right g1 (by have := prodL_pos twd; omega)) (Int.mul_le_mul_of_nonneg_left (by omega) (by decide)))
        walk_at "sq go"
        refine ⟨⟨m0, k2.1, k2.2, by unfold Sm; omega⟩, fun b nb => ?_⟩
        have nbD : D ≠ b := ne_new hD nb
        have e1 := flat_take (f := fun m => befores m k) hm
        have e2 := flat_take_len (fun m => befores m k) os (i + 1)
        rw [e1, List.length_append] at e2
        walk_at "sq go"
        refine it_list (K := K) (a := b) (xs := iv (befores m k)) (fun j Hh2 => Keep (Same H' Hh2 ∧ Hh2 b = some (.lst (iv (befores m k))) ∧ Hh2 D = some (.lst (iv (((os.take i).flatMap fun m => befores m k) ++ (befores m k).take j))))) ⟨s3.trans (same_new nb), upd_same, ?_⟩ (fun j Hh2 _ h => ?_) (fun j x Hh2 hx2 h => ?_) (fun Hh2 h => ?_)
        · rw [upd_ne nbD, hD, List.take_zero, List.append_nil]
        · obtain ⟨_, hb, _⟩ := h.o
          exact seqL_of hb
        · obtain ⟨s4, hb, hD2⟩ := h.o
          obtain ⟨v, hv, rfl⟩ := iv_get hx2
          have hj := (List.getElem?_eq_some_iff.mp hv).1
          have lz : (iv (((os.take i).flatMap fun m => befores m k) ++ (befores m k).take j)).length < sizeLine := by
            rw [iv_len, List.length_append, List.length_take, sizeLine_eq]
            omega
          walk_at "sq go"
          refine ⟨same_put s4 nD, (upd_ne nbD.symm).trans hb, ?_⟩
          rw [upd_same, iv_app, List.append_assoc, List.take_add_one, hv]
          rfl
        · obtain ⟨s4, hb, hD2⟩ := h.o
          rw [iv_len, List.take_length, ← e1] at hD2
          exact ⟨s4, hD2⟩
      · obtain ⟨s3, hD⟩ := h.o
        rw [iv_len, List.take_length] at hD
        walk_at "sq go"
        exact ⟨D, _, _, _, rfl, s2.trans s3, s1.free nD0, hD⟩
    · obtain ⟨fa, x2, y, z, rfl, s2, nfa, hfa⟩ := h.o
      rw [iv_len, List.length_reverse, Nat.sub_self, List.drop_zero] at hfa
      walk_at "sq go"
      intro ss l pm _ nl
      exact q ss l _ pm (s1.trans (s2.trans (same_new nl))) (s1.free (s2.free nl)) upd_same
abbrev s_origins : Stmt := topS 15
theorem sc_origins : GScope ["length", "replacements", "origin"] ["length", "replacements"] (defScope s_origins) := ⟨rfl, rfl, rfl, by decide +kernel, rfl, by decide +kernel, by decide +kernel⟩

def spgOrigins (K : PySem.W.Frag) : SpG := fun vs H cont _ => ∃ (goal : Int) (p : Addr) (ns : List Int), vs = [.int goal, .ref p] ∧ SqL K H p (iv ns) ∧ Keep (0 ≤ goal ∧ goal ≤ 1000 ∧ (∀ k ∈ ns, 2 ≤ k ∧ k ≤ 1000) ∧ prodL ns ≤ 10000) ∧
  ∀ (ss : List Int) H', ss.Perm (orig goal ns) → Same H H' → cont (iv ss) H'
theorem gen_origins (D : DefAt K mg "origins" s_origins ["length", "replacements"]) (B : Bt mg) (c_check_length : Cal P w K mg base 1 "check_length" spCheckLength []) (c_check_list : Cal P w K mg base 1 "check_list" (spCheckList K) []) (c_origins_of : Cal P w K mg base 2 "origins_of" (spOriginsOf K) []) : CalGn P w K mg base 3 "origins" ["length", "replacements"] (spgOrigins K) := by
  refine D.gen sc_origins (fun vs H Q E h => ?_) (fun f cdv A outer s H vs Q E pn hr tk po h => ?_)
  · obtain ⟨goal, p, ns, rfl, _⟩ := h
    rfl
  · obtain ⟨goal, p, ns, rfl, hS, ⟨g0, g1, bk, pr⟩, q⟩ := h
    refine ⟨_, (gss_cons (gs_ps (ps_expr (pe_c c_check_length hr (by first | decide | omega) (by rfl) (pa_cons (pv 0) pa_nil))))
  (gss_cons (gs_ps (ps_expr (pe_c c_check_list hr (by first | decide | omega) (by rfl) (pa_cons (pv 1) pa_nil))))
  (gss_cons (gs_for po rfl (pi_listK (K := K) (pe_c c_origins_of hr (by first | decide | omega) (by rfl) (pa_cons (pv 0) (pa_cons (pv 1) pa_nil)))) (pg_name (i := 2) sc_origins.nd rfl (Or.inl rfl))
   (gss_cons (gs_yield (pv 2))
  gss_nil))
  gss_nil))), ?_⟩
    walk_at "sq go"
    refine ⟨⟨g0⟩, ?_⟩
    walk_at "sq go"
    refine ⟨⟨fun k hk => (bk k hk).1⟩, fun H1 s1 => ?_⟩
    have hS1 := s1.seq hS
    walk_at "sq go"
    refine ⟨⟨g0, g1, bk, pr⟩, fun ss l H2 pm s2 nl hl => ?_⟩
    walk_at "sq go"
    have lss : ss.length ≤ 10000 := by
      have := len_orig (goal := goal) (row := ns) fun k hk => (bk k hk).1
      rw [pm.length_eq]
      omega
    refine gfor_list (K := K) (a := l) (xs := iv ss) (fun i ys σ H' => Keep (∃ x, σ = [some (.int goal), some (.ref p), x] ∧ ys = iv (ss.take i) ∧ H' = H2)) ⟨none, rfl, rfl, rfl⟩ (fun i ys σ H' _ h => ?_) (fun i x ys σ H' hx h => ?_) (fun ys σ H' h => ?_)
    · obtain ⟨_, _, _, rfl⟩ := h.o
      exact seqL_of hl
    · obtain ⟨_, rfl, rfl, rfl⟩ := h.o
      obtain ⟨v, hv, rfl⟩ := iv_get hx
      have lz : (iv (ss.take i)).length < sizeLine := by
        rw [iv_len, List.length_take, sizeLine_eq]
        omega
      walk_at "sq go"
      refine ⟨_, rfl, ?_, rfl⟩
      rw [iv_app, List.take_add_one, hv]
      rfl
    · obtain ⟨_, rfl, rfl, rfl⟩ := h.o
      rw [iv_len, List.take_length]
      exact q ss _ pm (s1.trans s2)

/-! ### the source of draws (a list: great cells, the digits left, a mix, a count) -/
def RB (r d : Addr) (N : Int) (ds : List Int) (a mix n : Int) (H : Hp) : Prop :=
  H r = some (.lst [.ref d, .int a, .int mix, .int n]) ∧ H d = some (.lst (iv ds)) ∧ d ≠ r ∧ 0 ≤ mix ∧ mix < 2305843009213693952 ∧ 0 ≤ n ∧ n ≤ N
def rgB (r d : Addr) (N : Int) : Rg where
  I := fun H => ∃ ds a mix n, RB r d N ds a mix n H
  S := fun x => x = r ∨ x = d
  loc := fun H H' e ⟨ds, a, mix, n, h1, h2, h3⟩ => ⟨ds, a, mix, n, (e r (.inl rfl)).trans h1, (e d (.inr rfl)).trans h2, h3⟩
  has := fun H x ⟨ds, a, mix, n, h1, h2, _⟩ hx => by
    rcases hx with rfl | rfl
    · rw [h1]; exact fun z => nomatch z
    · rw [h2]; exact fun z => nomatch z
/-- the source is drawn from: all else stands -/
theorem SepB.redo {r d : Addr} {N N' : Int} {G H H' : Hp} (s : Sep (rgB r d N) G H) (e : ∀ b o, b ≠ r → b ≠ d → H b = some o → H' b = some o) (h : ∃ ds a mix n, RB r d N' ds a mix n H') : Sep (rgB r d N') G H' := by
  refine ⟨h, fun b o q => ?_, s.off⟩
  have nr : b ≠ r := fun z => by
    have := s.off b (.inl z)
    rw [q] at this
    cases this
  have nd : b ≠ d := fun z => by
    have := s.off b (.inr z)
    rw [q] at this
    cases this
  exact e b o nr nd (s.same b o q)
theorem SepB.mono {r d : Addr} {N N' : Int} {G H : Hp} (s : Sep (rgB r d N) G H) (h : N ≤ N') : Sep (rgB r d N') G H := by
  obtain ⟨ds, a, mix, n, h1, h2, h3, h4, h5, h6, h7⟩ := s.inv
  exact SepB.redo s (fun _ _ _ _ z => z) ⟨ds, a, mix, n, h1, h2, h3, h4, h5, h6, by omega⟩
abbrev s_law_source : Stmt := topS 25
theorem sc_law_source : FnScope ["script", "mix", "digits", "cell", "span"] ["script"] (defScope s_law_source) := ⟨rfl, rfl, rfl, by decide +kernel, rfl, by decide +kernel, by decide +kernel⟩

def spSource (K : PySem.W.Frag) : Sp := fun vs H Q _ => ∃ (p : Addr) (ns : List Int), vs = [.ref p] ∧ SqL K H p (iv ns) ∧ ns.length ≤ 63 ∧ ∀ r d H', Same H H' → Sep (rgB r d 0) H H' → Q (.ref r) H'
theorem cal_source (D : DefAt K mg "_law_source" s_law_source ["script"]) (B : Bt mg) : Cal P w K mg base 1 "_law_source" (spSource K) [] := by
  refine D.cal sc_law_source (fun vs H Q E h => ?_) (fun f cdv A outer s H vs Q E hr h => ?_)
  · obtain ⟨p, ns, rfl, _⟩ := h
    rfl
  · obtain ⟨p, ns, rfl, hS, hl, q⟩ := h
    refine ⟨_, (pss_cons (ps_set (i := 1) sc_law_source.nd rfl (Or.inl rfl) pe_int)
  (pss_cons (ps_set (i := 2) sc_law_source.nd rfl (Or.inl rfl) (pe_lst pa_nil))
  (pss_cons (ps_for PassesOwn.never rfl (pi_listK (K := K) (pv 0)) (pg_name (i := 3) sc_law_source.nd rfl (Or.inl rfl))
   (pss_cons (ps_set (i := 1) sc_law_source.nd rfl (Or.inl rfl) (pe_op op_mod (pe_op op_add (pe_op op_mulW (pv 1) pe_int) (pv 3)) (pe_op op_sub (pe_op op_powW pe_int pe_int) pe_int)))
  (pss_cons (ps_set (i := 4) sc_law_source.nd rfl (Or.inl rfl) (pe_callB (call_max2 rfl) (by rfl) B.max (by decide +kernel) (pa_cons (pv 3) (pa_cons (pe_op op_sub pe_int (pv 3)) pa_nil))))
  (pss_one (ps_if (pt_cmpR op_ge (pv 4) (pe_op op_powW pe_int pe_int) (nomark _)) (pss_one (ps_expr (pe_bm PySem.F.plainAttrs_list PySem.F.slot_list_append PySem.F.type_list_append mt_append (pv 2) (pa_cons (pe_op op_sub (pv 4) (pe_op op_powW pe_int pe_int)) pa_nil)))) pss_nil)))))
  (pss_one (ps_ret (pe_lst (pa_cons (pv 2) (pa_cons pe_int (pa_cons (pv 1) (pa_cons pe_int pa_nil)))))))))), ?_⟩
    walk_at "sq go"
    intro d nd
    have s1 : Same H (upd H d (.lst [])) := same_new nd
    have npd : ∀ H' : Hp, Same H H' → SqL K H' p (iv ns) := fun H' s => s.seq hS
    walk_at "sq go"
    refine for_list (K := K) (a := p) (xs := iv ns) (fun i σ H' => Keep (∃ ds mix y z, σ = [some (.ref p), some (.int mix), some (.ref d), y, z] ∧ H' = upd H d (.lst (iv ds)) ∧ ds.length ≤ i ∧ 0 ≤ mix ∧ mix < 2305843009213693952))
      ⟨[], 271828182845904, none, none, rfl, rfl, Nat.le_refl _, by decide, by decide⟩ (fun i σ H' _ h => ?_) (fun i x σ H' hx h => ?_) (fun σ H' h => ?_)
    · obtain ⟨ds, mix, y, z, _, rfl, _⟩ := h.o
      exact npd _ (same_new nd)
    · obtain ⟨ds, mix, y, z, rfl, rfl, hds, h0, h1⟩ := h.o
      obtain ⟨n, hn, rfl⟩ := iv_get hx
      have hi : i < ns.length := (List.getElem?_eq_some_iff.mp hn).1
      have hm : CMulW mix 1000033 := Sm.wide (a := 61) (b := 20) (by unfold Sm; omega) (by unfold Sm; decide) (by decide) (by decide) (by decide)
      have e61 : (2 : Int) ^ (61 : Int).toNat - 1 = 2305843009213693951 := by decide
      walk_at "sq go"
      have m0 := Int.emod_nonneg (mix * 1000033 + n) (show (2 : Int) ^ (61 : Int).toNat - 1 ≠ 0 by rw [e61]; decide)
      have m1 := Int.emod_lt_of_pos (mix * 1000033 + n) (show 0 < (2 : Int) ^ (61 : Int).toNat - 1 by rw [e61]; decide)
      rw [e61] at m1
      refine ifD (fun c => ?_) (fun c => ?_)
      · walk_at "sq go"
        rw [upd_upd, iv_app]
        exact ⟨_, _, _, _, rfl, rfl, by rw [List.length_append, List.length_singleton]; omega, m0, by rw [e61]; omega⟩
      · exact ⟨ds, _, _, _, rfl, rfl, by omega, m0, by rw [e61]; omega⟩
    · obtain ⟨ds, mix, y, z, rfl, rfl, hds, h0, h1⟩ := h.o
      walk_at "sq go"
      intro r nr
      have ndr : d ≠ r := fun e => by
        rw [← e, upd_same] at nr
        cases nr
      have s2 : Same H (upd H d (.lst (iv ds))) := same_new nd
      refine q r d _ (s2.trans (same_new nr)) ⟨⟨ds, 0, mix, 0, upd_same, by rw [upd_ne ndr, upd_same], ndr, h0, by omega, by decide, by decide⟩, s2.trans (same_new nr), fun a ha => ?_⟩
      rcases ha with rfl | rfl
      · exact s2.free nr
      · exact nd

abbrev s_law_draw : Stmt := topS 26
theorem sc_law_draw : FnScope ["source", "many", "drawn", "mixed"] ["source", "many"] (defScope s_law_draw) := ⟨rfl, rfl, rfl, by decide +kernel, rfl, by decide +kernel, by decide +kernel⟩

def spDraw : Sp := fun vs H Q _ => ∃ (r d : Addr) (m N : Int) (G : Hp), vs = [.ref r, .int m] ∧ Sep (rgB r d N) G H ∧ Keep (0 < m ∧ m < 2 ^ 240 ∧ N < 2 ^ 60) ∧ ∀ v H', 0 ≤ v → v < m → Sep (rgB r d (N + 1)) G H' → Q (.int v) H'
theorem cal_draw (D : DefAt K mg "_law_draw" s_law_draw ["source", "many"]) (B : Bt mg) : Cal P w K mg base 1 "_law_draw" spDraw [] := by
  refine D.cal sc_law_draw (fun vs H Q E h => ?_) (fun f cdv A outer s H vs Q E hr h => ?_)
  · obtain ⟨r, d, m, N, G, rfl, _⟩ := h
    rfl
  · obtain ⟨r, d, m, N, G, rfl, hS, ⟨hm, hmb, hN⟩, q⟩ := h
    have hmz : m.natAbs.log2 < 9000 := Nat.lt_trans ((show Sm 240 m by unfold Sm; omega).lg (by decide)) (by decide)
    obtain ⟨ds0, a0, mix, n, hr0, hd0, ndr, h0, h1, n0, n1⟩ := id hS.inv
    refine ⟨_, (pss_cons (ps_while PassesOwn.never (PW.pt (pw_and (pt_cmpR op_lt (pe_ix (ix_listK (K := K)) (pv 0) pe_int (fun _ _ => rfl)) pe_int (nomark _)) (pw_and1 (pt_cmpR (op_neDK (K := K) hr.units) (pe_ix (ix_listK (K := K)) (pv 0) pe_int (fun _ _ => rfl)) (pe_lst pa_nil) (nomark _)))))
   (pss_one (ps_asg (pe_bm PySem.F.plainAttrs_list PySem.F.slot_list_pop PySem.F.type_list_pop mt_popAt (pe_ix (ix_listK (K := K)) (pv 0) pe_int (fun _ _ => rfl)) (pa_cons pe_int pa_nil)) (pg_sub (pv 0) pe_int set_list))))
  (pss_cons (ps_if (pt_cmpR op_ge (pe_ix (ix_listK (K := K)) (pv 0) pe_int (fun _ _ => rfl)) pe_int (nomark _)) (pss_cons (ps_set (i := 2) sc_law_draw.nd rfl (Or.inl rfl) (pe_op op_mod (pe_ix (ix_listK (K := K)) (pv 0) pe_int (fun _ _ => rfl)) (pv 1)))
  (pss_cons (ps_asg (pe_op op_fdivW (pe_ix (ix_listK (K := K)) (pv 0) pe_int (fun _ _ => rfl)) (pv 1)) (pg_sub (pv 0) pe_int set_list))
  (pss_one (ps_ret (pv 2))))) pss_nil)
  (pss_cons (ps_asg (pe_op op_add (pe_ix (ix_listK (K := K)) (pv 0) pe_int (fun _ _ => rfl)) pe_int) (pg_sub (pv 0) pe_int set_list))
  (pss_cons (ps_set (i := 3) sc_law_draw.nd rfl (Or.inl rfl) (pe_op op_mulW (pe_op op_add (pe_ix (ix_listK (K := K)) (pv 0) pe_int (fun _ _ => rfl)) pe_int) (pe_op op_powW (pe_op op_add (pe_ix (ix_listK (K := K)) (pv 0) pe_int (fun _ _ => rfl)) pe_int) pe_int)))
  (pss_cons (ps_set (i := 3) sc_law_draw.nd rfl (Or.inl rfl) (pe_op op_mod (pe_op op_add (pv 3) (pe_op op_mulW pe_int (pe_ix (ix_listK (K := K)) (pv 0) pe_int (fun _ _ => rfl)))) (pe_op op_sub (pe_op op_powW pe_int pe_int) pe_int)))
  (pss_one (ps_ret (pe_op op_mod (pe_op op_fdivW (pe_op op_mod (pe_op op_powW (pv 3) pe_int) (pe_op op_add (pe_op op_powW pe_int pe_int) pe_int)) pe_int) (pv 1))))))))), ?_⟩
    refine ⟨fun k σ H' => Keep (∃ ds a, σ = [some (.ref r), some (.int m), none, none] ∧ k = ds.length ∧ RB r d N ds a mix n H' ∧ ∀ b o, b ≠ r → b ≠ d → H b = some o → H' b = some o), ⟨_, ds0, a0, rfl, rfl, ⟨hr0, hd0, ndr, h0, h1, n0, n1⟩, fun _ _ _ _ z => z⟩, fun k σ H' h => ?_⟩
    obtain ⟨ds, a, rfl, rfl, ⟨gr, gd, _⟩, ge⟩ := h.o
    clear h
    have cm : CDivW a m := ⟨hm, hmz⟩
    have p3 : CPowW (n + 1 + 3) 3 := ⟨by decide, by decide, Nat.lt_trans ((show Sm 61 (n + 1 + 3) by unfold Sm; omega).lg (by decide)) (by decide)⟩
    have m3 : CMulW (mix + 7) ((n + 1 + 3) ^ (3 : Int).toNat) := by
      have e1 : Sm 62 (mix + 7) := by unfold Sm; omega
      have e2 : Sm 61 (n + 1 + 3) := by unfold Sm; omega
      have e3 : (n + 1 + 3) ^ (3 : Int).toNat = (n + 1 + 3) * (n + 1 + 3) * (n + 1 + 3) := by
        show (n + 1 + 3) ^ 3 = _
        rw [Int.pow_succ, Int.pow_succ, Int.pow_succ, Int.pow_zero, Int.one_mul]
      rw [e3]
      exact e1.wide ((e2.mul e2).mul e2) (by decide) (by decide) (by decide)
    have m4 : CMulW 1000081 (n + 1) := Sm.wide (a := 20) (b := 61) (by unfold Sm; decide) (by unfold Sm; omega) (by decide) (by decide) (by decide)
    have e61 : (2 : Int) ^ (61 : Int).toNat - 1 = 2305843009213693951 := by decide
    have p5 : CPowW (((mix + 7) * (n + 1 + 3) ^ (3 : Int).toNat + 1000081 * (n + 1)) % (2 ^ (61 : Int).toNat - 1)) 5 := by
      rw [e61]
      generalize (mix + 7) * (n + 1 + 3) ^ (3 : Int).toNat + 1000081 * (n + 1) = y
      exact ⟨by decide, by decide, Nat.lt_trans ((show Sm 61 (y % 2305843009213693951) by unfold Sm; omega).lg (by decide)) (by decide)⟩
    walk_at "sq go"
    refine ifD (fun c => ?_) (fun c => ?_)
    · walk_at "sq go"
      intro e ne
      refine r_neI (xs := ds) (ys := []) (by walk_at "sq sql") (by walk_at "sq sql") ?_
      walk_at "sq go"
      have ge2 : ∀ b o, b ≠ r → b ≠ d → H b = some o → upd H' e (.lst []) b = some o := fun b o h1 h2 z => upd_keep ne (ge b o h1 h2 z)
      have gr2 := upd_keep (o := .lst []) ne gr
      have gd2 := upd_keep (o := .lst []) ne gd
      generalize upd H' e (.lst []) = H2 at ge2 gr2 gd2
      clear ge gr gd ne
      refine ifN (fun c2 => ?_) (fun c2 => ?_)
      · obtain ⟨x, rest, rfl⟩ : ∃ x rest, ds = x :: rest := by
          cases ds with
          | nil => exact absurd rfl c2
          | cons x rest => exact ⟨x, rest, rfl⟩
        refine ⟨fun σ' H3 => Keep (σ' = [some (.ref r), some (.int m), none, none] ∧ RB r d N rest x mix n H3 ∧ ∀ b o, b ≠ r → b ≠ d → H b = some o → H3 b = some o), fun σ' H3 h3 => ?_, ?_⟩
        · obtain ⟨e1, e2, e3⟩ := h3.o
          exact ⟨rest.length, by rw [List.length_cons]; omega, rest, x, e1, rfl, e2, e3⟩
        · walk_at "sq go"
          refine ⟨seqIx0 (by simp), ?_⟩
          walk_at "sq go"
          exact ⟨rfl, ⟨upd_same, by rw [upd_ne ndr, upd_same]; rfl, ndr, h0, h1, n0, n1⟩, fun b o k1 k2 z => upd_off k1 (upd_off k2 (ge2 b o k1 k2 z))⟩
      · have gd := gd2
        have gr := gr2
        have ge := ge2
        walk_at "sq go"
        refine ifD (fun c4 => ?_) (fun c4 => ?_)
        · walk_at "sq go"
          have v0 := Int.emod_nonneg a (show m ≠ 0 by omega)
          have v1 := Int.emod_lt_of_pos a hm
          refine q _ _ v0 v1 (SepB.redo hS (fun b o k1 k2 z => upd_off k1 (ge b o k1 k2 z)) ⟨ds, a / m, mix, n, upd_same, ?_, ndr, h0, h1, n0, by omega⟩)
          rw [upd_ne ndr]
          exact gd
        · walk_at "sq go"
          have v0 : ∀ y : Int, 0 ≤ y % m := fun y => Int.emod_nonneg y (show m ≠ 0 by omega)
          have v1 : ∀ y : Int, y % m < m := fun y => Int.emod_lt_of_pos y hm
          refine q _ _ (v0 _) (v1 _) ?_
          refine SepB.redo hS (fun b o k1 k2 z => upd_off k1 (ge b o k1 k2 z)) ⟨ds, a, mix, n + 1, upd_same, ?_, ndr, h0, h1, by omega, by omega⟩
          rw [upd_ne ndr]
          exact gd
    · skip
      walk_at "sq go"
      refine ifD (fun c4 => ?_) (fun c4 => ?_)
      · walk_at "sq go"
        have v0 := Int.emod_nonneg a (show m ≠ 0 by omega)
        have v1 := Int.emod_lt_of_pos a hm
        refine q _ _ v0 v1 (SepB.redo hS (fun b o k1 k2 z => upd_off k1 (ge b o k1 k2 z)) ⟨ds, a / m, mix, n, upd_same, ?_, ndr, h0, h1, n0, by omega⟩)
        rw [upd_ne ndr]
        exact gd
      · walk_at "sq go"
        have v0 : ∀ y : Int, 0 ≤ y % m := fun y => Int.emod_nonneg y (show m ≠ 0 by omega)
        have v1 : ∀ y : Int, y % m < m := fun y => Int.emod_lt_of_pos y hm
        refine q _ _ (v0 _) (v1 _) ?_
        refine SepB.redo hS (fun b o k1 k2 z => upd_off k1 (ge b o k1 k2 z)) ⟨ds, a, mix, n + 1, upd_same, ?_, ndr, h0, h1, by omega, by omega⟩
        rw [upd_ne ndr]
        exact gd

abbrev s_law_row : Stmt := topS 30
theorem sc_law_row : FnScope ["source", "many", "wide", "way", "again", "found", "time", "some"] ["source", "many", "wide"] (defScope s_law_row) := ⟨rfl, rfl, rfl, by decide +kernel, rfl, by decide +kernel, by decide +kernel⟩

/-- replacements from 2 to wide -/
def Row (ns : List Int) (wide : Int) : Prop := ∀ k ∈ ns, (2 : Int) ≤ k ∧ k ≤ wide
def spRow : Sp := fun vs H Q _ => ∃ (r d : Addr) (many wide N : Int) (G : Hp), vs = [.ref r, .int many, .int wide] ∧ Sep (rgB r d N) G H ∧ Keep (0 ≤ many ∧ many ≤ 100 ∧ 2 ≤ wide ∧ wide < 2 ^ 100 ∧ N < 2 ^ 59) ∧
  ∀ p ns H', G p = none → ns.length ≤ many.toNat → Row ns wide → Sep (rgB r d (N + 203)) (upd G p (.lst (iv ns))) H' → Q (.ref p) H'
theorem cal_row (D : DefAt K mg "_law_row" s_law_row ["source", "many", "wide"]) (B : Bt mg) (c_law_draw : Cal P w K mg base 1 "_law_draw" spDraw []) : Cal P w K mg base 2 "_law_row" spRow [] := by
  refine D.cal sc_law_row (fun vs H Q E h => ?_) (fun f cdv A outer s H vs Q E hr h => ?_)
  · obtain ⟨r, d, many, wide, N, G, rfl, _⟩ := h
    rfl
  · obtain ⟨r, d, many, wide, N, G, rfl, hS, ⟨m0, m1, w2, wb, hN⟩, q⟩ := h
    refine ⟨_, (pss_cons (ps_par (i := 3) (j := 4) rfl sc_law_row.nd rfl rfl (by decide) rfl rfl (pa_cons (pe_c c_law_draw hr (by first | decide | omega) (by rfl) (pa_cons (pv 0) (pa_cons pe_int pa_nil))) (pa_cons (pe_op op_add pe_int (pe_c c_law_draw hr (by first | decide | omega) (by rfl) (pa_cons (pv 0) (pa_cons (pe_op op_sub (pv 2) pe_int) pa_nil)))) pa_nil)) (by rfl))
  (pss_cons (ps_set (i := 5) sc_law_row.nd rfl (Or.inl rfl) (pe_lst pa_nil))
  (pss_cons (ps_for PassesOwn.never rfl (pi_range1 (by rfl) B.range (pa_cons (pe_c c_law_draw hr (by first | decide | omega) (by rfl) (pa_cons (pv 0) (pa_cons (pe_op op_add (pv 1) pe_int) pa_nil))) pa_nil)) (pg_name (i := 6) sc_law_row.nd rfl (Or.inl rfl))
   (pss_cons (ps_set (i := 7) sc_law_row.nd rfl (Or.inl rfl) (pe_lst (pa_cons (pe_op op_add pe_int (pe_c c_law_draw hr (by first | decide | omega) (by rfl) (pa_cons (pv 0) (pa_cons (pe_op op_sub (pv 2) pe_int) pa_nil)))) (pa_cons (pe_op op_add pe_int (pe_c c_law_draw hr (by first | decide | omega) (by rfl) (pa_cons (pv 0) (pa_cons (pe_callB (call_min2 rfl) (by rfl) B.min (by decide +kernel) (pa_cons pe_int (pa_cons (pe_op op_sub (pv 2) pe_int) pa_nil))) pa_nil)))) (pa_cons (pv 4) pa_nil)))))
  (pss_one (ps_expr (pe_bm PySem.F.plainAttrs_list PySem.F.slot_list_append PySem.F.type_list_append mt_append (pv 5) (pa_cons (pe_ix (ix_listK (K := K)) (pv 7) (pv 3) (fun _ _ => rfl)) pa_nil))))))
  (pss_one (ps_ret (pv 5)))))), ?_⟩
    walk_at "sq go"
    refine ⟨⟨by omega, by omega, by omega⟩, fun way H1 y0 y1 hS1 => ?_⟩
    walk_at "sq go"
    refine ⟨⟨by omega, by omega, by omega⟩, fun ag H2 a0 a1 hS2 => ?_⟩
    walk_at "sq go"
    intro p np
    have gp : G p = none := hS2.free np
    have hS3 := hS2.new np (.lst [])
    walk_at "sq go"
    refine ⟨⟨by omega, by omega, by omega⟩, fun tn H3 t0 t1 hS4 => ?_⟩
    walk_at "sq go"
    refine for_range (lo := 0) (n := tn.toNat) (fun i σ H' => Keep (∃ ns x y, σ = [some (.ref r), some (.int many), some (.int wide), some (.int way), some (.int (2 + ag)), some (.ref p), x, y] ∧ Sep (rgB r d (N + 3 + 2 * i)) (upd G p (.lst (iv ns))) H' ∧ ns.length = i ∧ Row ns wide))
      ⟨[], none, none, rfl, SepB.mono hS4 (by omega), rfl, fun _ z => nomatch z⟩ (fun i σ H' hi h => ?_) (fun σ H' h => ?_)
    · obtain ⟨ns, x, y, rfl, hs, hl, hrow⟩ := h.o
      walk_at "sq go"
      refine ⟨⟨by omega, by omega, by omega⟩, fun b1 K1 b10 b11 hs1 => ?_⟩
      walk_at "sq go"
      refine ⟨⟨by split <;> omega, by split <;> omega, by omega⟩, fun b2 K2 b20 b21 hs2 => ?_⟩
      walk_at "sq go"
      intro e ne
      have hs3 := hs2.on (same_new (o := .lst [.int (2 + b1), .int (2 + b2), .int (2 + ag)]) ne)
      have hb2 : 2 + b2 ≤ wide := by
        split at b21 <;> omega
      have pick : ∃ v, atI [V.int (2 + b1), V.int (2 + b2), V.int (2 + ag)] way = some (.int v) ∧ 2 ≤ v ∧ v ≤ wide := by
        rcases (show way = 0 ∨ way = 1 ∨ way = 2 by omega) with z | z | z <;> rw [z]
        · exact ⟨_, atI_nat (j := 0) rfl, by omega, by omega⟩
        · exact ⟨_, atI_nat (j := 1) rfl, by omega, by omega⟩
        · exact ⟨_, atI_nat (j := 2) rfl, by omega, by omega⟩
      obtain ⟨v, ev, v2, vw⟩ := pick
      have hp : upd K2 e (.lst [.int (2 + b1), .int (2 + b2), .int (2 + ag)]) p = some (.lst (iv ns)) := hs3.get upd_same
      have hs4 := hs3.put upd_same (.lst (iv ns ++ [.int v]))
      rw [upd_upd, iv_app] at hs4
      walk_at "sq go"
      refine ⟨ns ++ [v], _, _, rfl, ?_, by simp [hl], fun k hk => ?_⟩
      · rw [iv_app]
        exact SepB.mono hs4 (by omega)
      · rcases List.mem_append.mp hk with z | z
        · exact hrow k z
        · rw [List.mem_singleton.mp z]
          exact ⟨v2, vw⟩
    · obtain ⟨ns, x, y, rfl, hs, hl, hrow⟩ := h.o
      walk_at "sq go"
      exact q p ns H' gp (by omega) hrow (SepB.mono hs (by omega))

theorem sum_range (f : Int → Int) (n : Nat) : ((List.range n).map fun (t : Nat) => f (0 + (t : Int))).sum = sm 0 f n := by
  have e := sf_range (fun x => x) f n
  unfold sf at e
  rw [List.map_id'] at e
  exact e
theorem sum_box {ns : List Int} (h : ∀ k ∈ ns, (2 : Int) ≤ k ∧ k ≤ 30) : 0 ≤ ns.sum ∧ ns.sum ≤ 30 * (ns.length : Int) := by
  induction ns with
  | nil => decide
  | cons k r ih =>
    obtain ⟨a, b⟩ := ih fun j hj => h j (List.mem_cons_of_mem _ hj)
    have c := h k (List.mem_cons_self ..)
    rw [List.sum_cons, List.length_cons]
    omega
/-- lists of this law -/
def R12 (ns : List Int) : Prop := (∀ k ∈ ns, 2 ≤ k ∧ k ≤ 30) ∧ ns.length ≤ 5
theorem R12.two {ns : List Int} (h : R12 ns) : Two ns := fun k hk => (h.1 k hk).1
theorem R12.mid {ns : List Int} (h : R12 ns) : Mid ns := fun k hk => ⟨(h.1 k hk).1, Int.lt_of_le_of_lt (h.1 k hk).2 (by decide)⟩
theorem R12.thou {ns : List Int} (h : R12 ns) : ∀ k ∈ ns, 2 ≤ k ∧ k ≤ 1000 := fun k hk => ⟨(h.1 k hk).1, by have := (h.1 k hk).2; omega⟩
theorem R12.sm {ns : List Int} (h : R12 ns) : ∀ k ∈ ns, Sm 10 k := fun k hk => by
  have := h.1 k hk
  unfold Sm
  omega
theorem R12.fit {ns : List Int} (h : R12 ns) {m : Int} (hm : Sm 10 m) : Fit ns m := ⟨10, 10, h.sm, hm, by decide, by decide, by have := h.2; omega⟩
theorem R12.fitP {ns : List Int} (h : R12 ns) {m : Int} {c : Nat} (hm : Sm c m) (h1 : 10 ≤ c) (h2 : c ≤ 1000) : FitP ns m := ⟨10, c, h.sm, hm, by decide, h1, by have := h.2; omega⟩
theorem R12.reach {ns : List Int} (h : R12 ns) {m : Int} (h1 : 1 ≤ m) (hm : Sm 10 m) : Sm 60 (reachOf ns m) := by
  have z := rbs_Sm (row := ns.reverse) (b := 10) h1 (fun j hj => h.two j (List.mem_reverse.mp hj)) (fun k hk => h.sm k (List.mem_reverse.mp hk)) hm (by decide)
  rw [reachOf_rev] at z
  refine z.mono ?_
  have := h.2
  rw [List.length_reverse]
  omega
theorem R12.prod {ns : List Int} (h : R12 ns) : 1 ≤ prodL ns ∧ Sm 60 (prodL ns) := by
  refine ⟨prodL_pos h.two, ?_⟩
  have z := sm_prod (ns := ns) (m := 1) (c := 10) h.sm (by unfold Sm; decide)
  rw [Int.one_mul] at z
  refine z.mono ?_
  have := h.2
  omega
abbrev s_law_reach_right : Stmt := topS 32
theorem sc_law_reach_right : FnScope ["row", "goal", "far", "here", "later", "one"] ["row", "goal"] (defScope s_law_reach_right) := ⟨rfl, rfl, rfl, by decide +kernel, rfl, by decide +kernel, by decide +kernel⟩

def spRR (K : PySem.W.Frag) : Sp := fun vs H Q _ => ∃ (p : Addr) (ns : List Int) (m : Int), vs = [.ref p, .int m] ∧ SqL K H p (iv ns) ∧ Keep (R12 ns ∧ 1 ≤ m ∧ m ≤ 100) ∧ ∀ H', Same H H' → Q (.bl true) H'
theorem cal_rr {d : Nat} (D : DefAt K mg "_law_reach_right" s_law_reach_right ["row", "goal"]) (B : Bt mg) (c_reach : Cal P w K mg base 3 "reach" (spReach K) []) (c_count_origins : Cal P w K mg base 11 "count_origins" (spCountO K 7) []) : Cal P w K mg base 12 "_law_reach_right" (spRR K) [] := by
  refine D.cal sc_law_reach_right (fun vs H Q E h => ?_) (fun f cdv A outer s H vs Q E hr h => ?_)
  · obtain ⟨p, ns, m, rfl, _⟩ := h
    rfl
  · obtain ⟨p, ns, m, rfl, hS, ⟨r12, m1, m2⟩, q⟩ := h
    refine ⟨_, (pss_cons (ps_set (i := 2) sc_law_reach_right.nd rfl (Or.inr rfl) (pe_c c_reach hr (by first | decide | omega) (by rfl) (pa_cons (pv 0) (pa_cons (pv 1) pa_nil))))
  (pss_cons (ps_if (pt_cmpR op_ge (pv 2) (pe_op op_sub (pe_op op_powW pe_int pe_int) pe_int) (nomark _)) (pss_one (ps_ret pe_bl)) pss_nil)
  (pss_cons (ps_set (i := 3) sc_law_reach_right.nd rfl (Or.inl rfl) (pe_callB (cr_sumK (K := K) rfl) (by rfl) B.sum (by decide +kernel) (pa_cons (pe_lc (own := [("one", 5)]) (g := gName 5) (by rfl) sc_law_reach_right.nd (pi_range1 (by rfl) B.range (pa_cons (pe_op op_add (pv 1) pe_int) pa_nil)) (blkOk_by (own := [("one", 5)]) (N := ["row", "goal", "far", "here", "later", "one"]) (sc := defScope s_law_reach_right) (by decide +kernel)) (fun _ _ _ _ _ => (pg_name (i := 5) sc_law_reach_right.nd rfl (Or.inl rfl))) (fun _ _ _ _ _ => pts_nil) (fun _ _ _ _ _ => (pe_c c_count_origins hr (by first | decide | omega) (by rfl) (pa_cons (pv 5) (pa_cons (pv 0) (pa_cons (pv 2) pa_nil)))))) pa_nil)))
  (pss_cons (ps_set (i := 4) sc_law_reach_right.nd rfl (Or.inl rfl) (pe_callB (cr_sumK (K := K) rfl) (by rfl) B.sum (by decide +kernel) (pa_cons (pe_lc (own := [("one", 5)]) (g := gName 5) (by rfl) sc_law_reach_right.nd (pi_range1 (by rfl) B.range (pa_cons (pe_op op_add (pv 1) pe_int) pa_nil)) (blkOk_by (own := [("one", 5)]) (N := ["row", "goal", "far", "here", "later", "one"]) (sc := defScope s_law_reach_right) (by decide +kernel)) (fun _ _ _ _ _ => (pg_name (i := 5) sc_law_reach_right.nd rfl (Or.inl rfl))) (fun _ _ _ _ _ => pts_nil) (fun _ _ _ _ _ => (pe_c c_count_origins hr (by first | decide | omega) (by rfl) (pa_cons (pv 5) (pa_cons (pv 0) (pa_cons (pe_op op_add (pv 2) pe_int) pa_nil)))))) pa_nil)))
  (pss_one (ps_ret (pe_and (pe_cmpR op_eq (pv 3) (pe_op op_add (pv 2) pe_int) (nomark _)) (pe_one (pe_cmpR op_eq (pv 4) (pe_op op_add (pv 2) pe_int) (nomark _)))))))))), ?_⟩
    have smm : Sm 10 m := by unfold Sm; omega
    walk_at "sq go"
    refine ⟨⟨r12.two, m1, r12.fit smm⟩, fun H1 s1 => ?_⟩
    have Rs := r12.reach m1 smm
    have Rm := reach_pos m1 r12.two
    have all : ∀ x, 1 ≤ x → x ≤ reachOf ns m → sqz x ns ≤ m := fun x h0 h1 => reach_all m1 r12.two (by omega) h1
    have nxt := reach_next m1 r12.two
    have hS1 := s1.seq hS
    generalize reachOf ns m = R at *
    walk_at "sq go"
    refine ifD (fun _ => ?_) (fun _ => ?_)
    · walk_at "sq go"
      exact q H1 s1
    · obtain ⟨Hb, eHb⟩ : ∃ x, x = H1 := ⟨_, rfl⟩
      rw [← eHb]
      have hSx := hS1
      rw [← eHb] at hSx s1
      obtain ⟨L, eL⟩ : ∃ x, x = R := ⟨_, rfl⟩
      have L0 : 0 ≤ L := by omega
      have Ls : Sm 250 L := by rw [eL]; exact Rs.mono (by decide)
      walk_at "sq go"
      intro D nD
      refine lc_range (lo := 0) (n := (m + 1).toNat) (fun i H' => Keep (Same Hb H' ∧ H' D = some (.lst (iv ((List.range i).map fun (t : Nat) => cnt0 (0 + (t : Int)) ns L))))) ⟨same_new nD, upd_same⟩ (fun i H' hi h => ?_) (fun H' h => ?_)
      · obtain ⟨sx, hD⟩ := h.o
        have hSx' := sx.seq hSx
        have li : (iv ((List.range i).map fun (t : Nat) => cnt0 (0 + (t : Int)) ns L)).length < sizeLine := by
          rw [iv_len, List.length_map, List.length_range, sizeLine_eq]
          omega
        walk_at "sq go"
        refine ⟨⟨by have := r12.2; omega, by omega, r12.thou, by have := r12.2; omega, by omega, by rw [← eL]; exact Ls⟩, fun H3 s3 => ?_⟩
        have hD3 := s3 _ _ hD
        walk_at "sq go"
        exact ⟨same_put (sx.trans s3) nD, by rw [upd_same, List.range_succ, List.map_append]; simp [eL]⟩
      · obtain ⟨sx, hD⟩ := h.o
        have hDs := seqL_of (K := K) hD
        have eS := sum_range (fun g => cnt0 g ns L) (m + 1).toNat
        walk_at "sq go"
        rw [eS]
        have e1 : sm 0 (fun g => cnt0 g ns L) (m + 1).toNat = R + 1 := by
          rw [show (m + 1).toNat = m.toNat + 1 by omega, cnt0_sum r12.two L0 (by omega) fun x h0 h1 => all x h0 (by omega), eL]
        have e2 : sm 0 (fun g => cnt0 g ns (R + 1)) (m + 1).toNat = R + 1 := by
          rw [← eL]
          exact (sm_congr fun i hi => cnt0_next (g := 0 + (i : Int)) (row := ns) (last := L) L0 (by rw [eL, nxt]; omega)).trans (e1.trans (by rw [eL]))
        rw [e1]
        have sH : Same H H' := s1.trans sx
        have hSx := sx.seq hSx
        clear hDs hD sx eS nD hS1 Ls L0 e1 eL
        obtain ⟨Hb, eHb⟩ : ∃ x, x = H' := ⟨_, rfl⟩
        rw [← eHb]
        rw [← eHb] at hSx sH
        obtain ⟨L, eL⟩ : ∃ x, x = R + 1 := ⟨_, rfl⟩
        have L0 : 0 ≤ L := by omega
        have Ls : Sm 250 L := by
          rw [eL]
          exact (Sm.add Rs (show Sm 60 1 by unfold Sm; decide)).mono (by decide)
        rw [← eL] at e2
        walk_at "sq go"
        intro D nD
        refine lc_range (lo := 0) (n := (m + 1).toNat) (fun i H' => Keep (Same Hb H' ∧ H' D = some (.lst (iv ((List.range i).map fun (t : Nat) => cnt0 (0 + (t : Int)) ns L))))) ⟨same_new nD, upd_same⟩ (fun i H' hi h => ?_) (fun H' h => ?_)
        · obtain ⟨sx, hD⟩ := h.o
          have hSx' := sx.seq hSx
          have li : (iv ((List.range i).map fun (t : Nat) => cnt0 (0 + (t : Int)) ns L)).length < sizeLine := by
            rw [iv_len, List.length_map, List.length_range, sizeLine_eq]
            omega
          walk_at "sq go"
          refine ⟨⟨by have := r12.2; omega, by omega, r12.thou, by have := r12.2; omega, by omega, by rw [← eL]; exact Ls⟩, fun H3 s3 => ?_⟩
          have hD3 := s3 _ _ hD
          walk_at "sq go"
          exact ⟨same_put (sx.trans s3) nD, by rw [upd_same, List.range_succ, List.map_append]; simp [eL]⟩
        · obtain ⟨sx, hD⟩ := h.o
          have hDs := seqL_of (K := K) hD
          have eS := sum_range (fun g => cnt0 g ns L) (m + 1).toNat
          walk_at "sq go"
          rw [eS]
          rw [e2]
          have := q _ (sH.trans sx)
          walk_at "sq go"
          refine ifI (fun _ => ?_) (fun c => absurd (by omega) c)
          walk_at "sq go"
          have eD : decide (V.int L = (fun i j => V.int (i + j)) R 1) = true := decide_eq_true (by rw [eL])
          rw [eD]
          exact this
theorem pick3 {a b c : Int} {w : Int} {P : Int → Prop} (h0 : 0 ≤ w) (h1 : w < 3) (pa : P a) (pb : P b) (pc : P c) : ∃ v, atI [V.int a, .int b, .int c] w = some (.int v) ∧ P v := by
  rcases (show w = 0 ∨ w = 1 ∨ w = 2 by omega) with z | z | z <;> rw [z]
  · exact ⟨a, atI_nat (j := 0) rfl, pa⟩
  · exact ⟨b, atI_nat (j := 1) rfl, pb⟩
  · exact ⟨c, atI_nat (j := 2) rfl, pc⟩
theorem Sep.took {R : Rg} {G H : Hp} {p : Addr} {o : HO} (s : Sep R (upd G p o) H) (h : G p = none) : ∃ G2, Same G G2 ∧ G2 p = some o ∧ H p = some o ∧ Sep R G2 H := ⟨_, same_new h, upd_same, s.get upd_same, s⟩
abbrev s_law : Stmt := topS 33
theorem sc_law : FnScope ["script", "source", "k", "row", "product_here", "one", "far", "top", "goal", "found", "run"] ["script"] (defScope s_law) := ⟨rfl, rfl, rfl, by decide +kernel, rfl, by decide +kernel, by decide +kernel⟩

def spLaw (K : PySem.W.Frag) : Sp := fun vs H Q _ => ∃ (a : Addr) (ns : List Int), vs = [.ref a] ∧ SqL K H a (iv ns) ∧ ns.length ≤ 63 ∧ ∀ H', Q (.bl true) H'
local macro_rules | `(tactic| walk_at "sq side") => `(tactic| first
  | ((with_reducible show _ ≤ PySem.sizeLine); assumption)
  | ((with_reducible show _ < PySem.sizeLine); assumption))
theorem ok_law {f : Addr} {fd : FuncData} (F : Fun K "law" "law" s_law f fd) (B : Bt mg) (c_law_source : Cal P w K mg base 1 "_law_source" (spSource K) []) (c_law_draw : Cal P w K mg base 1 "_law_draw" spDraw []) (c_law_row : Cal P w K mg base 2 "_law_row" spRow [])
    (c_count_origins : Cal P w K mg base 11 "count_origins" (spCountO K 7) []) (c_law_reach_right : Cal P w K mg base 12 "_law_reach_right" (spRR K) []) (c_greatest_origin : Cal P w K mg base 2 "greatest_origin" (spGOrigin K) []) (c_origins : CalGn P w K mg base 3 "origins" ["length", "replacements"] (spgOrigins K))
    (c_squeezed : Cal P w K mg base 3 "squeezed" (spSq K) []) 
    : FnG P w K mg base CX0 13 f fd ["script"] (spLaw K) := by
  refine okG F sc_law (fun vs H Q E h => ?_) (fun cdv A outer s H vs Q E hG hr h => ?_)
  · obtain ⟨a, ns, rfl, _⟩ := h
    rfl
  · obtain ⟨p0, ns0, rfl, hP, hl, q⟩ := h
    refine ⟨_, (pss_cons (ps_set (i := 1) sc_law.nd rfl (Or.inl rfl) (pe_c c_law_source hr (by first | decide | omega) (by rfl) (pa_cons (pv 0) pa_nil)))
  (pss_cons (ps_for PassesOwn.never rfl (pi_range1 (by rfl) B.range (pa_cons (pe_op op_add pe_int (pe_callB (call_min2 rfl) (by rfl) B.min (by decide +kernel) (pa_cons pe_int (pa_cons (pe_callB (len_seqK (K := K)) (by rfl) B.len boot_len (pa_cons (pv 0) pa_nil)) pa_nil)))) pa_nil)) (pg_name (i := 2) sc_law.nd rfl (Or.inl rfl))
   (pss_cons (ps_asg (pe_tup (pa_cons (pe_c c_law_row hr (by first | decide | omega) (by rfl) (pa_cons (pv 1) (pa_cons pe_int (pa_cons (pe_ix (ix_listK (K := K)) (pe_lst (pa_cons pe_int (pa_cons pe_int (pa_cons pe_int pa_nil)))) (pe_c c_law_draw hr (by first | decide | omega) (by rfl) (pa_cons (pv 1) (pa_cons pe_int pa_nil))) (fun _ _ => rfl)) pa_nil)))) (pa_cons pe_int pa_nil))) (pg_tupK (K := K) (n := 2) rfl (pgs_cons (pg_name (i := 3) sc_law.nd rfl (Or.inr rfl)) (pgs_cons (pg_name (i := 4) sc_law.nd rfl (Or.inl rfl)) pgs_nil))))
  (pss_cons (ps_for PassesOwn.never rfl (pi_listK (K := K) (pv 3)) (pg_name (i := 5) sc_law.nd rfl (Or.inl rfl))
   (pss_one (ps_set (i := 4) sc_law.nd rfl (Or.inl rfl) (pe_op op_mulW (pv 4) (pv 5)))))
  (pss_cons (ps_set (i := 6) sc_law.nd rfl (Or.inr rfl) (pe_c c_law_draw hr (by first | decide | omega) (by rfl) (pa_cons (pv 1) (pa_cons (pe_op op_add (pe_op op_mulW (pe_ix (ix_listK (K := K)) (pe_lst (pa_cons pe_int (pa_cons pe_int pa_nil))) (pe_c c_law_draw hr (by first | decide | omega) (by rfl) (pa_cons (pv 1) (pa_cons pe_int pa_nil))) (fun _ _ => rfl)) (pv 4)) pe_int) pa_nil))))
  (pss_cons (ps_set (i := 7) sc_law.nd rfl (Or.inl rfl) (pe_op op_add (pe_op op_fdivW (pv 6) (pv 4)) (pe_callB (cr_sumK (K := K) rfl) (by rfl) B.sum (by decide +kernel) (pa_cons (pv 3) pa_nil))))
  (pss_cons (ps_if (pt_cmpR op_ne (pe_callB (cr_sumK (K := K) rfl) (by rfl) B.sum (by decide +kernel) (pa_cons (pe_lc (own := [("goal", 8)]) (g := gName 8) (by rfl) sc_law.nd (pi_range1 (by rfl) B.range (pa_cons (pe_op op_add (pv 7) pe_int) pa_nil)) (blkOk_by (own := [("goal", 8)]) (N := ["script", "source", "k", "row", "product_here", "one", "far", "top", "goal", "found", "run"]) (sc := defScope s_law) (by decide +kernel)) (fun _ _ _ _ _ => (pg_name (i := 8) sc_law.nd rfl (Or.inl rfl))) (fun _ _ _ _ _ => pts_nil) (fun _ _ _ _ _ => (pe_c c_count_origins hr (by first | decide | omega) (by rfl) (pa_cons (pv 8) (pa_cons (pv 3) (pa_cons (pv 6) pa_nil)))))) pa_nil)) (pe_op op_add (pv 6) pe_int) (nomark _)) (pss_one (ps_ret pe_bl)) pss_nil)
  (pss_cons (ps_for PassesOwn.never rfl (pi_range2 (by rfl) B.range (pa_cons pe_int (pa_cons pe_int pa_nil))) (pg_name (i := 8) sc_law.nd rfl (Or.inr rfl))
   (pss_cons (ps_if (pt_not (pt_val (pe_c c_law_reach_right hr (by first | decide | omega) (by rfl) (pa_cons (pv 3) (pa_cons (pv 8) pa_nil))))) (pss_one (ps_ret pe_bl)) pss_nil)
  (pss_one (ps_if (pt_cmpR op_ne (pe_op op_sub (pe_c c_greatest_origin hr (by first | decide | omega) (by rfl) (pa_cons (pv 8) (pa_cons (pv 3) pa_nil))) (pe_c c_greatest_origin hr (by first | decide | omega) (by rfl) (pa_cons (pe_op op_sub (pv 8) pe_int) (pa_cons (pv 3) pa_nil)))) (pv 4) (nomark _)) (pss_one (ps_ret pe_bl)) pss_nil))))
  (pss_one (ps_if (pt_cmpR op_le (pv 4) pe_int (nomark _)) (pss_cons (ps_set (i := 8) sc_law.nd rfl (Or.inr rfl) (pe_c c_law_draw hr (by first | decide | omega) (by rfl) (pa_cons (pv 1) (pa_cons pe_int pa_nil))))
  (pss_cons (ps_set (i := 9) sc_law.nd rfl (Or.inl rfl) (pe_lg c_origins hr (by first | decide | omega) (by rfl) (pa_cons (pv 8) (pa_cons (pv 3) pa_nil)) (by rfl) B.list (by decide +kernel)))
  (pss_cons (ps_if (pt_cmpR (op_neDK (K := K) hr.units) (pe_lc (own := [("run", 10)]) (g := gName 10) (by rfl) sc_law.nd (pi_listK (K := K) (pv 9)) (blkOk_by (own := [("run", 10)]) (N := ["script", "source", "k", "row", "product_here", "one", "far", "top", "goal", "found", "run"]) (sc := defScope s_law) (by decide +kernel)) (fun _ _ _ _ _ => (pg_name (i := 10) sc_law.nd rfl (Or.inl rfl))) (fun _ _ _ _ _ => (pts_one (pt_cmpR op_ne (pe_c c_squeezed hr (by first | decide | omega) (by rfl) (pa_cons (pv 10) (pa_cons (pv 3) pa_nil))) (pv 8) (nomark _)))) (fun _ _ _ _ _ => (pv 10))) (pe_lst pa_nil) (nomark _)) (pss_one (ps_ret pe_bl)) pss_nil)
  (pss_one (ps_if (pt_cmpR op_ne (pe_c c_count_origins hr (by first | decide | omega) (by rfl) (pa_cons (pv 8) (pa_cons (pv 3) (pa_cons (pe_c c_greatest_origin hr (by first | decide | omega) (by rfl) (pa_cons (pv 8) (pa_cons (pv 3) pa_nil))) pa_nil)))) (pe_callB (len_seqK (K := K)) (by rfl) B.len boot_len (pa_cons (pv 9) pa_nil)) (nomark _)) (pss_one (ps_ret pe_bl)) pss_nil))))) pss_nil)))))))))
  (pss_one (ps_ret (pe_cmpR op_eq (pe_c c_count_origins hr (by first | decide | omega) (by rfl) (pa_cons pe_int (pa_cons (pe_lst (pa_cons pe_int (pa_cons pe_int pa_nil))) (pa_cons pe_int pa_nil)))) pe_int (nomark _)))))), ?_⟩
    walk_at "sq go"
    intro r d H1 s1 hS1
    have hP1 := s1.seq hP
    walk_at "sq go"
    refine for_range (lo := 0) (n := _) (fun i σ H' => Keep (∃ a2 a3 a4 a5 a6 a7 a8 a9 a10, σ = [some (.ref p0), some (.ref r), a2, a3, a4, a5, a6, a7, a8, a9, a10] ∧ Sep (rgB r d (1000 * i)) H H' ∧ i ≤ 11)) ⟨_, _, _, _, _, _, _, _, _, rfl, SepB.mono hS1 (by omega), by omega⟩ (fun i σ H' hi h => ?_) (fun σ H' h => ?_)
    · obtain ⟨a2, a3, a4, a5, a6, a7, a8, a9, a10, rfl, hs1, hi11⟩ := h.o
      have hi12 : i + 1 ≤ 11 := by
        (repeat' split at hi) <;> omega
      walk_at "sq go"
      intro e1 ne1
      have ge1 := hs1.free ne1
      have hs1 := hs1.new ne1 (.lst [.int 4, .int 12, .int 30])
      walk_at "sq go"
      refine ⟨⟨by decide, by decide, by omega⟩, fun y H2 y0 y1 hs2 => ?_⟩
      have he1 : H2 e1 = some (.lst [.int 4, .int 12, .int 30]) := hs2.get upd_same
      obtain ⟨wide, eg, g2, g6⟩ := pick3 (a := 4) (b := 12) (c := 30) (P := fun v => 2 ≤ v ∧ v ≤ 30) y0 y1 ⟨by decide, by decide⟩ ⟨by decide, by decide⟩ ⟨by decide, by decide⟩
      have hs3 := hs2.weak (same_new (o := .lst [.int 4, .int 12, .int 30]) ge1)
      walk_at "sq go"
      refine ⟨⟨by decide, by decide, g2, by omega, by omega⟩, fun p ns H3 gp len row hs4 => ?_⟩
      have r12 : R12 ns := ⟨fun k hk => ⟨(row k hk).1, Int.le_trans (row k hk).2 g6⟩, len⟩
      obtain ⟨p1, psm⟩ := r12.prod
      walk_at "sq go"
      intro T nT
      have hs4 := hs4.on (same_new (o := .tup [.ref p, .int 1]) nT)
      have hp := seqL_of (K := K) (hs4.get upd_same)
      walk_at "sq go"
      generalize upd H3 T (.tup [.ref p, .int 1]) = H3 at *
      refine for_list (K := K) (a := p) (xs := iv ns) (fun j σ H' => Keep (∃ x, σ = [some (.ref p0), some (.ref r), some (.int (0 + (i : Int))), some (.ref p), some (.int (prodL (ns.take j))), x, a6, a7, a8, a9, a10] ∧ H' = H3)) ⟨a5, rfl, rfl⟩ (fun j σ H' _ h => ?_) (fun j x σ H' hx h => ?_) (fun σ H' h => ?_)
      · obtain ⟨_, _, rfl⟩ := h.o
        exact hp
      · obtain ⟨_, rfl, rfl⟩ := h.o
        obtain ⟨k, hk, rfl⟩ := iv_get hx
        have e := prod_take hk 1
        rw [Int.one_mul, Int.one_mul] at e
        have z := sm_prod (ns := ns.take j) (m := 1) (c := 10) (fun j hj => r12.sm j (List.mem_of_mem_take hj)) (by unfold Sm; decide)
        rw [Int.one_mul] at z
        have wm : CMulW (prodL (ns.take j)) k := z.wide (r12.sm k (List.mem_of_getElem? hk)) (by omega) (by omega) (by
          have := r12.2
          rw [List.length_take]
          omega)
        walk_at "sq go"
        exact ⟨_, by rw [e]; rfl, rfl⟩
      · obtain ⟨_, rfl, rfl⟩ := h.o
        rw [iv_len, List.take_length]
        walk_at "sq go"
        obtain ⟨G1, t1, g1, h1, hs4⟩ := hs4.took gp
        intro e2 ne2
        have ge2 := hs4.free ne2
        have hs5 := hs4.new ne2 (.lst [.int 40, .int 7])
        walk_at "sq go"
        refine ⟨⟨by decide, by decide, by omega⟩, fun y2 H4 y20 y21 hs6 => ?_⟩
        have he2 : H4 e2 = some (.lst [.int 40, .int 7]) := hs6.get upd_same
        obtain ⟨fx, ef, f1, f2⟩ : ∃ v, atI [V.int 40, .int 7] y2 = some (.int v) ∧ 1 ≤ v ∧ v ≤ 40 := by
          rcases (show y2 = 0 ∨ y2 = 1 by omega) with z | z <;> rw [z]
          · exact ⟨40, atI_nat (j := 0) rfl, by decide, by decide⟩
          · exact ⟨7, atI_nat (j := 1) rfl, by decide, by decide⟩
        have hs7 := hs6.weak (same_new (o := .lst [.int 40, .int 7]) ge2)
        have sfx : Sm 10 fx := by unfold Sm; omega
        have wfx : CMulW fx (prodL ns) := sfx.wide psm (by decide) (by decide) (by decide)
        have sfp := sfx.mul psm
        have pfp : 1 ≤ fx * prodL ns := Int.mul_pos (by omega) (by omega)
        walk_at "sq go"
        refine ⟨⟨by omega, by unfold Sm at sfp; omega, by omega⟩, fun far H5 r0 r1 hs8 => ?_⟩
        have sfar : Sm 200 far := by
          unfold Sm at sfp ⊢
          omega
        have wdv : CDivW far (prodL ns) := ⟨by omega, Nat.lt_trans (psm.lg (by decide)) (by decide)⟩
        have hp5 := seqL_of (K := K) (hs8.get g1)
        walk_at "sq go"
        have fd0 : 0 ≤ far / prodL ns := Int.ediv_nonneg r0 (by omega)
        have fm : fx * prodL ns ≤ 40 * prodL ns := Int.mul_le_mul_of_nonneg_right f2 (by omega)
        have fd1 : far / prodL ns ≤ 40 := Int.ediv_le_of_le_mul (by omega) (by omega)
        obtain ⟨su0, su1⟩ := sum_box r12.1
        have su2 : 30 * (ns.length : Int) ≤ 150 := by
          have := r12.2
          omega
        have top : ∀ x, 1 ≤ x → x ≤ far → sqz x ns ≤ far / prodL ns + ns.sum := fun x h0 h1 => sqz_top r12.two (by omega) h1
        obtain ⟨m, em⟩ : ∃ m, m = far / prodL ns + ns.sum := ⟨_, rfl⟩
        rw [← em] at top
        rw [← em]
        refine ⟨by omega, by omega, ?_⟩
        obtain ⟨Hb, eHb⟩ : ∃ x, x = H5 := ⟨_, rfl⟩
        rw [← eHb]
        rw [← eHb] at hs8 hp5
        have hSx := hp5
        obtain ⟨L, eL⟩ : ∃ x, x = far := ⟨_, rfl⟩
        have Ls : Sm 250 L := by rw [eL]; exact sfar.mono (by decide)
        walk_at "sq go"
        intro D nD
        refine lc_range (lo := 0) (n := (m + 1).toNat) (fun i H' => Keep (Same Hb H' ∧ H' D = some (.lst (iv ((List.range i).map fun (t : Nat) => cnt0 (0 + (t : Int)) ns L))))) ⟨same_new nD, upd_same⟩ (fun i H' hi h => ?_) (fun H' h => ?_)
        · obtain ⟨sx, hD⟩ := h.o
          have hSx' := sx.seq hSx
          have li : (iv ((List.range i).map fun (t : Nat) => cnt0 (0 + (t : Int)) ns L)).length < sizeLine := by
            rw [iv_len, List.length_map, List.length_range, sizeLine_eq]
            omega
          walk_at "sq go"
          refine ⟨⟨by have := r12.2; omega, by omega, r12.thou, by have := r12.2; omega, by omega, by rw [← eL]; exact Ls⟩, fun H3 s3 => ?_⟩
          have hD3 := s3 _ _ hD
          walk_at "sq go"
          exact ⟨same_put (sx.trans s3) nD, by rw [upd_same, List.range_succ, List.map_append]; simp [eL]⟩
        · obtain ⟨sx, hD⟩ := h.o
          have hDs := seqL_of (K := K) hD
          have eS := sum_range (fun g => cnt0 g ns L) (m + 1).toNat
          walk_at "sq go"
          rw [eS]
          have hs9 := hs8.on sx
          have e1 : sm 0 (fun g => cnt0 g ns L) (m + 1).toNat = far + 1 := by
            rw [show (m + 1).toNat = m.toNat + 1 by omega, cnt0_sum r12.two (by omega) (by omega) fun x h0 h1 => top x h0 (by omega), eL]
          rw [e1]
          walk_at "sq go"
          refine ifIN (fun c => absurd rfl c) (fun _ => ?_)
          walk_at "sq go"
          refine for_range (lo := 1) (n := 6) (fun j σ H' => Keep (∃ b2 b5 b6 b7 b8, σ = [some (.ref p0), some (.ref r), b2, some (.ref p), some (.int (prodL ns)), b5, b6, b7, b8, a9, a10] ∧ Sep (rgB r d (1000 * i + 300)) G1 H')) ⟨_, _, _, _, _, rfl, SepB.mono hs9 (by omega)⟩ (fun j σ H' hj h => ?_) (fun σ H' h => ?_)
          · obtain ⟨b2, b5, b6, b7, b8, rfl, hsA⟩ := h.o
            have hpA := seqL_of (K := K) (hsA.get g1)
            walk_at "sq go"
            refine ⟨⟨r12, by omega, by omega⟩, fun H6 s6 => ?_⟩
            have hsB := hsA.on s6
            have hpB := seqL_of (K := K) (hsB.get g1)
            walk_at "sq go"
            refine ⟨⟨by omega, r12.two, r12.fitP (c := 10) (by unfold Sm; omega) (by decide) (by decide)⟩, fun H7 s7 => ?_⟩
            have hsC := hsB.on s7
            have hpC := seqL_of (K := K) (hsC.get g1)
            walk_at "sq go"
            refine ⟨⟨by omega, r12.two, r12.fitP (c := 10) (by unfold Sm; omega) (by decide) (by decide)⟩, fun H8 s8 => ?_⟩
            have hsD := hsC.on s8
            walk_at "sq go"
            refine ifIN (fun c => absurd (by rw [Int.sub_mul, Int.one_mul]; omega) c) (fun _ => ?_)
            walk_at "sq go"
            exact ⟨_, _, _, _, _, rfl, hsD⟩
          · obtain ⟨b2, b5, b6, b7, b8, rfl, hsA⟩ := h.o
            clear hSx hp5 hs9 hs8 hDs hD sx eS top
            walk_at "sq go"
            refine ifD (fun p10 => ?_) (fun _ => ?_)
            · walk_at "sq go"
              refine ⟨⟨by decide, by decide, by omega⟩, fun goal H6 c0 c1 hsB => ?_⟩
              have hpB := seqL_of (K := K) (hsB.get g1)
              walk_at "sq go"
              refine ⟨⟨by omega, by omega, r12.thou, p10⟩, fun ss H7 pm s7 => ?_⟩
              have hsC := hsB.on s7
              walk_at "sq go"
              intro l nl
              have hsD := hsC.new nl (.lst (iv ss))
              have gl := hsC.free nl
              have g1l := upd_keep (o := .lst (iv ss)) gl g1
              have gll : upd G1 l (.lst (iv ss)) l = some (.lst (iv ss)) := upd_same
              have tl := same_new (o := .lst (iv ss)) gl
              generalize upd G1 l (.lst (iv ss)) = G2 at *
              generalize upd H7 l (.lst (iv ss)) = H8 at *
              have mo := mem_orig c0 r12.two
              have hlD := hsD.get gll
              walk_at "sq go"
              intro D nD
              have gD := hsD.free nD
              refine lc_list (K := K) (a := l) (xs := iv ss) (fun j H' => Keep (Sep (rgB r d (1000 * i + 300 + 1)) (upd G2 D (.lst [])) H')) ⟨SepB.mono (hsD.new nD (.lst [])) (by omega)⟩ (fun j H' _ h => ?_) (fun j x H' hx h => ?_) (fun H' h => ?_)
              · exact seqL_of (h.o.get (upd_keep gD gll))
              · have hsE := h.o
                obtain ⟨v, hv, rfl⟩ := iv_get hx
                obtain ⟨v1, v2, _⟩ := mo v (pm.mem_iff.mp (List.mem_of_getElem? hv))
                have hpE := seqL_of (K := K) (hsE.get (upd_keep gD g1l))
                walk_at "sq go"
                refine ⟨⟨v2, r12.mid⟩, fun H9 s9 => ?_⟩
                walk_at "sq go"
                refine ifIN (fun c => absurd v1 c) (fun _ => ?_)
                exact ⟨hsE.on s9⟩
              · have hsE := h.o
                have hDE := hsE.get upd_same
                walk_at "sq go"
                intro e ne
                refine r_neI (xs := []) (ys := []) (seqL_of (upd_keep ne hDE)) (seqL_of upd_same) ?_
                walk_at "sq go"
                have hsF := hsE.on (same_new (o := .lst []) ne)
                have hpF := seqL_of (K := K) (hsF.get (upd_keep gD g1l))
                walk_at "sq go"
                refine ⟨⟨c0, r12.two, r12.fitP (c := 10) (by unfold Sm; omega) (by decide) (by decide)⟩, fun H9 s9 => ?_⟩
                have hsG := hsF.on s9
                have hpG := seqL_of (K := K) (hsG.get (upd_keep gD g1l))
                have gp0 : 0 ≤ goal * prodL ns := Int.mul_nonneg c0 (by omega)
                have sgp : Sm 250 (goal * prodL ns) := ((show Sm 10 goal by unfold Sm; omega).mul psm).mono (by decide)
                walk_at "sq go"
                refine ⟨⟨by have := r12.2; omega, c0, r12.thou, by have := r12.2; omega, gp0, sgp⟩, fun HA sA => ?_⟩
                have hsH := hsG.on sA
                have hlH := seqL_of (K := K) (hsH.get (upd_keep gD gll))
                have ol := orig_len c0 r12.two
                rw [← pm.length_eq] at ol
                walk_at "sq go"
                refine ifIN (fun c => absurd (by rw [iv_len]; exact ol.symm) c) (fun _ => ?_)
                exact ⟨_, _, _, _, _, _, _, _, _, rfl, SepB.mono (hsH.weak (t1.trans (tl.trans (same_new gD)))) (by omega), hi12⟩
            · exact ⟨_, _, _, _, _, _, _, _, _, rfl, SepB.mono (hsA.weak t1) (by omega), hi12⟩
    · obtain ⟨a2, a3, a4, a5, a6, a7, a8, a9, a10, rfl, hs, _⟩ := h.o
      walk_at "sq go"
      intro t3 nt3
      walk_at "sq go"
      refine ⟨seqL_of (xs := iv [3, 2]) upd_same, ⟨by decide, by decide, by decide, by decide, by decide, by unfold Sm; decide⟩, fun H2 s2 => ?_⟩
      walk_at "sq go"
      exact q _
end
end Sq
open PySem PySem.W PyProof.Rows in
set_option maxRecDepth 100000 in
set_option maxHeartbeats 0 in
theorem PySem.Challenge.cw_squeezelists_k12_whole_origins_and_reach_holds : PySem.Challenge.rw_squeezelists_k12_whole_origins_and_reach.Holds := by
  w_on; o_law; k_head; (case hw => w_witness2)
  k_fill
  refine Sq.walk_ofG (l := PySem.Challenge.rw_squeezelists_k12_whole_origins_and_reach) (n := 63) (k := 13) (x := "script") (sp := Sq.spLaw) rfl (by decide) rfl ⟨rfl, by decide, by decide⟩ (fun w h Y => PySem.W.kIn_of Y) ?F (fun K H a ns hl hS => ⟨a, ns, rfl, hS, hl, fun _ => rfl⟩)
  case F =>
    intro w mg fa h KX G hmg
    have B : Sq.Bt mg := by
      refine' ⟨PySem.W.mg_none_of KX G ?z0, PySem.W.mg_none_of KX G ?z1, PySem.W.mg_none_of KX G ?z2, PySem.W.mg_none_of KX G ?z3, PySem.W.mg_none_of KX G ?z4, PySem.W.mg_none_of KX G ?z5, PySem.W.mg_none_of KX G ?z6, PySem.W.mg_none_of KX G ?z7, PySem.W.mg_none_of KX G ?z8, PySem.W.mg_none_of KX G ?z9, PySem.W.mg_none_of KX G ?z10, PySem.W.mg_none_of KX G ?z11, PySem.W.mg_none_of KX G ?z12, PySem.W.mg_none_of KX G ?z13⟩
      (case z0 => k_is)
      (case z1 => k_is)
      (case z2 => k_is)
      (case z3 => k_is)
      (case z4 => k_is)
      (case z5 => k_is)
      (case z6 => k_is)
      (case z7 => k_is)
      (case z8 => k_is)
      (case z9 => k_is)
      (case z10 => k_is)
      (case z11 => k_is)
      (case z12 => k_is)
      (case z13 => k_is)
    refine' Sq.cutD (Sq.DefAt.mk1 (x := "check_list") (st := Sq.s_check_list) (ps := ["replacements"]) KX G ?a_check_list ?l_check_list ?c_check_list ?k_check_list (fun _ _ _ _ _ _ us hl => match us, hl with | [_], _ => rfl)) ?_
    (case a_check_list => k_is); (case l_check_list => k_is); (case c_check_list => k_is); (case k_check_list => k_is)
    intro D_check_list
    refine' Sq.cutD (Sq.DefAt.mk1 (x := "check_length") (st := Sq.s_check_length) (ps := ["length"]) KX G ?a_check_length ?l_check_length ?c_check_length ?k_check_length (fun _ _ _ _ _ _ us hl => match us, hl with | [_], _ => rfl)) ?_
    (case a_check_length => k_is); (case l_check_length => k_is); (case c_check_length => k_is); (case k_check_length => k_is)
    intro D_check_length
    refine' Sq.cutD (Sq.DefAt.mk1 (x := "squeezed_once") (st := Sq.s_squeezed_once) (ps := ["length", "replacement"]) KX G ?a_squeezed_once ?l_squeezed_once ?c_squeezed_once ?k_squeezed_once (fun _ _ _ _ _ _ us hl => match us, hl with | [_, _], _ => rfl)) ?_
    (case a_squeezed_once => k_is); (case l_squeezed_once => k_is); (case c_squeezed_once => k_is); (case k_squeezed_once => k_is)
    intro D_squeezed_once
    refine' Sq.cutD (Sq.DefAt.mk1 (x := "squeezed_by") (st := Sq.s_squeezed_by) (ps := ["length", "replacements"]) KX G ?a_squeezed_by ?l_squeezed_by ?c_squeezed_by ?k_squeezed_by (fun _ _ _ _ _ _ us hl => match us, hl with | [_, _], _ => rfl)) ?_
    (case a_squeezed_by => k_is); (case l_squeezed_by => k_is); (case c_squeezed_by => k_is); (case k_squeezed_by => k_is)
    intro D_squeezed_by
    refine' Sq.cutD (Sq.DefAt.mk1 (x := "squeezed") (st := Sq.s_squeezed) (ps := ["length", "replacements"]) KX G ?a_squeezed ?l_squeezed ?c_squeezed ?k_squeezed (fun _ _ _ _ _ _ us hl => match us, hl with | [_, _], _ => rfl)) ?_
    (case a_squeezed => k_is); (case l_squeezed => k_is); (case c_squeezed => k_is); (case k_squeezed => k_is)
    intro D_squeezed
    refine' Sq.cutD (Sq.DefAt.mk1 (x := "greatest_origin_of") (st := Sq.s_greatest_origin_of) (ps := ["length", "replacements"]) KX G ?a_greatest_origin_of ?l_greatest_origin_of ?c_greatest_origin_of ?k_greatest_origin_of (fun _ _ _ _ _ _ us hl => match us, hl with | [_, _], _ => rfl)) ?_
    (case a_greatest_origin_of => k_is); (case l_greatest_origin_of => k_is); (case c_greatest_origin_of => k_is); (case k_greatest_origin_of => k_is)
    intro D_greatest_origin_of
    refine' Sq.cutD (Sq.DefAt.mk1 (x := "greatest_origin") (st := Sq.s_greatest_origin) (ps := ["length", "replacements"]) KX G ?a_greatest_origin ?l_greatest_origin ?c_greatest_origin ?k_greatest_origin (fun _ _ _ _ _ _ us hl => match us, hl with | [_, _], _ => rfl)) ?_
    (case a_greatest_origin => k_is); (case l_greatest_origin => k_is); (case c_greatest_origin => k_is); (case k_greatest_origin => k_is)
    intro D_greatest_origin
    refine' Sq.cutD (Sq.DefAt.mk1 (x := "before_one") (st := Sq.s_before_one) (ps := ["length", "replacement"]) KX G ?a_before_one ?l_before_one ?c_before_one ?k_before_one (fun _ _ _ _ _ _ us hl => match us, hl with | [_, _], _ => rfl)) ?_
    (case a_before_one => k_is); (case l_before_one => k_is); (case c_before_one => k_is); (case k_before_one => k_is)
    intro D_before_one
    refine' Sq.cutD (Sq.DefAt.mk1 (x := "origins_of") (st := Sq.s_origins_of) (ps := ["length", "replacements"]) KX G ?a_origins_of ?l_origins_of ?c_origins_of ?k_origins_of (fun _ _ _ _ _ _ us hl => match us, hl with | [_, _], _ => rfl)) ?_
    (case a_origins_of => k_is); (case l_origins_of => k_is); (case c_origins_of => k_is); (case k_origins_of => k_is)
    intro D_origins_of
    refine' Sq.cutD (Sq.DefAt.mk1 (x := "origins") (st := Sq.s_origins) (ps := ["length", "replacements"]) KX G ?a_origins ?l_origins ?c_origins ?k_origins (fun _ _ _ _ _ _ us hl => match us, hl with | [_, _], _ => rfl)) ?_
    (case a_origins => k_is); (case l_origins => k_is); (case c_origins => k_is); (case k_origins => k_is)
    intro D_origins
    refine' Sq.cutD (Sq.DefAt.mk1 (x := "count_up_to") (st := Sq.s_count_up_to) (ps := ["length", "replacements", "last"]) KX G ?a_count_up_to ?l_count_up_to ?c_count_up_to ?k_count_up_to (fun _ _ _ _ _ _ us hl => match us, hl with | [_, _, _], _ => rfl)) ?_
    (case a_count_up_to => k_is); (case l_count_up_to => k_is); (case c_count_up_to => k_is); (case k_count_up_to => k_is)
    intro D_count_up_to
    refine' Sq.cutD (Sq.DefAt.mk1 (x := "count_origins") (st := Sq.s_count_origins) (ps := ["length", "replacements", "last"]) KX G ?a_count_origins ?l_count_origins ?c_count_origins ?k_count_origins (fun _ _ _ _ _ _ us hl => match us, hl with | [_, _, _], _ => rfl)) ?_
    (case a_count_origins => k_is); (case l_count_origins => k_is); (case c_count_origins => k_is); (case k_count_origins => k_is)
    intro D_count_origins
    refine' Sq.cutD (Sq.DefAt.mk1 (x := "check_most") (st := Sq.s_check_most) (ps := ["most"]) KX G ?a_check_most ?l_check_most ?c_check_most ?k_check_most (fun _ _ _ _ _ _ us hl => match us, hl with | [_], _ => rfl)) ?_
    (case a_check_most => k_is); (case l_check_most => k_is); (case c_check_most => k_is); (case k_check_most => k_is)
    intro D_check_most
    refine' Sq.cutD (Sq.DefAt.mk1 (x := "reach_before") (st := Sq.s_reach_before) (ps := ["reached", "replacement"]) KX G ?a_reach_before ?l_reach_before ?c_reach_before ?k_reach_before (fun _ _ _ _ _ _ us hl => match us, hl with | [_, _], _ => rfl)) ?_
    (case a_reach_before => k_is); (case l_reach_before => k_is); (case c_reach_before => k_is); (case k_reach_before => k_is)
    intro D_reach_before
    refine' Sq.cutD (Sq.DefAt.mk1 (x := "reach_of") (st := Sq.s_reach_of) (ps := ["replacements", "most"]) KX G ?a_reach_of ?l_reach_of ?c_reach_of ?k_reach_of (fun _ _ _ _ _ _ us hl => match us, hl with | [_, _], _ => rfl)) ?_
    (case a_reach_of => k_is); (case l_reach_of => k_is); (case c_reach_of => k_is); (case k_reach_of => k_is)
    intro D_reach_of
    refine' Sq.cutD (Sq.DefAt.mk1 (x := "_law_source") (st := Sq.s_law_source) (ps := ["script"]) KX G ?a_law_source ?l_law_source ?c_law_source ?k_law_source (fun _ _ _ _ _ _ us hl => match us, hl with | [_], _ => rfl)) ?_
    (case a_law_source => k_is); (case l_law_source => k_is); (case c_law_source => k_is); (case k_law_source => k_is)
    intro D_law_source
    refine' Sq.cutD (Sq.DefAt.mk1 (x := "_law_draw") (st := Sq.s_law_draw) (ps := ["source", "many"]) KX G ?a_law_draw ?l_law_draw ?c_law_draw ?k_law_draw (fun _ _ _ _ _ _ us hl => match us, hl with | [_, _], _ => rfl)) ?_
    (case a_law_draw => k_is); (case l_law_draw => k_is); (case c_law_draw => k_is); (case k_law_draw => k_is)
    intro D_law_draw
    refine' Sq.cutD (Sq.DefAt.mk1 (x := "_law_row") (st := Sq.s_law_row) (ps := ["source", "many", "wide"]) KX G ?a_law_row ?l_law_row ?c_law_row ?k_law_row (fun _ _ _ _ _ _ us hl => match us, hl with | [_, _, _], _ => rfl)) ?_
    (case a_law_row => k_is); (case l_law_row => k_is); (case c_law_row => k_is); (case k_law_row => k_is)
    intro D_law_row
    refine' Sq.cutD (Sq.DefAt.mk1 (x := "_law_reach_right") (st := Sq.s_law_reach_right) (ps := ["row", "goal"]) KX G ?a_law_reach_right ?l_law_reach_right ?c_law_reach_right ?k_law_reach_right (fun _ _ _ _ _ _ us hl => match us, hl with | [_, _], _ => rfl)) ?_
    (case a_law_reach_right => k_is); (case l_law_reach_right => k_is); (case c_law_reach_right => k_is); (case k_law_reach_right => k_is)
    intro D_law_reach_right
    refine' Sq.cutD (Sq.DefAt.mk1 (x := "law") (st := Sq.s_law) (ps := ["script"]) KX G ?a_law ?l_law ?c_law ?k_law (fun _ _ _ _ _ _ us hl => match us, hl with | [_], _ => rfl)) ?_
    (case a_law => k_is); (case l_law => k_is); (case c_law => k_is); (case k_law => k_is)
    intro D_law
    refine' Sq.cutD (Sq.funD_mk (x := "reach") (st := Sq.s_reach) (dvs := [.int 1]) KX G ?a_r ?l_r ?c_r ?k_r ?t_r ?e_r ?v_r (by simp)) ?_
    (case a_r => k_is); (case l_r => k_is); (case c_r => k_is); (case k_r => k_is); (case t_r => k_is); (case e_r => rfl); (case v_r => exact .cons ⟨_, rfl⟩ .nil)
    rintro ⟨FR, mR⟩
    obtain ⟨d2, v2, b2⟩ := FR.binds1 (ps := ["replacements", "most"]) 2 1 (by simp) rfl (fun T kV doc pm an cdv ct us its h1 h2 => match us, its, h1, h2 with | [_, _], [_], _, _ => ⟨_, rfl, rfl⟩)
    obtain ⟨fd, F, hb⟩ := D_law.law hmg (fun _ _ _ _ _ _ us hl => match us, hl with | [_], _ => rfl)
    refine ⟨fd, hb, fun base _ _ => ?_⟩
    have ccl := Sq.cal_check_list (P := PySem.Challenge.rw_squeezelists_k12_whole_origins_and_reach.prog) (w := w) (base := base) D_check_list B
    have cln := Sq.cal_check_length (P := PySem.Challenge.rw_squeezelists_k12_whole_origins_and_reach.prog) (w := w) (base := base) D_check_length B
    have cby := Sq.cal_squeezed_by (P := PySem.Challenge.rw_squeezelists_k12_whole_origins_and_reach.prog) (w := w) (base := base) D_squeezed_by B (Sq.cal_squeezed_once D_squeezed_once B)
    have GR := Sq.ok_reach (P := PySem.Challenge.rw_squeezelists_k12_whole_origins_and_reach.prog) (w := w) (base := base) FR B ccl (Sq.cal_check_most D_check_most B) (Sq.cal_reach_of D_reach_of B (Sq.cal_reach_before D_reach_before B))
    have cd := Sq.cal_draw (P := PySem.Challenge.rw_squeezelists_k12_whole_origins_and_reach.prog) (w := w) (base := base) D_law_draw B
    have cbo := Sq.cal_before_one (P := PySem.Challenge.rw_squeezelists_k12_whole_origins_and_reach.prog) (w := w) (base := base) D_before_one B
    have cco := Sq.cal_count_origins D_count_origins B cln ccl (Sq.cal_count_up_to D_count_up_to B cby cbo 7)
    have r2 : Sq.Cal PySem.Challenge.rw_squeezelists_k12_whole_origins_and_reach.prog w _ mg base 3 "reach" (Sq.spReach _) [] := ⟨_, _, _, d2, GR, mR, FR.kp, b2, v2⟩
    refine Sq.ok_law F B (Sq.cal_source D_law_source B) cd (Sq.cal_row D_law_row B cd) cco (Sq.cal_rr (d := 0) D_law_reach_right B r2 cco) (Sq.cal_greatest_origin D_greatest_origin B cln ccl (Sq.cal_greatest_origin_of D_greatest_origin_of B)) (Sq.gen_origins D_origins B cln ccl (Sq.cal_origins_of D_origins_of B cbo)) (Sq.cal_squeezed_p D_squeezed B cln ccl cby)
