import PyProof.Rows.All
import Wide.All
import OpenK.AllK
import Wide.FinOn
import HandS.ForMost
import HandS.Wide
import HandS.Style
import HandS.SortInts
import HandS.Deep
import HandS.Defaults
import HandS.Flow
import HandS.IsInst
import HandS.Codes
import HandS.NoneIn
import HandS.Property
import HandS.RaiseMore
import PyProof.ReprRoads
import PyProof.LongRange
import HandS.Exc
import HandS.ExcInit
import HandS.NestedK
import KE.KExcSuper
import HandS.ExcIs
import HandS.ExcField
import KE.KExcIs
import HandS.WordsExc
import HandS.MakeKwOnly
import HandS.SetFor
import KE.RegKIsAll
import PySem.Challenge.RW_squeezelists_k18_hidden_lists_answer
set_option Elab.async false
set_option linter.all false
set_option maxRecDepth 100000
set_option maxHeartbeats 4000000
namespace Sq
open PySem PySem.Spec PyProof.Rows L2
/-! ## operators -/
/-- a power whose base has at most 100000 bits -/
def CPowW (i j : Int) : Prop := 0 ≤ j ∧ j ≤ 1000 ∧ i.natAbs.log2 < 100000
theorem bitsOf_le (i : Int) : Builtin.Int.intBits i ≤ i.natAbs.log2 + 1 := by
  unfold Builtin.Int.intBits
  split <;> omega
theorem op_powW {X : Cx} : OpR X (binaryOp .Pow) (rI CPowW fun i j => .int (i ^ j.toNat)) := opI fun i j _ _ _ _ _ hc q => by
  obtain ⟨h1, h2, h3⟩ := hc
  refine pow_int h1 ?_ q
  have hb := bitsOf_le i
  have h4 : ((Builtin.Int.intBits i : Nat) : Int) ≤ 100000 := by omega
  have h5 := Int.mul_le_mul h4 h2 h1 (by decide : (0 : Int) ≤ 100000)
  exact Int.le_trans h5 (by decide)
def ipIC (C : Int → Int → Prop) (f : Int → Int → Int) : TIp := fun x y H Q => ∃ i j, x = .int i ∧ y = .int j ∧ C i j ∧ Q (.int (f i j)) H
section
variable {X : Cx}
theorem ip_mulW : PIp X .Mult (ipIC CMulW fun i j => i * j) := by
  intro pins s σ H x y v u Q I r1 r2 h
  obtain ⟨i, j, e1, e2, c, q⟩ := h
  subst e1; subst e2
  obtain ⟨t, rfl⟩ := r1
  obtain ⟨t', rfl⟩ := r2
  exact imul_int ⟨.int _, H, I.tok _, ⟨_, rfl⟩, q⟩ c.ok
theorem ip_fdivW : PIp X .FloorDiv (ipIC CDivW fun i j => i / j) := by
  intro pins s σ H x y v u Q I r1 r2 h
  obtain ⟨i, j, e1, e2, c, q⟩ := h
  subst e1; subst e2
  obtain ⟨t, rfl⟩ := r1
  obtain ⟨t', rfl⟩ := r2
  have h1 : (0 : Int) < j := c.1
  refine ifloordiv_int (by omega) ?_ (.inl (PyProof.noPylong_of_log2 c.2))
  rw [Int.fdiv_eq_ediv_of_nonneg i (by omega)]
  exact ⟨.int _, H, I.tok _, ⟨_, rfl⟩, q⟩
end
/-- numbers below 2 ^ n have a small log2 -/
theorem lg_lt {i : Int} {n : Nat} (h : i.natAbs < 2 ^ n) (h0 : 0 < n) : i.natAbs.log2 < n := PySem.Flt.log2_lt_of h0 h

/-! ## sizes -/
/-- at most b bits -/
def Sm (b : Nat) (i : Int) : Prop := i.natAbs < 2 ^ b
theorem Sm.mono {a b : Nat} {i : Int} (h : Sm a i) (hab : a ≤ b) : Sm b i := Nat.lt_of_lt_of_le h (Nat.pow_le_pow_right (by decide) hab)
theorem Sm.lg {b : Nat} {i : Int} (h : Sm b i) (h0 : 0 < b) : i.natAbs.log2 < b := PySem.Flt.log2_lt_of h0 h
theorem Sm.add {b : Nat} {i j : Int} (h : Sm b i) (h' : Sm b j) : Sm (b + 1) (i + j) := by
  have e : 2 ^ (b + 1) = 2 ^ b + 2 ^ b := by rw [Nat.pow_succ]; omega
  unfold Sm at *
  omega
theorem Sm.neg {b : Nat} {i : Int} (h : Sm b i) : Sm b (-i) := by
  unfold Sm at *
  rw [Int.natAbs_neg]
  exact h
theorem Sm.sub {b : Nat} {i j : Int} (h : Sm b i) (h' : Sm b j) : Sm (b + 1) (i - j) := by
  rw [Int.sub_eq_add_neg]
  exact h.add h'.neg
theorem Sm.mul {a b : Nat} {i j : Int} (h : Sm a i) (h' : Sm b j) : Sm (a + b) (i * j) := by
  unfold Sm at *
  rw [Int.natAbs_mul, Nat.pow_add]
  exact Nat.mul_lt_mul'' h h'
theorem Sm.le {b : Nat} {i j : Int} (h : Sm b j) (h0 : 0 ≤ i) (hij : i ≤ j) : Sm b i := by
  unfold Sm at *
  omega
theorem Sm.wide {a b : Nat} {i j : Int} (h : Sm a i) (h' : Sm b j) (ha : 0 < a) (hb : 0 < b) (hab : a + b ≤ 1000000) : CMulW i j := by
  have h1 := h.lg ha
  have h2 := h'.lg hb
  unfold CMulW
  omega
/-- a small number -/
theorem Sm.of {b : Nat} {i : Int} (h : i.natAbs < 2 ^ 10) (hb : 10 ≤ b) : Sm b i := Sm.mono (a := 10) h hb
theorem div_ok {i k : Int} (h : 0 < k) (h2 : k < 2 ^ 240) : CDivW i k := ⟨h, Nat.lt_trans ((show Sm 240 k by unfold Sm; omega).lg (by decide)) (by decide)⟩
theorem pow_ok {b : Nat} {i j : Int} (h : Sm b i) (h0 : 0 < b) (hb : b ≤ 100000) (j0 : 0 ≤ j) (j1 : j ≤ 1000) : CPowW i j := ⟨j0, j1, Nat.lt_of_lt_of_le (h.lg h0) hb⟩
/-! ## rules whose reading speaks of the written part K itself (a comprehension's block has it too) -/
section
variable {X : Cx} {K : PySem.W.Frag}
theorem ix_listK (h : X.K = K := by rfl) : IxR X (rIxL K) := by subst h; exact ix_list
theorem ix_tupK (h : X.K = K := by rfl) : IxR X (rIxT K) := by subst h; exact ix_tup
theorem sl_listK (h : X.K = K := by rfl) : SlR X (rSlL K) := by subst h; exact sl_list
theorem sl_tupK (h : X.K = K := by rfl) : SlR X (rSlT K) := by subst h; exact sl_tup
def rLenQ (K : PySem.W.Frag) : List V → Hp → VK → Prop := fun xs H Q => ∃ p ys, xs = [.ref p] ∧ SqL K H p ys ∧ Q (.int ys.length) H
theorem len_seqK (h : X.K = K := by rfl) : CallR X (.builtin "len") (rLenQ K) := by
  subst h
  intro pins s σ H xs us Q I r q
  obtain ⟨p, ys, e, hs, q⟩ := q
  exact call_len_seq pins s σ H xs us Q I r ⟨p, ys, e, .inl hs, q⟩
/-- readings that are not to be opened by themselves -/
@[irreducible] def rEqQ (K : PySem.W.Frag) : R2 := rEqD K
@[irreducible] def rNeQ (K : PySem.W.Frag) : R2 := rNeD K
@[irreducible] def rInQ (K : PySem.W.Frag) : R2 := rInD K
@[irreducible] def rNotInQ (K : PySem.W.Frag) : R2 := rNotInD K
theorem rEqQ_of {H : Hp} {x y : V} {Q : VK} (h : rEqD K x y H Q) : rEqQ K x y H Q := by unfold rEqQ; exact h
theorem rNeQ_of {H : Hp} {x y : V} {Q : VK} (h : rNeD K x y H Q) : rNeQ K x y H Q := by unfold rNeQ; exact h
theorem rInQ_of {H : Hp} {x y : V} {Q : VK} (h : rInD K x y H Q) : rInQ K x y H Q := by unfold rInQ; exact h
theorem rNotInQ_of {H : Hp} {x y : V} {Q : VK} (h : rNotInD K x y H Q) : rNotInQ K x y H Q := by unfold rNotInQ; exact h
theorem op_eqDK (hu : X.A.units + 64 < cLine) (h : X.K = K := by rfl) : OpR X (compareOp .Eq) (rEqQ K) := by subst h; unfold rEqQ; exact op_eqD hu
theorem op_neDK (hu : X.A.units + 64 < cLine) (h : X.K = K := by rfl) : OpR X (compareOp .NotEq) (rNeQ K) := by subst h; unfold rNeQ; exact op_neD hu
theorem op_inDK (hu : X.A.units + 65 < cLine) (h : X.K = K := by rfl) : OpR X (compareOp .In) (rInQ K) := by subst h; unfold rInQ; exact op_inD hu
theorem op_notInDK (hu : X.A.units + 65 < cLine) (h : X.K = K := by rfl) : OpR X (compareOp .NotIn) (rNotInQ K) := by subst h; unfold rNotInQ; exact op_notInD hu
theorem isiK (h : X.K = K := by rfl) : CallR X (.builtin "isinstance") (rIsi K) := by subst h; exact call_isi
def rListOf (K : PySem.W.Frag) : List V → Hp → VK → Prop := fun xs H Q => ∃ p ys, xs = [.ref p] ∧ SqL K H p ys ∧ ∀ l, H l = none → Q (.ref l) (upd H l (.lst ys))
theorem list_ofK (h : X.K = K := by rfl) : CallR X (.type "list") (rListOf K) := by
  subst h
  intro pins s σ H xs us Q I r q
  obtain ⟨p, ys, e, hs, q⟩ := q
  exact call_list_of pins s σ H xs us Q I r ⟨p, ys, e, .inl hs, q⟩
theorem cr_sumK (hc : X.calm = true) (h : X.K = K := by rfl) : CallR X (.builtin "sum") (rSum K) := by subst h; exact cr_sum hc
theorem cr_maxK (hc : X.calm = true) (h : X.K = K := by rfl) : CallR X (.builtin "max") (rMax K) := by subst h; exact cr_max hc
theorem cr_minK (hc : X.calm = true) (h : X.K = K := by rfl) : CallR X (.builtin "min") (rMin K) := by subst h; exact cr_min hc
theorem cr_allK (hc : X.calm = true) (h : X.K = K := by rfl) : CallR X (.builtin "all") (rAll K) := by subst h; exact cr_all hc
theorem cr_anyK (hc : X.calm = true) (h : X.K = K := by rfl) : CallR X (.builtin "any") (rAny K) := by subst h; exact cr_any hc
theorem cr_sortedIK (h : X.K = K := by rfl) : CallR X (.builtin "sorted") (rSortedI K) := by subst h; exact cr_sortedI
variable {e a b : Expr} {te ta tb : TE} {es : List Expr} {t : TA} {tgs : TGs} {tg : Expr} {pos p q : Pos} {n : Nat}
theorem pi_listK (he : PE X e te) (h : X.K = K := by rfl) : PI X tg e (iList K te) := by subst h; exact pi_list he
theorem pg_tupK {k : Nat} (hc : X.calm = true) (hg : PGs X es tgs) (hn : (assignEach es X.env).length = n := by rfl) (hst : (assignEach es X.env).findIdx? (·.1) = none := by rfl) (h : X.K = K := by rfl) : PG X (.Tuple es k pos) (gTup K n tgs) := by
  subst h
  exact pg_tup hc hg hn hst
theorem pg_lstK {k : Nat} (hc : X.calm = true) (hg : PGs X es tgs) (hn : (assignEach es X.env).length = n := by rfl) (hst : (assignEach es X.env).findIdx? (·.1) = none := by rfl) (h : X.K = K := by rfl) : PG X (.Tuple es k pos) (gUnl K n tgs) := by
  subst h
  exact pg_unl hc hg hn hst
theorem pi_enumK {elts : List Expr} {kk : Nat} (hg : Gl X "enumerate") (hm : X.mg "enumerate" = none) (ha : PA X [e] t) (hs : starEach [e] X.env = [(false, eval e X.env)] := by rfl) (h : X.K = K := by rfl) :
    PI X (.Tuple elts kk p) (.Call (.Name "enumerate" q) [e] [] pos) (iEnum K t) := by
  subst h
  exact pi_enum hg hm ha hs
theorem pi_zipK {elts : List Expr} {kk : Nat} (hg : Gl X "zip") (hm : X.mg "zip" = none) (ha : PA X [a, b] t) (hs : starEach [a, b] X.env = (false, eval a X.env) :: starEach [b] X.env := by rfl)
    (hpl : (backTo pos (starEach [b] X.env)).any (·.1) = false := by rfl) (h : X.K = K := by rfl) : PI X (.Tuple elts kk p) (.Call (.Name "zip" q) [a, b] [] pos) (iZip K t) := by
  subst h
  exact pi_zip hg hm ha hs hpl
theorem pe_revLK {k : Nat} {p1 p2 p3 : Pos} (he : PE X e te) (h : X.K = K := by rfl) : PE X (.Subscript e (.Slice none none (some (.UnaryOp .USub (.Constant (.int 1) k p1) p2)) p3) pos) (tRevL K te) := by
  subst h
  exact pe_revL he
theorem pe_fldK {f : Str} (he : PE X e te) (hb : attributeBase e f X.env (eval e X.env) = eval e X.env := by rfl) (h : X.K = K := by rfl) : PE X (.Attribute e f pos) (tFld K te f) := by
  subst h
  exact pe_fld he hb
end

/-! ## heaps -/
/-- what holds between the turns of a loop (a wrapper: it is not taken apart by itself) -/
structure Keep (P : Prop) : Prop where
  o : P

theorem Same.get {H H' : Hp} {a : Addr} {o : HO} (s : Same H H') (h : H a = some o) : H' a = some o := s a o h
theorem same_new {H : Hp} {p : Addr} {o : HO} (h : H p = none) : Same H (upd H p o) := fun b u e => by
  rw [upd_ne (ne_of_none e h)]
  exact e
theorem upd_keep {H : Hp} {p a : Addr} {o u : HO} (n : H p = none) (h : H a = some u) : upd H p o a = some u := same_new n a u h
theorem upd_off {H : Hp} {p a : Addr} {o u : HO} (n : a ≠ p) (h : H a = some u) : upd H p o a = some u := by
  rw [upd_ne n]
  exact h
/-- a source of draws: what is true of it, where it stands -/
structure Rg where
  I : Hp → Prop
  S : Addr → Prop
  loc : ∀ H H' : Hp, (∀ a, S a → H' a = H a) → I H → I H'
  has : ∀ (H : Hp) (a : Addr), I H → S a → H a ≠ none
/-- the heap H is the quiet part G and the source -/
structure Sep (R : Rg) (G H : Hp) : Prop where
  inv : R.I H
  same : Same G H
  off : ∀ a, R.S a → G a = none
section
variable {R : Rg} {G G' H H' : Hp} {p a : Addr} {o u : HO}
theorem Sep.get (s : Sep R G H) (h : G a = some o) : H a = some o := s.same a o h
theorem Sep.free (s : Sep R G H) (h : H p = none) : G p = none := s.same.free h
theorem Sep.weak (s : Sep R G H) (h : Same G' G) : Sep R G' H := ⟨s.inv, h.trans s.same, fun a ha => by
  cases q : G' a with
  | none => rfl
  | some o =>
    have z := h a o q
    rw [s.off a ha] at z
    cases z⟩
theorem Sep.new (s : Sep R G H) (h : H p = none) (o : HO) : Sep R (upd G p o) (upd H p o) := by
  have np : ∀ a, R.S a → a ≠ p := fun a ha e => R.has H a s.inv ha (by rw [e]; exact h)
  refine ⟨R.loc H _ (fun a ha => upd_ne (np a ha)) s.inv, fun b x e => ?_, fun a ha => by rw [upd_ne (np a ha)]; exact s.off a ha⟩
  by_cases hb : b = p
  · rw [hb, upd_same] at e
    rw [hb, upd_same]
    exact e
  · rw [upd_ne hb] at e
    rw [upd_ne hb]
    exact s.same b x e
/-- a store into an object of the quiet part -/
theorem Sep.put (s : Sep R G H) (h : G p = some u) (o : HO) : Sep R (upd G p o) (upd H p o) := by
  have np : ∀ a, R.S a → a ≠ p := fun a ha e => by
    have z := s.off a ha
    rw [e, h] at z
    cases z
  refine ⟨R.loc H _ (fun a ha => upd_ne (np a ha)) s.inv, fun b x e => ?_, fun a ha => by rw [upd_ne (np a ha)]; exact s.off a ha⟩
  by_cases hb : b = p
  · rw [hb, upd_same] at e
    rw [hb, upd_same]
    exact e
  · rw [upd_ne hb] at e
    rw [upd_ne hb]
    exact s.same b x e
/-- behind something that only makes new things -/
theorem Sep.on (s : Sep R G H) (h : Same H H') : Sep R G H' := by
  refine ⟨R.loc H _ (fun a ha => ?_) s.inv, s.same.trans h, s.off⟩
  cases q : H a with
  | none => exact absurd q (R.has H a s.inv ha)
  | some o => exact h a o q
theorem Sep.grow (s : Sep R G H) (h : Same H H') (n : H p = none) (e : H' p = some o) : Sep R (upd G p o) H' := by
  have s' := s.on h
  have np : ∀ a, R.S a → a ≠ p := fun a ha z => R.has H a s.inv ha (by rw [z]; exact n)
  refine ⟨s'.inv, fun b x q => ?_, fun a ha => by rw [upd_ne (np a ha)]; exact s.off a ha⟩
  by_cases hb : b = p
  · rw [hb, upd_same] at q
    rw [hb, e]
    exact q
  · rw [upd_ne hb] at q
    exact s'.same b x q
end
/-- a source of draws that is a list of three ints: digits, a mix, a count that is at most N -/
def R3 (r : Addr) (N a b c : Int) (H : Hp) : Prop := H r = some (.lst [.int a, .int b, .int c]) ∧ 0 ≤ a ∧ 0 ≤ b ∧ b < 2 ^ 100 ∧ 0 ≤ c ∧ c ≤ N
def rg3 (r : Addr) (N : Int) : Rg where
  I := fun H => ∃ a b c, R3 r N a b c H
  S := fun x => x = r
  loc := fun H H' e ⟨a, b, c, h1, h2⟩ => ⟨a, b, c, (e r rfl).trans h1, h2⟩
  has := fun H x ⟨a, b, c, h1, _⟩ hx => by
    subst hx
    rw [h1]
    exact fun z => nomatch z
theorem Sep3.redo {r : Addr} {N N' : Int} {G H : Hp} {o : HO} (s : Sep (rg3 r N) G H) (h : ∃ a b c, R3 r N' a b c (upd H r o)) : Sep (rg3 r N') G (upd H r o) := by
  refine ⟨h, fun b u q => ?_, s.off⟩
  have nr : b ≠ r := fun z => by
    have := s.off b z
    rw [q] at this
    cases this
  rw [upd_ne nr]
  exact s.same b u q
theorem Sep3.mono {r : Addr} {N N' : Int} {G H : Hp} (s : Sep (rg3 r N) G H) (h : N ≤ N') : Sep (rg3 r N') G H := by
  obtain ⟨a, b, c, h1, h2, h3, h4, h5, h6⟩ := s.inv
  exact ⟨⟨a, b, c, h1, h2, h3, h4, h5, by omega⟩, s.same, s.off⟩
/-- a draw from it -/
def spDraw3 : Sp := fun vs H Q _ => ∃ (r : Addr) (m N : Int) (G : Hp), vs = [.ref r, .int m] ∧ Sep (rg3 r N) G H ∧ Keep (0 < m ∧ m < 2 ^ 240 ∧ N < 2 ^ 60) ∧ ∀ v H', 0 ≤ v → v < m → Sep (rg3 r (N + 1)) G H' → Q (.int v) H'
theorem seqL_of {K : PySem.W.Frag} {H : Hp} {a : Addr} {xs : List V} (h : H a = some (.lst xs)) : SqL K H a xs := .inl (.inl h)
/-- ints as values -/
abbrev iv (ns : List Int) : List V := ns.map V.int
theorem iv_app (ns : List Int) (x : Int) : iv ns ++ [V.int x] = iv (ns ++ [x]) := by simp
theorem iv_len (ns : List Int) : (iv ns).length = ns.length := List.length_map _
theorem iv_get {ns : List Int} {i : Nat} {x : V} (h : (iv ns)[i]? = some x) : ∃ n, ns[i]? = some n ∧ x = .int n := by
  rw [List.getElem?_map] at h
  cases e : ns[i]? with
  | none =>
    rw [e] at h
    cases h
  | some n =>
    rw [e] at h
    exact ⟨n, rfl, (Option.some.inj h).symm⟩

theorem atI_iv {ns : List Int} {i : Int} (h0 : 0 ≤ i) (h1 : i < ns.length) : ∃ n, atI (iv ns) i = some (.int n) := by
  obtain ⟨j, rfl⟩ := Int.eq_ofNat_of_zero_le h0
  have hj : j < ns.length := by omega
  exact ⟨ns[j], atI_nat (by rw [List.getElem?_map, List.getElem?_eq_getElem hj]; rfl)⟩
theorem seqIx0 {n : Nat} (h : 0 < n) : seqIndex? 0 n = some 0 := by
  unfold seqIndex?
  simp
  omega
theorem lit_len {n : Nat} (h : n ≤ 1000) : n ≤ sizeLine := Nat.le_of_lt (small1000 h)
/-- for i, x in enumerate(xs) -/
theorem for_enum {K : PySem.W.Frag} {a : Addr} {xs : List V} {g : TG} {tb : TS} {D : Ends} {σ : L2.St} {H : Hp} (Pv : Nat → L2.St → Hp → Prop) (h0 : Pv 0 σ H) (hq : ∀ i σ H, Pv i σ H → SqL K H a xs)
    (hs : ∀ (i : Nat) (x : V) (T : Addr) (σ : L2.St) (H : Hp), xs[i]? = some x → Pv i σ H → H T = none → g (.ref T) σ (upd H T (.tup [.int (i : Nat), x])) fun σ2 H2 => tb { D with nx := Pv (i + 1), ct := Pv (i + 1), bk := D.nx } σ2 H2) (hd : ∀ σ H, Pv xs.length σ H → D.nx σ H) :
    ∃ W : Nat → Nat → L2.St → Hp → Prop, (∃ m, W 0 m σ H) ∧ ∀ i m σ H, W i m σ H → ((Ite K a).stop i H ∧ D.nx σ H) ∨
      ((Ite K a).go i H ∧ ∃ N : L2.St → Hp → Prop, (∀ σ' H', N σ' H' → ∃ m', m' < m ∧ W (i + 1) m' σ' H') ∧ ∀ v H', (Ite K a).yld i H v H' → g v σ H' fun σ2 H2 => tb { D with nx := N, ct := N, bk := D.nx } σ2 H2) := by
  refine ⟨fun i m σ H => m + i = xs.length ∧ Pv i σ H, ⟨xs.length, rfl, h0⟩, fun i m σ H hW => ?_⟩
  obtain ⟨em, p⟩ := hW
  have q := hq i σ H p
  by_cases lt : i < xs.length
  · have ex : xs[i]? = some xs[i] := List.getElem?_eq_getElem lt
    refine .inr ⟨⟨xs, _, q, ex⟩, Pv (i + 1), fun σ' H' p' => ⟨m - 1, by omega, by omega, p'⟩, fun v H' hy => ?_⟩
    obtain ⟨T, x, rfl, nT, rfl, f⟩ := hy
    exact hs i x T σ H (f xs q) p nT
  · have ei : i = xs.length := by omega
    subst ei
    exact .inl ⟨⟨xs, q, Nat.le_refl _⟩, hd σ H p⟩

/-! ## repr of data, where no repr is under way -/
@[irreducible] def rReprD (K : PySem.W.Frag) : List V → Hp → VK → Prop := fun xs H Q => ∃ (a : Addr) (d : PyData), xs = [.ref a] ∧ Dp K H (.ref a) d ∧ d.showable = true ∧ d.hasDict = false ∧ d.depth ≤ 30 ∧ d.shown.length ≤ sizeLine ∧ Q (.str d.shown) H
theorem call_reprDK {X : Cx} {K : PySem.W.Frag} (hG : X.A.guards = some []) (hu : X.A.units + 64 < cLine) (h : X.K = K := by rfl) : CallR X (.builtin "repr") (rReprD K) := by
  subst h
  intro pins s σ H xs us Q I r h
  unfold rReprD at h
  obtain ⟨a, d, rfl, hd, hs, hn, hdp, hz, q⟩ := h
  obtain ⟨v, rfl, rv⟩ := vals1 r
  cases rv
  obtain ⟨as, rd⟩ := Dp.reads I d _ _ hd rfl
  refine repr_of_reads' rd hs (PyData.noDict_hsm hn) hG (by omega) (fun b o e => e) (fun h' t tk hk => ?_) hz
  exact ⟨.str d.shown, H, I.kept hk, ⟨_, rfl⟩, q⟩
/-! ## lists of ints as data -/
def dI (ns : List Int) : PyData := .list (ns.map .int)
theorem dpall_iv {K : PySem.W.Frag} {H : Hp} : ∀ ns : List Int, DpAll K H (iv ns) (ns.map .int)
  | [] => .nil
  | n :: r => .cons (.int n) (dpall_iv r)
theorem dp_iv {K : PySem.W.Frag} {H : Hp} {a : Addr} {ns : List Int} (h : SqL K H a (iv ns)) : Dp K H (.ref a) (dI ns) := .lst h (dpall_iv ns)
theorem can_ints : ∀ ns : List Int, PyData.canLayAll0 (ns.map .int) = true
  | [] => by simp [PyData.canLayAll0]
  | n :: r => by simp [PyData.canLayAll0, PyData.canLay0, can_ints r]
theorem dep_ints : ∀ ns : List Int, PyData.depthAll (ns.map .int) = 0
  | [] => by simp [PyData.depthAll]
  | n :: r => by simp [PyData.depthAll, PyData.depth, dep_ints r]
theorem eqv_ints : ∀ xs ys : List Int, PyData.eqvAll (xs.map .int) (ys.map .int) = decide (xs = ys)
  | [], [] => by simp [PyData.eqvAll]
  | [], _ :: _ => by simp [PyData.eqvAll]
  | _ :: _, [] => by simp [PyData.eqvAll]
  | x :: r, y :: t => by
    have ih := eqv_ints r t
    simp only [List.map_cons, PyData.eqvAll, PyData.eqv, ih, List.cons.injEq]
    by_cases e : x = y <;> by_cases e2 : r = t <;> simp [e, e2]
theorem shaped_dI (ns : List Int) : SeqAt.shaped (dI ns) = true := by
  unfold SeqAt.shaped dI
  simp only [PyData.canLay0, can_ints, PyData.depth, dep_ints]
  decide
theorem eqv_dI (xs ys : List Int) : PyData.eqv (dI xs) (dI ys) = decide (xs = ys) := by
  unfold dI
  simp only [PyData.eqv, eqv_ints]
theorem shown_ints_len : ∀ ns : List Int, (∀ n ∈ ns, n.natAbs.log2 < 1920) → ((PyData.shownAll (ns.map .int)).map (·.length)).sum ≤ 2000 * ns.length ∧ (PyData.shownAll (ns.map .int)).length = ns.length
  | [], _ => by simp [PyData.shownAll]
  | n :: r, h => by
    obtain ⟨h1, h2⟩ := shown_ints_len r fun m hm => h m (List.mem_cons_of_mem _ hm)
    have e := int_text_length_le (k := 1920) (by decide) (h n (List.mem_cons_self ..))
    have e2 : (PyData.shown (.int n)).length ≤ 2000 := by
      show (Str.ofString (toString n)).length ≤ 2000
      rw [PySem.ofString_length]
      omega
    simp only [List.map_cons, PyData.shownAll, List.sum_cons, List.length_cons]
    omega
theorem show_ints : ∀ ns : List Int, (∀ n ∈ ns, n.natAbs.log2 < 1920) → PyData.showableAll (ns.map .int) = true
  | [], _ => by simp [PyData.showableAll]
  | n :: r, h => by simp [PyData.showableAll, PyData.showable, h n (List.mem_cons_self ..), show_ints r fun m hm => h m (List.mem_cons_of_mem _ hm)]
theorem nod_ints : ∀ ns : List Int, PyData.hasDictAll (ns.map .int) = false
  | [] => by simp [PyData.hasDictAll]
  | n :: r => by simp [PyData.hasDictAll, PyData.hasDict, nod_ints r]
theorem r_eqI {K : PySem.W.Frag} {H : Hp} {a b : Addr} {xs ys : List Int} {Q : VK} (h1 : SqL K H a (iv xs)) (h2 : SqL K H b (iv ys)) (q : Q (.bl (decide (xs = ys))) H) : rEqQ K (.ref a) (.ref b) H Q :=
  rEqQ_of ⟨dI xs, dI ys, dp_iv h1, dp_iv h2, shaped_dI xs, shaped_dI ys, by rw [eqv_dI]; exact q⟩
theorem r_neI {K : PySem.W.Frag} {H : Hp} {a b : Addr} {xs ys : List Int} {Q : VK} (h1 : SqL K H a (iv xs)) (h2 : SqL K H b (iv ys)) (q : Q (.bl (!decide (xs = ys))) H) : rNeQ K (.ref a) (.ref b) H Q :=
  rNeQ_of ⟨dI xs, dI ys, dp_iv h1, dp_iv h2, shaped_dI xs, shaped_dI ys, by rw [eqv_dI]; exact q⟩
theorem r_repr {K : PySem.W.Frag} {H : Hp} {a : Addr} {ns : List Int} {Q : VK} (h1 : SqL K H a (iv ns)) (hl : ns.length ≤ 5000) (hz : ∀ n ∈ ns, n.natAbs.log2 < 1920) (q : Q (.str (dI ns).shown) H) : rReprD K [.ref a] H Q := by
  unfold rReprD
  refine ⟨a, dI ns, rfl, dp_iv h1, ?_, ?_, ?_, ?_, q⟩
  · simp only [dI, PyData.showable]
    exact show_ints ns hz
  · simp only [dI, PyData.hasDict]
    exact nod_ints ns
  · simp only [dI, PyData.depth, dep_ints]
    decide
  · obtain ⟨e1, e2⟩ := shown_ints_len ns hz
    have e3 := listText_len_le (PyData.shownAll (ns.map .int))
    simp only [dI, PyData.shown]
    rw [sizeLine_eq]
    omega
mutual
theorem dp_same {K : PySem.W.Frag} {H H' : Hp} (s : Same H H') : ∀ (d : PyData) (x : V), Dp K H x d → Dp K H' x d
  | .none, _, h => by cases h; exact .non
  | .bool _, _, h => by cases h; exact .bl _
  | .int _, _, h => by cases h; exact .int _
  | .str _, _, h => by cases h; exact .str _
  | .list ds, _, h => by
    cases h with
    | lst a b => exact .lst (s.seq a) (dpall_same s ds _ b)
  | .tuple ds, _, h => by
    cases h with
    | tup a b =>
      refine .tup ?_ (dpall_same s ds _ b)
      rcases a with (a | ⟨o, a⟩) | a
      · exact .inl (.inl (s _ _ a))
      · exact .inl (.inr ⟨o, s _ _ a⟩)
      · exact .inr a
  | .dict _, _, h => nomatch h
theorem dpall_same {K : PySem.W.Frag} {H H' : Hp} (s : Same H H') : ∀ (ds : List PyData) (xs : List V), DpAll K H xs ds → DpAll K H' xs ds
  | [], _, h => by cases h; exact .nil
  | d :: ds, _, h => by
    cases h with
    | cons a b => exact .cons (dp_same s d _ a) (dpall_same s ds _ b)
end
theorem dpall_len {K : PySem.W.Frag} {H : Hp} : ∀ (ds : List PyData) (xs : List V), DpAll K H xs ds → xs.length = ds.length
  | [], _, h => by cases h; rfl
  | d :: ds, _, h => by
    cases h with
    | cons a b => rw [List.length_cons, List.length_cons, dpall_len ds _ b]
theorem dpall_get {K : PySem.W.Frag} {H : Hp} : ∀ (ds : List PyData) (xs : List V), DpAll K H xs ds → ∀ (i : Nat) (d : PyData), ds[i]? = some d → ∃ x, xs[i]? = some x ∧ Dp K H x d
  | [], _, _, _, _, e => by simp at e
  | d :: ds, _, h, i, d', e => by
    cases h with
    | cons a b =>
      cases i with
      | zero =>
        have z : d = d' := by simpa using e
        subst z
        exact ⟨_, rfl, a⟩
      | succ i => exact dpall_get ds _ b i d' (by simpa using e)
theorem tyx_lst {K : PySem.W.Frag} {H : Hp} {a : Addr} {xs : List V} (h : SqL K H a xs) : TyX K H (.ref a) (.type "list") := by
  rcases h with (h | ⟨o, h⟩) | ⟨o, its, n, h1, h2, _⟩
  · exact .base (.lst h)
  · exact .base (.frz h)
  · exact .kList h1 h2
theorem tyx_tup {K : PySem.W.Frag} {H : Hp} {a : Addr} {xs : List V} (h : SqT K H a xs) : TyX K H (.ref a) (.type "tuple") := by
  rcases h with (h | ⟨o, h⟩) | ⟨o, its, n, h1, h2, _⟩
  · exact .base (.tup h)
  · exact .fTuple h
  · exact .kTuple h1 h2
theorem kit_no {K : PySem.W.Frag} : PySem.W.kitOne K (.type "int") (.type "bool") = some false ∧ PySem.W.kitOne K (.type "str") (.type "bool") = some false ∧ PySem.W.kitOne K (.type "list") (.type "bool") = some false ∧
    PySem.W.kitOne K (.type "bool") (.type "int") = some true ∧ PySem.W.kitOne K (.type "int") (.type "int") = some true := ⟨rfl, rfl, rfl, rfl, rfl⟩
/-! ## tests -/
theorem ifD {p A B : Prop} [Decidable p] (h1 : p → A) (h2 : ¬ p → B) : if decide p = true then A else B := by
  by_cases h : p
  · rw [decide_eq_true h]; exact iteT (h1 h)
  · rw [decide_eq_false h]; exact iteF (h2 h)
theorem ifN {p A B : Prop} [Decidable p] (h1 : ¬ p → A) (h2 : p → B) : if (!decide p) = true then A else B := by
  by_cases h : p
  · rw [decide_eq_true h]; exact iteF (h2 h)
  · rw [decide_eq_false h]; exact iteT (h1 h)
theorem ifI {i j : Int} {A B : Prop} (h1 : i = j → A) (h2 : i ≠ j → B) : if decide (V.int i = V.int j) = true then A else B :=
  ifD (fun e => h1 (V.int.inj e)) fun e => h2 fun z => e (congrArg V.int z)
theorem ifIN {i j : Int} {A B : Prop} (h1 : i ≠ j → A) (h2 : i = j → B) : if (!decide (V.int i = V.int j)) = true then A else B :=
  ifN (fun e => h1 fun z => e (congrArg V.int z)) fun e => h2 (V.int.inj e)
/-! ## defs that may ask for repr: called where no repr is under way -/
structure FnG (P : Program) (w : World) (K : PySem.W.Frag) (mg : Str → Option Value) (base : Heap) (CX : CXT) (k : Nat) (f : Addr) (fd : FuncData) (ps : List Str) (sp : Sp) : Prop where
  len : ∀ vs H Q E, sp vs H Q E → vs.length = ps.length
  run : ∀ (A : Around) (outer : List Env) (s : Shared) (H : Hp) (args : Args) (us : List Value) (vs : List V) (Q : VK) (E : XK), Room k A → A.guards = some [] →
    Env0 P w K mg base A outer s H → BindsTo s fd args (ps.zip us) → Vals vs us → sp vs H Q E → codeAny (model P w) A (.call (.ref f) args) (CR CX outer P w H s Q E) s
section
variable {P : Program} {w : World} {K : PySem.W.Frag} {mg : Str → Option Value} {base : Heap} {CX : CXT}
theorem FnG.of {k : Nat} {f : Addr} {fd : FuncData} {ps : List Str} {sp : Sp} (F : FnOk P w K mg base CX k f fd ps sp) : FnG P w K mg base CX k f fd ps sp :=
  ⟨F.len, fun A outer s H args us vs Q E hr _ => F.run A outer s H args us vs Q E hr⟩
theorem fnG_of {k : Nat} {f : Addr} {nm qual : Str} {pms : Arguments} {body : List Stmt} {sc : Scope} {dV kV dc pm cdv ct oc : Value} {an od : Option Addr} {sl : Array (Option Value)} {N ps : List Str} {sp : Sp}
    (lk : K.lookup f = some ⟨oc, od, .func (PySem.W.fnOf nm qual pms body sc dV kV dc pm an cdv ct), sl⟩) (hcd : PySem.W.codeIn K cdv qual = true) (S : FnScope N ps sc) (len : ∀ vs H Q E, sp vs H Q E → vs.length = ps.length)
    (hb : ∀ (A : Around) (outer : List Env) (s : Shared) (H : Hp) (vs : List V) (Q : VK) (E : XK), A.guards = some [] → Room k (A.deeper (envOfC qual sc s.heap.objs.size f cdv)) → sp vs H Q E →
      ∃ t, PSs (cxOf CX P w K mg base N qual sc f cdv A outer s H E) body t ∧ t { nx := fun _ H' => Q .non H', rt := Q } (start N vs) H) :
    FnG P w K mg base CX (k + 1) f (PySem.W.fnOf nm qual pms body sc dV kV dc pm an cdv ct) ps sp := by
  refine ⟨len, ?_⟩
  intro A out s H args us vs Q E room hG env bnd rel pre
  have ln := len _ _ _ _ pre
  have kin : K.In s.heap := env.mod.kin.keeps fun b o e => (env.bs b o e).1
  have nl : s.heap.NoLimit := env.mod.nolimit.keeps fun b o e => (env.bs b o e).1
  have kinds : ∀ y ∈ ps.zip us, sc.names.lookup y.1 = some .local ∨ (sc.names.lookup y.1 = some .cell ∧ ((cellsFrom (s.heap.objs.size + 1) sc.names []).lookup y.1).isSome = true) := by
    rintro ⟨x, v⟩ hy
    rcases S.par x (List.of_mem_zip hy).1 with z | z
    · exact .inl z
    · exact .inr ⟨z, PySem.W.cellsFrom_some _ _ _ (.inl z)⟩
  refine codeAny_call_function room.depth (kin _ _ lk) rfl S.co S.gen rfl (PySem.W.codeRec_of kin hcd) (bnd _ _ _ _ ?_)
  refine wpAny_newFunctionEnv_cells S.kind kinds fun en hen s1 x1 => ?_
  cases hen
  refine ⟨nl.keeps x1.toInCall.keep, codeAny_func ?_⟩
  obtain ⟨t, ht, hq⟩ := hb A out s H vs Q E hG (room.deeper _) pre
  have J0 : Inv (cxOf CX P w K mg base N qual sc f cdv A out s H E) [] (start N vs) H s1 := inv_start S room.hd env ln rel x1
  refine wpAny_mono (ht.run [] s1 (start N vs) H _ J0 hq) (fun fl s2 hs => ?_) fun e s2 hs => hs
  cases fl with
  | ret u =>
    obtain ⟨v, τ, H2, J, rv, q⟩ := hs
    exact ⟨v, H2, J.os, J.bare, J.base, J.hok, rv, q⟩
  | next =>
    obtain ⟨τ, H2, J, q⟩ := hs
    exact ⟨V.non, H2, J.os, J.bare, J.base, J.hok, rfl, q⟩
  | brk =>
    obtain ⟨_, _, _, q⟩ := hs
    cases q
  | cont =>
    obtain ⟨_, _, _, q⟩ := hs
    cases q
end
/-! ## a def of the text: where it stands; its promise -/
structure DefAt (K : PySem.W.Frag) (mg : Str → Option Value) (x : Str) (st : Stmt) (ps : List Str) : Prop where
  ex : ∃ (f : Addr) (fd : FuncData), Fun K x x st f fd ∧ mg x = some (.ref f) ∧ Binds K fd ps []
/-- a def that may be called by its name; dvs: the defaults that fill up -/
structure Cal (P : Program) (w : World) (K : PySem.W.Frag) (mg : Str → Option Value) (base : Heap) (k : Nat) (x : Str) (sp : Sp) (dvs : List V) : Prop where
  ex : ∃ (f : Addr) (fd : FuncData) (ps : List Str) (ds : List Value), FnOk P w K mg base CX0 k f fd ps sp ∧ mg x = some (.ref f) ∧ PySem.W.keepIn K (.ref f) = true ∧ L2.Binds K fd ps ds ∧ Vals dvs ds
/-- a def that may be called by its name; it may ask for repr -/
structure CalG (P : Program) (w : World) (K : PySem.W.Frag) (mg : Str → Option Value) (base : Heap) (k : Nat) (x : Str) (sp : Sp) : Prop where
  ex : ∃ (f : Addr) (fd : FuncData) (ps : List Str), FnG P w K mg base CX0 k f fd ps sp ∧ mg x = some (.ref f) ∧ PySem.W.keepIn K (.ref f) = true ∧ Binds K fd ps []
section
variable {P : Program} {w : World} {K : PySem.W.Frag} {mg : Str → Option Value} {base : Heap}
theorem DefAt.cal {x : Str} {st : Stmt} {ps N : List Str} {k : Nat} {sp : Sp} (D : DefAt K mg x st ps) (S : FnScope N ps (defScope st)) (len : ∀ vs H Q E, sp vs H Q E → vs.length = ps.length)
    (hb : ∀ (f : Addr) (cdv : Value) (A : Around) (outer : List Env) (s : Shared) (H : Hp) (vs : List V) (Q : VK) (E : XK), Room k (A.deeper (envOfC x (defScope st) s.heap.objs.size f cdv)) → sp vs H Q E →
      ∃ t, PSs (cxOf CX0 P w K mg base N x (defScope st) f cdv A outer s H E).nox (defBody st) t ∧ t { nx := fun _ H' => Q .non H', rt := Q } (start N vs) H) : Cal P w K mg base (k + 1) x sp [] := by
  obtain ⟨f, fd, F, hm, b⟩ := D.ex
  exact ⟨f, fd, ps, [], F.ok S len fun cdv A outer s H vs Q E => hb f cdv A outer s H vs Q E, hm, F.kp, b, .nil⟩
theorem DefAt.calG {x : Str} {st : Stmt} {ps N : List Str} {k : Nat} {sp : Sp} (D : DefAt K mg x st ps) (S : FnScope N ps (defScope st)) (len : ∀ vs H Q E, sp vs H Q E → vs.length = ps.length)
    (hb : ∀ (f : Addr) (cdv : Value) (A : Around) (outer : List Env) (s : Shared) (H : Hp) (vs : List V) (Q : VK) (E : XK), A.guards = some [] → Room k (A.deeper (envOfC x (defScope st) s.heap.objs.size f cdv)) → sp vs H Q E →
      ∃ t, PSs (cxOf CX0 P w K mg base N x (defScope st) f cdv A outer s H E).nox (defBody st) t ∧ t { nx := fun _ H' => Q .non H', rt := Q } (start N vs) H) : CalG P w K mg base (k + 1) x sp := by
  obtain ⟨f, fd, ⟨⟨oc, od, kV, doc, pm, an, cdv, ct, osl, rfl, lk, hcd⟩, kp⟩, hm, b⟩ := D.ex
  refine ⟨f, _, ps, fnG_of lk hcd S len fun A outer s H vs Q E hG hr hsp => ?_, hm, kp, b⟩
  obtain ⟨t, h, q⟩ := hb f cdv A outer s H vs Q E hG hr hsp
  exact ⟨t, h.nox, q⟩
theorem okG {x qual : Str} {st : Stmt} {f : Addr} {fd : FuncData} {N ps : List Str} {k : Nat} {sp : Sp} (F : Fun K x qual st f fd) (S : FnScope N ps (defScope st)) (len : ∀ vs H Q E, sp vs H Q E → vs.length = ps.length)
    (hb : ∀ (cdv : Value) (A : Around) (outer : List Env) (s : Shared) (H : Hp) (vs : List V) (Q : VK) (E : XK), A.guards = some [] → Room k (A.deeper (envOfC qual (defScope st) s.heap.objs.size f cdv)) → sp vs H Q E →
      ∃ t, PSs (cxOf CX0 P w K mg base N qual (defScope st) f cdv A outer s H E).nox (defBody st) t ∧ t { nx := fun _ H' => Q .non H', rt := Q } (start N vs) H) : FnG P w K mg base CX0 (k + 1) f fd ps sp := by
  obtain ⟨⟨oc, od, kV, doc, pm, an, cdv, ct, osl, rfl, lk, hcd⟩, kp⟩ := F
  refine fnG_of lk hcd S len fun A outer s H vs Q E hG hr hsp => ?_
  obtain ⟨t, h, q⟩ := hb cdv A outer s H vs Q E hG hr hsp
  exact ⟨t, h.nox, q⟩
theorem calG_of {x : Str} {k : Nat} {sp : Sp} (c : Cal P w K mg base k x sp []) : CalG P w K mg base k x sp := by
  obtain ⟨f, fd, ps, ds, F, hm, kp, b, d⟩ := c.ex
  cases d
  exact ⟨f, fd, ps, FnG.of F, hm, kp, b⟩
theorem Cal.imp {x : Str} {k j : Nat} {sp sp' : Sp} {dvs : List V} (c : Cal P w K mg base k x sp dvs) (hk : k ≤ j) (h : ∀ vs H Q E, sp' vs H Q E → sp vs H Q E) : Cal P w K mg base j x sp' dvs := by
  obtain ⟨f, fd, ps, ds, F, hm, kp, b, d⟩ := c.ex
  exact ⟨f, fd, ps, ds, (F.mono hk).imp h, hm, kp, b, d⟩
end
section
variable {X : Cx} {k j : Nat} {x : Str} {sp : Sp} {p pos : Pos} {e : Expr} {es : List Expr} {t : TA}
theorem pe_c {dvs : List V} (c : Cal X.prog X.w X.K X.mg X.base k x sp dvs) (hr : Room j X.A) (hk : k ≤ j) (hg : Gl X x) (ha : PA X (e :: es) t)
    (hdb : (x == ("__debug__" : Str)) = false := by decide) (he : starEach (e :: es) X.env = (false, eval e X.env) :: starEach es X.env := by rfl) (hpl : (backTo pos (starEach es X.env)).any (·.1) = false := by rfl) :
    PE X (.Call (.Name x p) (e :: es) [] pos) (tCall sp dvs E0 t) := by
  obtain ⟨f, fd, ps, ds, F, hm, kp, bd, vd⟩ := c.ex
  exact L2.pe_call F (hr.mono hk) hg hm kp bd vd pass0 ha hdb he hpl
/-- a call of a def that may ask for repr -/
theorem pe_cG (c : CalG X.prog X.w X.K X.mg X.base k x sp) (hG : X.A.guards = some []) (hr : Room j X.A) (hk : k ≤ j) (hg : Gl X x) (ha : PA X (e :: es) t)
    (hdb : (x == ("__debug__" : Str)) = false := by decide) (he : starEach (e :: es) X.env = (false, eval e X.env) :: starEach es X.env := by rfl) (hpl : (backTo pos (starEach es X.env)).any (·.1) = false := by rfl) :
    PE X (.Call (.Name x p) (e :: es) [] pos) (tCall sp [] E0 t) := by
  obtain ⟨f, fd, ps, F, hm, kp, b⟩ := c.ex
  refine ⟨fun pins s σ H Q I h => wpAny_Call_Name_kw (ld_glob I hg hm ?_ hdb)⟩
  refine PySem.W.callWith_K (h₀ := X.base) I.ok.mod.kin kp (thn (ha.run pos pins s σ H _ I h) fun us s1 hx => ?_) he hpl
  obtain ⟨vs, H1, I1, r, q⟩ := hx
  rw [List.append_nil] at q
  have ln : us.length = ps.length := by rw [← r.length]; exact F.len _ _ _ _ q
  have bb : BindsTo s1 fd ⟨us, []⟩ (ps.zip us) := by
    have z := b s1 us I1.kIn (by rw [List.append_nil]; exact ln)
    rw [List.append_nil] at z
    exact z
  refine ⟨I1.kIn, wpAny_call (codeAny_mono (F.run X.A X.stack s1 H1 ⟨us, []⟩ us vs Q E0 (hr.mono hk) hG I1.env0 bb r q) fun r s' hq => ?_)⟩
  cases r with
  | error e => exact False.elim hq
  | ok fl =>
    cases fl with
    | ret u => exact I1.after hq
    | next => exact False.elim hq
    | brk => exact False.elim hq
    | cont => exact False.elim hq
end
/-! ## methods, properties, new objects -/
structure Met (P : Program) (w : World) (K : PySem.W.Frag) (mg : Str → Option Value) (base : Heap) (k : Nat) (C : Addr) (m : Str) (sp : Sp) : Prop where
  ex : ∃ (f : Addr) (fd : FuncData) (ps : List Str), Cls K C ∧ Meth K C m f ∧ FnOk P w K mg base CX0 k f fd ps sp ∧ L2.Binds K fd ps []
structure Prp (P : Program) (w : World) (K : PySem.W.Frag) (mg : Str → Option Value) (base : Heap) (k : Nat) (C : Addr) (m : Str) (sp : Sp) : Prop where
  ex : ∃ (f p : Addr) (fd : FuncData) (ps : List Str), Cls K C ∧ PropOf K C m p f ∧ FnOk P w K mg base CX0 k f fd ps sp ∧ L2.Binds K fd ps []
structure Mak (P : Program) (w : World) (K : PySem.W.Frag) (mg : Str → Option Value) (base : Heap) (k : Nat) (x : Str) (C : Addr) (sp : Sp) : Prop where
  ex : ∃ (f : Addr) (fd : FuncData) (ps : List Str), Mk K C f ∧ FnOk P w K mg base CX0 k f fd ps sp ∧ mg x = some (.ref C) ∧ L2.Binds K fd ps []
section
variable {X : Cx} {k j : Nat} {C : Addr} {x m : Str} {sp : Sp} {p pos apos : Pos} {e o : Expr} {es : List Expr} {ta : TE} {t : TA}
theorem pe_m {pl : Sem Bool} (c : Met X.prog X.w X.K X.mg X.base k C m sp) (hr : Room j X.A) (hk : k ≤ j) (he : PE X o ta) (ha : PA X (e :: es) t)
    (ht : eval (.Call (.Attribute o m apos) (e :: es) [] pos) X.env = (do
      let ov ← eval o X.env
      standAt apos.atName
      let (f, first) ← holding [ov] (getMethod ov m pl)
      callWith pos f first (backTo pos (starEach (e :: es) X.env)) (backToKw pos (keywordEach [] X.env))) := by rfl)
    (hst : starEach (e :: es) X.env = (false, eval e X.env) :: starEach es X.env := by rfl) (hpl : (backTo pos (starEach es X.env)).any (·.1) = false := by rfl) : PE X (.Call (.Attribute o m apos) (e :: es) [] pos) (tMeth C m sp [] E0 ta t) := by
  obtain ⟨f, fd, ps, c1, c2, F, b⟩ := c.ex
  exact L2.pe_meth (pl := pl) he c1 c2 F (hr.mono hk) b .nil pass0 ha hst hpl ht
theorem pe_mk (c : Mak X.prog X.w X.K X.mg X.base k x C sp) (hr : Room j X.A) (hk : k + 1 ≤ j) (hg : Gl X x) (ha : PA X (e :: es) t)
    (hdb : (x == ("__debug__" : Str)) = false := by decide) (he : starEach (e :: es) X.env = (false, eval e X.env) :: starEach es X.env := by rfl) (hpl : (backTo pos (starEach es X.env)).any (·.1) = false := by rfl) :
    PE X (.Call (.Name x p) (e :: es) [] pos) (tMake C sp [] E0 t) := by
  obtain ⟨f, fd, ps, M, F, hm, b⟩ := c.ex
  exact L2.pe_make M F (hr.mono hk) hg hm b .nil pass0 ha hdb he hpl
theorem pe_p (c : Prp X.prog X.w X.K X.mg X.base k C m sp) (hr : Room j X.A) (hk : k + 1 ≤ j) (he : PE X e ta) (hab : attributeBase e m X.env (eval e X.env) = eval e X.env := by rfl) : PE X (.Attribute e m pos) (tProp C sp [] E0 ta) := by
  obtain ⟨f, q, fd, ps, c1, c2, F, b⟩ := c.ex
  exact L2.pe_prop he c1 c2 F (hr.mono hk) b .nil pass0 hab
end
section
variable {X : Cx} {K : PySem.W.Frag} {C : Addr} {k j : Nat} {m f : Str} {sp : Sp} {ta tv : TE} {o value : Expr} {pos pos' apos tpos : Pos}
theorem pe_m0 {pl : Sem Bool} (c : Met X.prog X.w X.K X.mg X.base k C m sp) (hr : Room j X.A) (hk : k ≤ j) (he : PE X o ta)
    (ht : eval (.Call (.Attribute o m apos) [] [] pos) X.env = (do
      let ov ← eval o X.env
      standAt apos.atName
      let (f, first) ← holding [ov] (getMethod ov m pl)
      callWith pos f first (backTo pos (starEach [] X.env)) (backToKw pos (keywordEach [] X.env))) := by rfl) : PE X (.Call (.Attribute o m apos) [] [] pos) (tMeth C m sp [] E0 ta tNil) := by
  obtain ⟨f, fd, ps, c1, c2, F, b⟩ := c.ex
  exact L2.pe_meth0 (pl := pl) he c1 c2 F (hr.mono hk) b .nil pass0 ht
theorem ps_fldK (ha : PE X o ta) (hv : PE X value tv) (hs : swapsWith value (some (.Attribute o f pos')) pos.line X.env = pure false) (h : X.K = K := by rfl) : PS X (.Assign [.Attribute o f pos'] value pos) (sFld K ta tv f) := by
  subst h
  exact ps_fld ha hv hs
theorem ps_fldaugK {op : Operator} {rd : V → V → Hp → VK → Prop} (ha : PE X o ta) (hv : PE X value tv) (hop : InOp X op rd) (h : X.K = K := by rfl) : PS X (.AugAssign (.Attribute o f tpos) op value pos) (sFldAug K ta tv rd f) := by
  subst h
  exact ps_fldaug ha hv hop
end
/-- a method of the text -/
structure MetAt (K : PySem.W.Frag) (C : Addr) (m qual : Str) (st : Stmt) (ps : List Str) : Prop where
  ex : ∃ (f : Addr) (fd : FuncData), Fun K m qual st f fd ∧ Meth K C m f ∧ L2.Binds K fd ps []
section
variable {P : Program} {w : World} {K : PySem.W.Frag} {mg : Str → Option Value} {base : Heap} {C : Addr} {m x qual : Str} {st : Stmt} {ps N : List Str} {k : Nat} {sp : Sp}
theorem MetAt.met (D : MetAt K C m qual st ps) (cl : Cls K C) (S : FnScope N ps (defScope st)) (len : ∀ vs H Q E, sp vs H Q E → vs.length = ps.length)
    (hb : ∀ (f : Addr) (cdv : Value) (A : Around) (outer : List Env) (s : Shared) (H : Hp) (vs : List V) (Q : VK) (E : XK), Room k (A.deeper (envOfC qual (defScope st) s.heap.objs.size f cdv)) → sp vs H Q E →
      ∃ t, PSs (cxOf CX0 P w K mg base N qual (defScope st) f cdv A outer s H E).nox (defBody st) t ∧ t { nx := fun _ H' => Q .non H', rt := Q } (start N vs) H) : Met P w K mg base (k + 1) C m sp := by
  obtain ⟨f, fd, F, hm, b⟩ := D.ex
  exact ⟨f, fd, ps, cl, hm, F.ok S len fun cdv A outer s H vs Q E => hb f cdv A outer s H vs Q E, b⟩
end
/-- a class's __init__ of the text -/
structure IniAt (K : PySem.W.Frag) (mg : Str → Option Value) (C : Addr) (x qual : Str) (st : Stmt) (ps : List Str) : Prop where
  ex : ∃ (f : Addr) (fd : FuncData), Fun K "__init__" qual st f fd ∧ Mk K C f ∧ mg x = some (.ref C) ∧ L2.Binds K fd ps []
/-- a property of the text -/
structure PrpAt (K : PySem.W.Frag) (C : Addr) (m qual : Str) (st : Stmt) (ps : List Str) : Prop where
  ex : ∃ (f p : Addr) (fd : FuncData), Fun K m qual st f fd ∧ PropOf K C m p f ∧ L2.Binds K fd ps []
section
variable {P : Program} {w : World} {K : PySem.W.Frag} {mg : Str → Option Value} {base : Heap} {C : Addr} {m x qual : Str} {st : Stmt} {ps N : List Str} {k : Nat} {sp : Sp}
theorem IniAt.mak (D : IniAt K mg C x qual st ps) (S : FnScope N ps (defScope st)) (len : ∀ vs H Q E, sp vs H Q E → vs.length = ps.length)
    (hb : ∀ (f : Addr) (cdv : Value) (A : Around) (outer : List Env) (s : Shared) (H : Hp) (vs : List V) (Q : VK) (E : XK), Room k (A.deeper (envOfC qual (defScope st) s.heap.objs.size f cdv)) → sp vs H Q E →
      ∃ t, PSs (cxOf CX0 P w K mg base N qual (defScope st) f cdv A outer s H E).nox (defBody st) t ∧ t { nx := fun _ H' => Q .non H', rt := Q } (start N vs) H) : Mak P w K mg base (k + 1) x C sp := by
  obtain ⟨f, fd, F, hm, hg, b⟩ := D.ex
  exact ⟨f, fd, ps, hm, F.ok S len fun cdv A outer s H vs Q E => hb f cdv A outer s H vs Q E, hg, b⟩
theorem PrpAt.prp (D : PrpAt K C m qual st ps) (cl : Cls K C) (S : FnScope N ps (defScope st)) (len : ∀ vs H Q E, sp vs H Q E → vs.length = ps.length)
    (hb : ∀ (f : Addr) (cdv : Value) (A : Around) (outer : List Env) (s : Shared) (H : Hp) (vs : List V) (Q : VK) (E : XK), Room k (A.deeper (envOfC qual (defScope st) s.heap.objs.size f cdv)) → sp vs H Q E →
      ∃ t, PSs (cxOf CX0 P w K mg base N qual (defScope st) f cdv A outer s H E).nox (defBody st) t ∧ t { nx := fun _ H' => Q .non H', rt := Q } (start N vs) H) : Prp P w K mg base (k + 1) C m sp := by
  obtain ⟨f, p, fd, F, hm, b⟩ := D.ex
  exact ⟨f, p, fd, ps, cl, hm, F.ok S len fun cdv A outer s H vs Q E => hb f cdv A outer s H vs Q E, b⟩
end
/-- all but o stands -/
def But (o : Addr) (H H' : Hp) : Prop := ∀ b u, b ≠ o → H b = some u → H' b = some u
theorem But.refl (o : Addr) (H : Hp) : But o H H := fun _ _ _ h => h
theorem But.trans {o : Addr} {H H1 H2 : Hp} (a : But o H H1) (b : But o H1 H2) : But o H H2 := fun c u n h => b c u n (a c u n h)
theorem But.of {o : Addr} {H H1 : Hp} (s : Same H H1) : But o H H1 := fun b u _ h => s b u h
theorem But.put {o : Addr} {H : Hp} {u : HO} : But o H (upd H o u) := fun b x n h => by
  rw [upd_ne n]
  exact h
theorem But.seq {K : PySem.W.Frag} {o a : Addr} {H H' : Hp} {xs : List V} (b : But o H H') (n : a ≠ o) (h : H a = some (.lst xs)) : SqL K H' a xs := seqL_of (b a _ n h)
theorem Sep.but {R : Rg} {G H H' : Hp} {o : Addr} {u u' : HO} (s : Sep R G H) (h : G o = some u) (b : But o H H') (e : H' o = some u') : Sep R (upd G o u') H' := by
  have no : ∀ a, R.S a → a ≠ o := fun a ha z => by
    have q := s.off a ha
    rw [z, h] at q
    cases q
  refine ⟨R.loc H _ (fun a ha => ?_) s.inv, fun c x q => ?_, fun a ha => by rw [upd_ne (no a ha)]; exact s.off a ha⟩
  · cases q : H a with
    | none => exact absurd q (R.has H a s.inv ha)
    | some z => exact b a z (no a ha) q
  · by_cases hc : c = o
    · rw [hc, upd_same] at q
      rw [hc, e]
      exact q
    · rw [upd_ne hc] at q
      exact b c x hc (s.same c x q)

theorem Sep.add {R : Rg} {G0 H0 G H : Hp} {l : Addr} {u : HO} (s0 : Sep R G0 H0) (n : H0 l = none) (s : Sep R G H) (e : H l = some u) : Sep R (upd G l u) H := by
  have nl : ∀ a, R.S a → a ≠ l := fun a ha z => R.has H0 a s0.inv ha (by rw [z]; exact n)
  refine ⟨s.inv, fun b x q => ?_, fun a ha => by rw [upd_ne (nl a ha)]; exact s.off a ha⟩
  by_cases hb : b = l
  · rw [hb, upd_same] at q
    rw [hb, e]
    exact q
  · rw [upd_ne hb] at q
    exact s.same b x q

/-! ## calls by keywords alone -/
/-- a def called with the keywords ks alone: sp speaks of their values -/
structure CalK (P : Program) (w : World) (K : PySem.W.Frag) (mg : Str → Option Value) (base : Heap) (k : Nat) (x : Str) (ks : List Str) (sp : Sp) : Prop where
  ex : ∃ (f : Addr) (fd : FuncData) (ps : List Str) (spf : Sp) (g : List Value → List Value → List Value) (gV : List V → List V → List V),
    FnOk P w K mg base CX0 k f fd ps spf ∧ mg x = some (.ref f) ∧ PySem.W.keepIn K (.ref f) = true ∧ KBn K fd ps 0 ks g gV ∧ ∀ zs H Q E, sp zs H Q E → zs.length = ks.length ∧ spf (gV [] zs) H Q E
def tCk (sp : Sp) (tk : TA) : TE := fun σ H Q => tk σ H fun zs H1 => sp zs H1 Q E0
section
variable {X : Cx} {k j : Nat} {x : Str} {ks : List Str} {sp : Sp} {p pos : Pos} {kws : List Keyword} {tk : TA}
theorem pe_ck (c : CalK X.prog X.w X.K X.mg X.base k x ks sp) (hr : Room j X.A) (hk : k ≤ j) (hg : Gl X x) (hkw : PK X kws tk)
    (hall : (backToKw pos (keywordEach kws X.env)).all (·.1.isSome) = true := by rfl) (hks : (backToKw pos (keywordEach kws X.env)).filterMap (·.1) = ks := by rfl) (hdb : (x == ("__debug__" : Str)) = false := by decide)
    (hpl : ((backTo pos (starEach [] X.env)).any (·.1) || (backToKw pos (keywordEach kws X.env)).any (·.1.isNone)) = false := by rfl) : PE X (.Call (.Name x p) [] kws pos) (tCk sp tk) := by
  obtain ⟨f, fd, ps, spf, g, gV, F, hm, kp, hb, hs⟩ := c.ex
  refine ⟨fun pins s σ H Q I h => wpAny_Call_Name_kw (ld_glob I hg hm ?_ hdb)⟩
  refine PySem.W.callWith_KW0 (h₀ := X.base) I.ok.mod.kin kp hall (thn (hkw.run pos pins s σ H _ I h) fun ws s1 hx => ?_) hpl
  obtain ⟨zs, H1, I1, rz, q⟩ := hx
  obtain ⟨lz, q⟩ := hs _ _ _ _ q
  refine ⟨I1.kIn, ?_⟩
  rw [hks]
  exact run_fnN F (hr.mono hk) hb pass0 I1 .nil rz rfl lz q
end

/-! ## a def with defaults, called by place or by keywords -/
section
variable {P : Program} {w : World} {K : PySem.W.Frag} {mg : Str → Option Value} {base : Heap} {x qual : Str} {pms : Arguments} {body : List Stmt} {sc : Scope} {dvs : List V} {f : Addr} {fd : FuncData} {ps ks : List Str}
/-- all parameters by keywords; g brings the values in the parameters' order -/
theorem kbn_dflt (F : FunD K x qual pms body sc dvs [] f fd) (hd : dvs ≠ []) (g : {α : Type} → List α → List α) (hg : ∀ {vs : List V} {us : List Value}, Vals vs us → Vals (g vs) (g us))
    (h : ∀ (T : Addr) (kV doc pm : Value) (an : Option Addr) (cdv ct : Value) (ws its : List Value), ws.length = ks.length → its.length = dvs.length →
      ∃ k, bindArgs (PySem.W.fnOf x qual pms body sc (.ref T) kV doc pm an cdv ct) ⟨[], ks.zip ws⟩ = seqItems? (.ref T) >>= k ∧ k (some its.toArray) = pure (ps.zip (g ws))) : KBn K fd ps 0 ks (fun _ ws => g ws) (fun _ zs => g zs) := by
  obtain ⟨oc, od, dV, kV, doc, pm, an, cdv, ct, osl, rfl, lk, hcd, hD, hK⟩ := F.ex
  rcases hD with ⟨e, _⟩ | ⟨_, T, o, its, m, rfl, lT, oT, rT⟩
  · exact absurd e hd
  · refine ⟨fun s us ws X l1 l2 => ?_, fun r1 r2 => hg r2⟩
    cases us with
    | cons u us => cases l1
    | nil =>
      obtain ⟨k, e1, e2⟩ := h T kV doc pm an cdv ct ws its l2 rT.length.symm
      refine BindsTo.of_looks fun M => ?_
      rw [e1]
      exact looks_items X lT oT (.of_pure e2)
/-- .. of a def without defaults -/
theorem kbn_plain {st : Stmt} (F : Fun K x qual st f fd) (g : {α : Type} → List α → List α) (hg : ∀ {vs : List V} {us : List Value}, Vals vs us → Vals (g vs) (g us))
    (h : ∀ (kV doc pm : Value) (an : Option Addr) (cdv ct : Value) (ws : List Value), ws.length = ks.length →
      bindArgs (PySem.W.fnOf x qual (defArgs st) (defBody st) (defScope st) .none kV doc pm an cdv ct) ⟨[], ks.zip ws⟩ = pure (ps.zip (g ws))) : KBn K fd ps 0 ks (fun _ ws => g ws) (fun _ zs => g zs) := by
  obtain ⟨oc, od, kV, doc, pm, an, cdv, ct, osl, rfl, lk, hcd⟩ := F.ex
  refine ⟨fun s us ws X l1 l2 => ?_, fun r1 r2 => hg r2⟩
  cases us with
  | cons u us => cases l1
  | nil => exact .of_eq (h kV doc pm an cdv ct ws l2)
theorem calK_mk {k : Nat} {spf sp : Sp} {g : List Value → List Value → List Value} {gV : List V → List V → List V} (F : FnOk P w K mg base CX0 k f fd ps spf) (hm : mg x = some (.ref f)) (kp : PySem.W.keepIn K (.ref f) = true) (b : KBn K fd ps 0 ks g gV)
    (h : ∀ zs H Q E, sp zs H Q E → zs.length = ks.length ∧ spf (gV [] zs) H Q E) : CalK P w K mg base k x ks sp := ⟨f, fd, ps, spf, g, gV, F, hm, kp, b, h⟩
end
/-- a def without defaults that is called by place and by keywords -/
structure Def2 (P : Program) (w : World) (K : PySem.W.Frag) (mg : Str → Option Value) (base : Heap) (k : Nat) (x : Str) (st : Stmt) (ps : List Str) (sp : Sp) : Prop where
  ex : ∃ (f : Addr) (fd : FuncData), Fun K x x st f fd ∧ mg x = some (.ref f) ∧ Binds K fd ps [] ∧ FnOk P w K mg base CX0 k f fd ps sp
section
variable {P : Program} {w : World} {K : PySem.W.Frag} {mg : Str → Option Value} {base : Heap} {x : Str} {st : Stmt} {ps ks N : List Str} {k : Nat} {sp sp' : Sp}
theorem DefAt.two (D : DefAt K mg x st ps) (S : FnScope N ps (defScope st)) (len : ∀ vs H Q E, sp vs H Q E → vs.length = ps.length)
    (hb : ∀ (f : Addr) (cdv : Value) (A : Around) (outer : List Env) (s : Shared) (H : Hp) (vs : List V) (Q : VK) (E : XK), Room k (A.deeper (envOfC x (defScope st) s.heap.objs.size f cdv)) → sp vs H Q E →
      ∃ t, PSs (cxOf CX0 P w K mg base N x (defScope st) f cdv A outer s H E).nox (defBody st) t ∧ t { nx := fun _ H' => Q .non H', rt := Q } (start N vs) H) : Def2 P w K mg base (k + 1) x st ps sp := by
  obtain ⟨f, fd, F, hm, b⟩ := D.ex
  exact ⟨f, fd, F, hm, b, F.ok S len fun cdv A outer s H vs Q E => hb f cdv A outer s H vs Q E⟩
theorem Def2.cal (D : Def2 P w K mg base k x st ps sp) : Cal P w K mg base k x sp [] := by
  obtain ⟨f, fd, F, hm, b, ok⟩ := D.ex
  exact ⟨f, fd, ps, [], ok, hm, F.kp, b, .nil⟩
theorem Def2.calK (D : Def2 P w K mg base k x st ps sp) (g : {α : Type} → List α → List α) (hg : ∀ {vs : List V} {us : List Value}, Vals vs us → Vals (g vs) (g us))
    (h : ∀ (kV doc pm : Value) (an : Option Addr) (cdv ct : Value) (ws : List Value), ws.length = ks.length →
      bindArgs (PySem.W.fnOf x x (defArgs st) (defBody st) (defScope st) .none kV doc pm an cdv ct) ⟨[], ks.zip ws⟩ = pure (ps.zip (g ws))) (hs : ∀ zs H Q E, sp' zs H Q E → zs.length = ks.length ∧ sp (g zs) H Q E) : CalK P w K mg base k x ks sp' := by
  obtain ⟨f, fd, F, hm, b, ok⟩ := D.ex
  exact calK_mk ok hm F.kp (kbn_plain F g hg h) hs
end
theorem perm_sorted_eq : ∀ {xs ys : List Int}, xs.Perm ys → xs.Pairwise (· ≤ ·) → ys.Pairwise (· ≤ ·) → xs = ys
  | [], ys, p, _, _ => (List.nil_perm.mp p).symm
  | x :: r, [], p, _, _ => absurd (List.perm_nil.mp p) (by simp)
  | x :: r, y :: t, p, h1, h2 => by
    have a1 := (List.pairwise_cons.mp h1).1
    have a2 := (List.pairwise_cons.mp h2).1
    have m1 : x ∈ y :: t := p.mem_iff.mp (List.mem_cons_self ..)
    have m2 : y ∈ x :: r := p.mem_iff.mpr (List.mem_cons_self ..)
    have e : x = y := by
      rcases List.mem_cons.mp m1 with z | z
      · exact z
      · rcases List.mem_cons.mp m2 with z2 | z2
        · exact z2.symm
        · have := a1 y z2
          have := a2 x z
          omega
    subst e
    rw [perm_sorted_eq (List.Perm.cons_inv p) (List.pairwise_cons.mp h1).2 (List.pairwise_cons.mp h2).2]

/-! ## a law's end, of a law that may ask for repr -/
theorem law_endG {P : Program} {w : World} {K : PySem.W.Frag} {mg mb : Str → Option Value} {k : Nat} {fa a : Addr} {fd : FuncData} {x : Str} {sp : Sp} {s₁ : Shared} {vs : List Value} {ns : List Int}
    (KX : K.In s₁.heap) (hns : s₁.heap.Ns mainGlobals mg) (hb : s₁.heap.Ns builtinsNs mb) (hbb : ∀ x : Str, x ≠ "__name__" → mb x = bootBuiltins x) (hlim : s₁.heap.NoLimit) (hg : s₁.gens = #[])
    (ha : s₁.heap.get? a = some { cls := .type "list", data := .seq vs.toArray }) (hi : IntsAre vs ns) (hl : ns.length ≤ sizeLine) (hr : Room k callerA)
    (F : ∀ base : Heap, K.In base → base.Ns mainGlobals mg → FnG P w K mg base CX0 k fa fd [x] sp) (hbind : ∀ (s : Shared) (u : Value), BindsTo s fd ⟨[u], []⟩ [(x, u)])
    (hsp : ∀ H : Hp, Only H → SqL K H a (iv ns) → sp [.ref a] H (fun v _ => v = .bl true) fun _ _ _ => False) :
    codeAny (model P w) callerA (.call (.ref fa) ⟨[.ref a], []⟩) (fun r s' => r = .ok (.ret (.bool true)) ∧ OldK s₁.heap s'.heap ∧ s'.os = s₁.os ∧ AllBare s'.gens) s₁ := by
  have rel := vals_ints hi
  have same : ∀ H : Hp, Only H → SqL K H a (iv ns) → HOk P w H s₁.heap → (∀ b, H b ≠ none → b = a) → (H a ≠ none → K.lookup a = none) →
      codeAny (model P w) callerA (.call (.ref fa) ⟨[.ref a], []⟩) (fun r s' => r = .ok (.ret (.bool true)) ∧ OldK s₁.heap s'.heap ∧ s'.os = s₁.os ∧ AllBare s'.gens) s₁ := by
    intro H only sq hok at_a k_a
    have nonK : ∀ {b : Addr} {o : Obj}, K.lookup b = some o → H b = none := by
      intro b o e
      cases q : H b with
      | none => rfl
      | some u =>
        have z := at_a b (by rw [q]; simp)
        subst z
        rw [k_a (by rw [q]; simp)] at e
        cases e
    have nonD : ∀ {b : Addr} {o : Obj} {es : Array DictEntry} {ep : Nat}, s₁.heap.get? b = some o → o.data = .dict es ep → H b = none := by
      intro b o es ep e d
      cases q : H b with
      | none => rfl
      | some u =>
        have z := at_a b (by rw [q]; simp)
        subst z
        rw [ha] at e
        cases e
        cases d
    have nsB : ∀ {b : Addr} {m : Str → Option Value}, s₁.heap.Ns b m → (hidT s₁.heap H).Ns b m := by
      rintro b m ⟨o, es, ep, e, d, r⟩
      exact ⟨o, es, ep, hidT_get e (nonD e d), d, r⟩
    have kinB : K.In (hidT s₁.heap H) := fun b o e => hidT_get (KX b o e) (nonK e)
    have md : Mod K mg (hidT s₁.heap H) := by
      obtain ⟨mc, h1, h2⟩ := hlim
      exact ⟨kinB, nsB hns, ⟨mb, nsB hb, hbb⟩, ⟨mc, nsB h1, h2⟩⟩
    have noIn : ∀ b : Addr, b ∉ frs [] := fun b z => by cases z
    have env : Env0 P w K mg (hidT s₁.heap H) callerA [] s₁ H := ⟨rfl, md, fun b o e => of_hidT e, Nat.le_of_eq (hidT_size _ _), trivial, fun b z => absurd z (noIn b), hok, .of_eq hg⟩
    refine codeAny_mono ((F _ kinB (nsB hns)).run callerA [] s₁ H ⟨[.ref a], []⟩ [.ref a] [.ref a] _ _ hr rfl env (hbind s₁ (.ref a)) (.cons rfl .nil) (hsp H only sq)) fun r s' h => ?_
    cases r with
    | error e => exact False.elim h
    | ok fl =>
      cases fl with
      | next => exact False.elim h
      | brk => exact False.elim h
      | cont => exact False.elim h
      | ret u =>
        obtain ⟨v, H', os, bare, un, hok', rv, q⟩ := h
        have ev : v = .bl true := q
        subst ev
        have eu : u = Value.bool true := rv
        subst eu
        refine ⟨rfl, OldK.of_keep fun b o e => ?_, os, bare⟩
        cases q : H b with
        | none => exact un.keep b o e q (noIn b) (by simp)
        | some u =>
          rcases only b with z | ⟨ob, xs, z⟩
          · rw [q] at z
            cases z
          · obtain ⟨e1, _⟩ := hok b _ z
            obtain ⟨e2, _⟩ := hok' b _ (un.frzs b ob _ z)
            rw [e] at e1
            cases e1
            exact e2
  cases hk : K.lookup a with
  | some o =>
    have e := KX a o hk
    rw [ha] at e
    cases e
    refine same (fun _ => none) (fun _ => .inl rfl) (.inr ⟨_, vs.toArray, _, hk, rfl, rfl, rfl, ?_, by simpa using rel⟩) (fun b u z => ?_) (fun b z => absurd rfl z) fun z => absurd rfl z
    · rw [List.size_toArray, hi.length]
      exact hl
    · exact nomatch (show (none : Option HO) = some u from z)
  | none =>
    let H0 : Hp := fun b => if b = a then some (.frz { cls := .type "list", data := .seq vs.toArray } (.lst (iv ns))) else none
    have at1 : H0 a = some (.frz { cls := .type "list", data := .seq vs.toArray } (.lst (iv ns))) := if_pos rfl
    have at0 : ∀ b, b ≠ a → H0 b = none := fun b hb => if_neg hb
    refine same H0 (fun b => ?_) (.inl (.inr ⟨_, at1⟩)) (fun b u z => ?_) (fun b z => ?_) fun _ => hk
    · by_cases hb : b = a
      · exact .inr ⟨_, _, by rw [hb]; exact at1⟩
      · exact .inl (at0 b hb)
    · by_cases hb : b = a
      · subst hb
        rw [at1] at z
        cases z
        exact ⟨ha, by rw [iv_len]; exact hl, vs, _, rel, ha⟩
      · rw [at0 b hb] at z
        cases z
    · by_cases hb : b = a
      · exact hb
      · exact absurd (at0 b hb) z
theorem walk_ofG {l : PySem.W.OpenLaw} {n k : Nat} {q : Program} {loose : List Str} {XP : (Str → Option Value) → Heap → Prop} {YP : World → Heap → Prop} {d : DefRec} {K : Params → PySem.W.Frag} {sp : PySem.W.Frag → Sp} {x : Str}
    (hn : l.most = some n) (hn2 : n ≤ sizeLine) (hdf : d.params.defaults = []) (hr : Room k callerA) (hY : ∀ (w : World) (h : Heap), YP w h → (K w.params).In h)
    (F : ∀ (w : World) (mg : Str → Option Value) (fa : Addr) (h : Heap), (K w.params).In h → h.Ns mainGlobals mg → mg d.name = some (.ref fa) →
      ∃ fd : FuncData, (∀ (s : Shared) (u : Value), BindsTo s fd ⟨[u], []⟩ [(x, u)]) ∧
        ∀ base : Heap, (K w.params).In base → base.Ns mainGlobals mg → FnG l.prog w (K w.params) mg base CX0 k fa fd [x] (sp (K w.params)))
    (hsp : ∀ (K : PySem.W.Frag) (H : Hp) (a : Addr) (ns : List Int), ns.length ≤ n → SqL K H a (iv ns) → sp K [.ref a] H (fun v _ => v = .bl true) fun _ _ _ => False) :
    PySem.W.WalkO q loose XP YP l.row.toRowW d [] (fun f vs => PySem.call f vs) := by
  refine Att.attach_call hn hdf fun w s₀ s₁ mg mb fa o pm cd doc a vs ns G Y ho hd hcd hmg hobj hints hlen hg => ?_
  have KX := hY w _ Y
  obtain ⟨fd, hb, hF⟩ := F w mg fa _ KX G.T.g hmg
  exact law_endG KX G.T.g G.T.b G.T.builtins G.T.nolimit hg hobj hints (Nat.le_trans hlen hn2) hr hF hb fun H _ hS => hsp (K w.params) H a ns hlen hS

/-! ## a def of the text, out of what the top has written -/
theorem DefAt.mk1 {K : PySem.W.Frag} {h : Heap} {mg : Str → Option Value} {x : Str} {st : Stmt} {ps : List Str} {f : Addr} {od an : Option Addr} {sl : Array (Option Value)} {oc kV dc pm cd ct : Value} (X : K.In h) (G : h.Ns mainGlobals mg)
    (a : PySem.W.nsIn K mainGlobals x = some (some (.ref f))) (l : K.lookup f = some ⟨oc, od, .func (PySem.W.fnOf x x (defArgs st) (defBody st) (defScope st) .none kV dc pm an cd ct), sl⟩) (c : PySem.W.codeIn K cd x = true) (k : PySem.W.keepIn K (.ref f) = true)
    (hb : ∀ (kV doc pm : Value) (an : Option Addr) (cdv ct : Value) (us : List Value), us.length = ps.length → bindArgs (PySem.W.fnOf x x (defArgs st) (defBody st) (defScope st) .none kV doc pm an cdv ct) ⟨us, []⟩ = pure (ps.zip us)) : DefAt K mg x st ps :=
  ⟨f, _, fun_mk (st := st) l c k, PySem.W.mg_of X G a, (fun_mk (st := st) l c k).binds hb⟩
theorem cutD {p q : Prop} (h : p) (k : p → q) : q := k h
/-- a class: what its facts say -/
theorem cls_mk {K : PySem.W.Frag} {h : Heap} {mg : Str → Option Value} {x : Str} {C : Addr} (X : K.In h) (hC : mg x = some (.ref C)) (pg : PySem.W.plainGet K C Str.empty = true) (hd : PySem.W.hasDictIn K C = true) (po : PySem.W.plainOver K C = true) (sa : PySem.W.findIn K (.ref C) "__setattr__" = some (some (.builtin "object.__setattr__"))) : Cls K C := ⟨pg, hd, po, sa⟩
theorem noat_mk {K : PySem.W.Frag} {h : Heap} {mg : Str → Option Value} {x : Str} {C : Addr} {m : Str} (X : K.In h) (hC : mg x = some (.ref C)) (n : PySem.W.findIn K (.ref C) m = some none) : NoAttr K C m := n
theorem IniAt.mk1 {K : PySem.W.Frag} {h : Heap} {mg : Str → Option Value} {C : Addr} {x qual : Str} {st : Stmt} {ps : List Str} {f : Addr} {od an : Option Addr} {sl : Array (Option Value)} {oc kV dc pm cd ct : Value} (X : K.In h) (hm : mg x = some (.ref C))
    (a : PySem.W.findIn K (.ref C) "__init__" = some (some (.ref f))) (l : K.lookup f = some ⟨oc, od, .func (PySem.W.fnOf "__init__" qual (defArgs st) (defBody st) (defScope st) .none kV dc pm an cd ct), sl⟩) (c : PySem.W.codeIn K cd qual = true) (k : PySem.W.keepIn K (.ref f) = true)
    (mk : PySem.W.makesIn K C = true) (i : PySem.W.isFn K (.ref f) = true) (kc : PySem.W.keepIn K (.ref C) = true)
    (hb : ∀ (kV doc pm : Value) (an : Option Addr) (cdv ct : Value) (us : List Value), us.length = ps.length → bindArgs (PySem.W.fnOf "__init__" qual (defArgs st) (defBody st) (defScope st) .none kV doc pm an cdv ct) ⟨us, []⟩ = pure (ps.zip us)) : IniAt K mg C x qual st ps :=
  ⟨f, _, fun_mk (st := st) l c k, ⟨mk, a, i, kc⟩, hm, (fun_mk (st := st) l c k).binds hb⟩
theorem MetAt.mk1 {K : PySem.W.Frag} {h : Heap} {mg : Str → Option Value} {x : Str} {C : Addr} {m qual : Str} {st : Stmt} {ps : List Str} {f : Addr} {od an : Option Addr} {sl : Array (Option Value)} {oc kV dc pm cd ct : Value} (X : K.In h) (hC : mg x = some (.ref C))
    (a : PySem.W.findIn K (.ref C) m = some (some (.ref f))) (l : K.lookup f = some ⟨oc, od, .func (PySem.W.fnOf m qual (defArgs st) (defBody st) (defScope st) .none kV dc pm an cd ct), sl⟩) (c : PySem.W.codeIn K cd qual = true) (k : PySem.W.keepIn K (.ref f) = true) (i : PySem.W.isFn K (.ref f) = true)
    (hb : ∀ (kV doc pm : Value) (an : Option Addr) (cdv ct : Value) (us : List Value), us.length = ps.length → bindArgs (PySem.W.fnOf m qual (defArgs st) (defBody st) (defScope st) .none kV doc pm an cdv ct) ⟨us, []⟩ = pure (ps.zip us)) : MetAt K C m qual st ps :=
  ⟨f, _, fun_mk (st := st) l c k, ⟨a, i, k⟩, (fun_mk (st := st) l c k).binds hb⟩
theorem PrpAt.mk1 {K : PySem.W.Frag} {h : Heap} {mg : Str → Option Value} {x : Str} {C : Addr} {m qual : Str} {st : Stmt} {ps : List Str} {f p : Addr} {rest : List Value} {od an : Option Addr} {sl : Array (Option Value)} {oc kV dc pm cd ct : Value} (X : K.In h) (hC : mg x = some (.ref C))
    (a : PySem.W.findIn K (.ref C) m = some (some (.ref p))) (g : PySem.W.specialIn K (.ref p) "__get__" = some (some (.builtin "property.__get__"))) (t : PySem.W.takesIn K (.ref p) = some true) (r : PySem.W.recIn K p "property" = some (.ref f :: rest))
    (l : K.lookup f = some ⟨oc, od, .func (PySem.W.fnOf m qual (defArgs st) (defBody st) (defScope st) .none kV dc pm an cd ct), sl⟩) (c : PySem.W.codeIn K cd qual = true) (k : PySem.W.keepIn K (.ref f) = true)
    (hb : ∀ (kV doc pm : Value) (an : Option Addr) (cdv ct : Value) (us : List Value), us.length = ps.length → bindArgs (PySem.W.fnOf m qual (defArgs st) (defBody st) (defScope st) .none kV doc pm an cdv ct) ⟨us, []⟩ = pure (ps.zip us)) : PrpAt K C m qual st ps :=
  ⟨f, p, _, fun_mk (st := st) l c k, ⟨a, g, t, rest, r⟩, (fun_mk (st := st) l c k).binds hb⟩
theorem glob_mk {K : PySem.W.Frag} {h : Heap} {mg : Str → Option Value} {x : Str} {C : Addr} (X : K.In h) (G : h.Ns mainGlobals mg) (a : PySem.W.nsIn K mainGlobals x = some (some (.ref C))) : mg x = some (.ref C) := PySem.W.mg_of X G a
/-- a def with defaults -/
theorem funD_mk {K : PySem.W.Frag} {h : Heap} {mg : Str → Option Value} {x : Str} {st : Stmt} {dvs : List V} {f T : Addr} {o : Obj} {its : List Value} {n : Nat} {od an : Option Addr} {sl : Array (Option Value)} {oc kV dc pm cd ct : Value} (X : K.In h) (G : h.Ns mainGlobals mg)
    (a : PySem.W.nsIn K mainGlobals x = some (some (.ref f))) (l : K.lookup f = some ⟨oc, od, .func (PySem.W.fnOf x x (defArgs st) (defBody st) (defScope st) (.ref T) kV dc pm an cd ct), sl⟩) (c : PySem.W.codeIn K cd x = true) (k : PySem.W.keepIn K (.ref f) = true)
    (t : K.lookup T = some o) (e : o.data = .seq its.toArray n) (hv : Vals dvs its) (hd : dvs ≠ []) : FunD K x x (defArgs st) (defBody st) (defScope st) dvs [] f (PySem.W.fnOf x x (defArgs st) (defBody st) (defScope st) (.ref T) kV dc pm an cd ct) ∧ mg x = some (.ref f) :=
  ⟨⟨⟨oc, od, _, kV, dc, pm, an, cd, ct, sl, rfl, l, c, .inr ⟨hd, T, o, its, n, rfl, t, e, hv⟩, .inl rfl⟩, k⟩, PySem.W.mg_of X G a⟩
/-- the law's own def -/
theorem DefAt.law {K : PySem.W.Frag} {mg : Str → Option Value} {x : Str} {st : Stmt} {fa : Addr} {p : Str} (D : DefAt K mg x st [p]) (hfa : mg x = some (.ref fa))
    (hb : ∀ (kV doc pm : Value) (an : Option Addr) (cdv ct : Value) (us : List Value), us.length = 1 → bindArgs (PySem.W.fnOf x x (defArgs st) (defBody st) (defScope st) .none kV doc pm an cdv ct) ⟨us, []⟩ = pure ([p].zip us)) :
    ∃ fd : FuncData, Fun K x x st fa fd ∧ ∀ (s : Shared) (u : Value), BindsTo s fd ⟨[u], []⟩ [(p, u)] := by
  obtain ⟨f, fd, F, hm, b⟩ := D.ex
  rw [hfa] at hm
  cases hm
  obtain ⟨oc, od, kV, doc, pm, an, cdv, ct, osl, rfl, lk, hcd⟩ := F.ex
  exact ⟨_, F, fun s u => .of_eq (hb kV doc pm an cdv ct [u] rfl)⟩
end Sq

/-! the mathematics of replacements on lengths of runs -/
namespace Sq
def once (n k : Int) : Int := n / k + n % k
def sqz (n : Int) (row : List Int) : Int := row.foldl once n
def rb (R k : Int) : Int := if k > R + 1 then R else (R + 3 - k) * k - 2
def reachOf (row : List Int) (most : Int) : Int := row.foldr (fun k R => rb R k) most
abbrev Two (row : List Int) : Prop := ∀ k ∈ row, (2 : Int) ≤ k
def Mid (ns : List Int) : Prop := ∀ k ∈ ns, (2 : Int) ≤ k ∧ k < 2 ^ 240
theorem Mid.two {ns : List Int} (h : Mid ns) : Two ns := fun k hk => (h k hk).1
theorem sqz_cons (n k : Int) (r : List Int) : sqz n (k :: r) = sqz (once n k) r := rfl
theorem sqz_app (n : Int) (a b : List Int) : sqz n (a ++ b) = sqz (sqz n a) b := by simp [sqz, List.foldl_append]
theorem sqz_snoc (n k : Int) (a : List Int) : sqz n (a ++ [k]) = once (sqz n a) k := by rw [sqz_app]; rfl
theorem sqz_take {row : List Int} {n k : Int} {i : Nat} (h : row[i]? = some k) : sqz n (row.take (i + 1)) = once (sqz n (row.take i)) k := by
  rw [List.take_add_one, h]
  exact sqz_snoc _ _ _
theorem once_nn {n k : Int} (hn : 0 ≤ n) (hk : 2 ≤ k) : 0 ≤ once n k := by
  unfold once
  have h1 := Int.ediv_nonneg hn (by omega : (0 : Int) ≤ k)
  have h2 := Int.emod_nonneg n (by omega : k ≠ 0)
  omega
/-- quotient and rest -/
theorem qr (n : Int) {k : Int} (hk : 2 ≤ k) : ∃ q r, n = q * k + r ∧ 0 ≤ r ∧ r < k ∧ n / k = q ∧ n % k = r :=
  ⟨n / k, n % k, by have := Int.mul_ediv_add_emod n k; rw [Int.mul_comm] at this; omega, Int.emod_nonneg n (by omega), Int.emod_lt_of_pos n (by omega), rfl, rfl⟩
theorem qr_of {q r k : Int} (h0 : 0 ≤ r) (h1 : r < k) : (q * k + r) / k = q ∧ (q * k + r) % k = r := by
  have hk : k ≠ 0 := by omega
  constructor
  · rw [Int.add_comm, Int.add_mul_ediv_right _ _ hk, Int.ediv_eq_zero_of_lt h0 h1]; omega
  · rw [Int.add_comm, Int.add_mul_emod_self_right, Int.emod_eq_of_lt h0 h1]
theorem once_qr {q r k : Int} (h0 : 0 ≤ r) (h1 : r < k) : once (q * k + r) k = q + r := by
  obtain ⟨a, b⟩ := qr_of (q := q) h0 h1
  unfold once
  rw [a, b]
theorem once_le {n k : Int} (hn : 0 ≤ n) (hk : 2 ≤ k) : once n k ≤ n := by
  obtain ⟨q, r, e, h0, h1, e1, e2⟩ := qr n hk
  unfold once
  rw [e1, e2]
  have hq : 0 ≤ q := by rw [← e1]; exact Int.ediv_nonneg hn (by omega)
  have := Int.mul_le_mul_of_nonneg_left (by omega : (1 : Int) ≤ k) hq
  omega
theorem once_small {n k : Int} (hn : 0 ≤ n) (h : n < k) : once n k = n := by
  unfold once
  rw [Int.ediv_eq_zero_of_lt hn h, Int.emod_eq_of_lt hn h]
  omega
theorem once_pos {n k : Int} (hn : 1 ≤ n) (hk : 2 ≤ k) : 1 ≤ once n k := by
  obtain ⟨q, r, e, h0, h1, e1, e2⟩ := qr n hk
  unfold once
  rw [e1, e2]
  have hq : 0 ≤ q := by rw [← e1]; exact Int.ediv_nonneg (by omega) (by omega)
  rcases Int.lt_or_eq_of_le hq with h | h
  · omega
  · subst h; omega
theorem sqz_nn : ∀ {row : List Int} {n : Int}, 0 ≤ n → Two row → 0 ≤ sqz n row
  | [], n, h, _ => h
  | k :: r, n, h, t => sqz_nn (row := r) (once_nn h (t k (List.mem_cons_self ..))) fun j hj => t j (List.mem_cons_of_mem _ hj)
theorem sqz_le : ∀ {row : List Int} {n : Int}, 0 ≤ n → Two row → sqz n row ≤ n
  | [], n, h, _ => Int.le_refl n
  | k :: r, n, h, t => Int.le_trans (sqz_le (row := r) (once_nn h (t k (List.mem_cons_self ..))) fun j hj => t j (List.mem_cons_of_mem _ hj)) (once_le h (t k (List.mem_cons_self ..)))
theorem sqz_pos : ∀ {row : List Int} {n : Int}, 1 ≤ n → Two row → 1 ≤ sqz n row
  | [], n, h, _ => h
  | k :: r, n, h, t => sqz_pos (row := r) (once_pos h (t k (List.mem_cons_self ..))) fun j hj => t j (List.mem_cons_of_mem _ hj)
/-- one step of the reach -/
theorem rb_pos {R k : Int} (hR : 1 ≤ R) (hk : 2 ≤ k) : R ≤ rb R k := by
  unfold rb
  split
  · omega
  · rename_i h
    have e : (R + 3 - k) * k - 2 - R = (R + 1 - k) * (k - 1) + (k - 1) := by
      have e1 : R + 3 - k = (R + 1 - k) + 2 := by omega
      have e2 : k = (k - 1) + 1 := by omega
      rw [e1]
      have e3 : (R + 1 - k) * k = (R + 1 - k) * (k - 1) + (R + 1 - k) := by
        have := Int.mul_sub (R + 1 - k) k 1
        omega
      have e4 : (R + 1 - k + 2) * k = (R + 1 - k) * k + 2 * k := Int.add_mul _ _ _
      omega
    have := Int.mul_nonneg (by omega : (0 : Int) ≤ R + 1 - k) (by omega : (0 : Int) ≤ k - 1)
    omega
theorem rb_all {R k n : Int} (hR : 1 ≤ R) (hk : 2 ≤ k) (h0 : 0 ≤ n) (h : n ≤ rb R k) : once n k ≤ R := by
  unfold rb at h
  split at h
  · rw [once_small h0 (by omega)]; exact h
  · rename_i hh
    obtain ⟨q, r, e, h1, h2, e1, e2⟩ := qr n hk
    unfold once
    rw [e1, e2]
    have e3 : (R + 3 - k) * k = (R + 2 - k) * k + k := by
      have : R + 3 - k = (R + 2 - k) + 1 := by omega
      rw [this, Int.add_mul, Int.one_mul]
    rcases Int.lt_or_le q (R + 2 - k) with hq | hq
    · omega
    · rcases Int.lt_or_eq_of_le hq with hq | hq
      · have := Int.mul_le_mul_of_nonneg_right (by omega : R + 3 - k ≤ q) (by omega : (0 : Int) ≤ k)
        omega
      · subst hq
        omega
theorem rb_next {R k : Int} (hR : 1 ≤ R) (hk : 2 ≤ k) : once (rb R k + 1) k = R + 1 := by
  unfold rb
  split
  · rw [once_small (by omega) (by omega)]
  · have e3 : (R + 3 - k) * k - 2 + 1 = (R + 2 - k) * k + (k - 1) := by
      have : R + 3 - k = (R + 2 - k) + 1 := by omega
      rw [this, Int.add_mul, Int.one_mul]; omega
    rw [e3, once_qr (by omega) (by omega)]
    omega
theorem reach_pos : ∀ {row : List Int} {m : Int}, 1 ≤ m → Two row → m ≤ reachOf row m
  | [], m, _, _ => Int.le_refl m
  | k :: r, m, h, t => by
    have ih := reach_pos (row := r) h fun j hj => t j (List.mem_cons_of_mem _ hj)
    exact Int.le_trans ih (rb_pos (by omega) (t k (List.mem_cons_self ..)))
theorem reach_all : ∀ {row : List Int} {m n : Int}, 1 ≤ m → Two row → 0 ≤ n → n ≤ reachOf row m → sqz n row ≤ m
  | [], m, n, _, _, _, h => h
  | k :: r, m, n, h, t, h0, hn => by
    have t' : Two r := fun j hj => t j (List.mem_cons_of_mem _ hj)
    have hk := t k (List.mem_cons_self ..)
    have p := reach_pos h t'
    exact reach_all (row := r) h t' (once_nn h0 hk) (rb_all (by omega) hk h0 hn)
theorem reach_next : ∀ {row : List Int} {m : Int}, 1 ≤ m → Two row → sqz (reachOf row m + 1) row = m + 1
  | [], m, _, _ => rfl
  | k :: r, m, h, t => by
    have t' : Two r := fun j hj => t j (List.mem_cons_of_mem _ hj)
    have hk := t k (List.mem_cons_self ..)
    have p := reach_pos h t'
    show sqz (once (rb (reachOf r m) k + 1) k) r = m + 1
    rw [rb_next (by omega) hk]
    exact reach_next h t'
/-- the reach is where the first greater one stands -/
theorem reach_is {row : List Int} {m n : Int} (h : 1 ≤ m) (t : Two row) (h0 : 0 ≤ n) (hn : m < sqz n row) (ha : ∀ j, 0 ≤ j → j < n → sqz j row ≤ m) : reachOf row m = n - 1 := by
  have p := reach_pos h t
  rcases Int.lt_or_le (reachOf row m) n with a | a
  · rcases Int.lt_or_le (reachOf row m + 1) n with b | b
    · have := ha _ (by omega) b
      rw [reach_next h t] at this
      omega
    · omega
  · have := reach_all h t h0 a
    omega
theorem reach_mono {row : List Int} {m m' : Int} (h : 1 ≤ m) (hm : m ≤ m') (t : Two row) : reachOf row m ≤ reachOf row m' := by
  rcases Int.lt_or_le (reachOf row m') (reachOf row m) with a | a
  · have p := reach_pos (m := m') (by omega) t
    have := reach_all h t (n := reachOf row m' + 1) (by omega) (by omega)
    rw [reach_next (by omega) t] at this
    omega
  · exact a
end Sq


namespace Sq
def prodL (ns : List Int) : Int := ns.foldr (fun k p => k * p) 1
def slack (ns : List Int) : Int := (ns.map fun k => k - 1).sum
theorem prodL_cons (k : Int) (r : List Int) : prodL (k :: r) = k * prodL r := rfl
theorem prodL_app (a b : List Int) : prodL (a ++ b) = prodL a * prodL b := by
  induction a with
  | nil => simp [prodL]
  | cons k r ih => rw [List.cons_append, prodL_cons, prodL_cons, ih, Int.mul_assoc]
theorem prodL_snoc (a : List Int) (k : Int) : prodL (a ++ [k]) = prodL a * k := by rw [prodL_app]; simp [prodL]
theorem prodL_pos : ∀ {ns : List Int}, Two ns → 1 ≤ prodL ns
  | [], _ => Int.le_refl 1
  | k :: r, h => by
    have ih := prodL_pos (ns := r) fun j hj => h j (List.mem_cons_of_mem _ hj)
    have hk := h k (List.mem_cons_self ..)
    rw [prodL_cons]
    have := Int.mul_le_mul (show (1 : Int) ≤ k by omega) ih (by decide) (by omega)
    omega
theorem prodL_one : ∀ {ns : List Int}, Two ns → prodL ns ≤ 1 → ns = []
  | [], _, _ => rfl
  | k :: r, h, h1 => by
    have ih := prodL_pos (ns := r) fun j hj => h j (List.mem_cons_of_mem _ hj)
    have hk := h k (List.mem_cons_self ..)
    rw [prodL_cons] at h1
    have := Int.mul_le_mul hk ih (by decide) (by omega)
    omega
theorem once_mul (n : Int) {k : Int} (hk : 2 ≤ k) : k * once n k = n + (k - 1) * (n % k) := by
  have e := Int.mul_ediv_add_emod n k
  unfold once
  rw [Int.mul_add, Int.sub_mul, Int.one_mul]
  omega
theorem sqz_ge : ∀ {ns : List Int} {n : Int}, 0 ≤ n → Two ns → n ≤ prodL ns * sqz n ns
  | [], n, _, _ => by simp [prodL, sqz]
  | k :: r, n, h0, h => by
    have t : Two r := fun j hj => h j (List.mem_cons_of_mem _ hj)
    have hk := h k (List.mem_cons_self ..)
    have ih := sqz_ge (ns := r) (once_nn h0 hk) t
    have e := once_mul n hk
    have hm := Int.emod_nonneg n (show k ≠ 0 by omega)
    have := Int.mul_nonneg (show 0 ≤ k - 1 by omega) hm
    have := Int.mul_le_mul_of_nonneg_left ih (show 0 ≤ k by omega)
    rw [prodL_cons, sqz_cons, Int.mul_assoc]
    omega
theorem slack_cons (k : Int) (r : List Int) : slack (k :: r) = (k - 1) + slack r := by simp [slack]
theorem slack_nn : ∀ {ns : List Int}, Two ns → 0 ≤ slack ns
  | [], _ => Int.le_refl 0
  | k :: r, h => by
    have ih := slack_nn (ns := r) fun j hj => h j (List.mem_cons_of_mem _ hj)
    have hk := h k (List.mem_cons_self ..)
    rw [slack_cons]
    omega
theorem sqz_up : ∀ {ns : List Int} {n : Int}, 0 ≤ n → Two ns → prodL ns * sqz n ns ≤ n + prodL ns * slack ns
  | [], n, _, _ => by simp [prodL, sqz, slack]
  | k :: r, n, h0, h => by
    have t : Two r := fun j hj => h j (List.mem_cons_of_mem _ hj)
    have hk := h k (List.mem_cons_self ..)
    have ih := sqz_up (ns := r) (once_nn h0 hk) t
    have e := once_mul n hk
    have hl := Int.emod_lt_of_pos n (show 0 < k by omega)
    have p := prodL_pos t
    have a1 : (k - 1) * (n % k) ≤ (k - 1) * k := Int.mul_le_mul_of_nonneg_left (by omega) (by omega)
    have a2 := Int.mul_le_mul_of_nonneg_left ih (show 0 ≤ k by omega)
    -- k * (prodL r * x) ≤ k * once n k + k * prodL r * slack r
    have a3 : k * prodL r * (k - 1) = (k - 1) * k * prodL r := by
      rw [Int.mul_comm (k * prodL r), Int.mul_assoc]
    have a4 : (k - 1) * k * 1 ≤ (k - 1) * k * prodL r := Int.mul_le_mul_of_nonneg_left p (Int.mul_nonneg (by omega) (by omega))
    rw [prodL_cons, sqz_cons, slack_cons, Int.mul_add (k * prodL r), a3, Int.mul_assoc k (prodL r) (sqz _ _)]
    rw [Int.mul_add, ← Int.mul_assoc] at a2
    rw [← Int.mul_assoc] at a2
    rw [← Int.mul_assoc]
    omega
theorem sqz_mul : ∀ {ns : List Int} {m : Int}, Two ns → sqz (m * prodL ns) ns = m
  | [], m, _ => by simp [prodL, sqz]
  | k :: r, m, h => by
    have hk := h k (List.mem_cons_self ..)
    have e : m * prodL (k :: r) = (m * prodL r) * k + 0 := by
      rw [prodL_cons, Int.add_zero, Int.mul_assoc, Int.mul_comm k]
    rw [sqz_cons, e, once_qr (by omega) (by omega), Int.add_zero]
    exact sqz_mul fun j hj => h j (List.mem_cons_of_mem _ hj)
theorem slack_le : ∀ {ns : List Int} {g : Int}, (∀ k ∈ ns, k ≤ g) → slack ns ≤ ns.length * (g - 1)
  | [], g, _ => by simp [slack]
  | k :: r, g, h => by
    have ih := slack_le (ns := r) (g := g) fun j hj => h j (List.mem_cons_of_mem _ hj)
    have hk := h k (List.mem_cons_self ..)
    rw [slack_cons, List.length_cons]
    have : ((r.length + 1 : Nat) : Int) * (g - 1) = r.length * (g - 1) + (g - 1) := by
      rw [Int.natCast_add, Int.add_mul]
      simp
    omega
theorem prodL_le : ∀ {ns : List Int} {g : Int} {n : Nat}, Two ns → (∀ k ∈ ns, k ≤ g) → ns.length ≤ n → 1 ≤ g → prodL ns ≤ g ^ n
  | [], g, n, _, _, _, hg => by
    show (1 : Int) ≤ g ^ n
    exact Int.pow_pos (show 0 < g by omega)
  | k :: r, g, 0, _, _, hl, _ => by simp at hl
  | k :: r, g, n + 1, h, hk, hl, hg => by
    have ih := prodL_le (ns := r) (g := g) (n := n) (fun j hj => h j (List.mem_cons_of_mem _ hj)) (fun j hj => hk j (List.mem_cons_of_mem _ hj)) (by simpa using hl) hg
    have p := prodL_pos (ns := r) fun j hj => h j (List.mem_cons_of_mem _ hj)
    have k2 := h k (List.mem_cons_self ..)
    rw [prodL_cons, Int.pow_succ, Int.mul_comm]
    exact Int.mul_le_mul ih (hk k (List.mem_cons_self ..)) (by omega) (by omega)
/-- the product is told by one long run -/
theorem told_prod {ns : List Int} {b s : Int} (h : Two ns) (hb : prodL ns ≤ b) (hs : slack ns < s) : ((s * b * (b + 1)) + sqz (s * b * (b + 1)) ns - 1) / sqz (s * b * (b + 1)) ns = prodL ns := by
  have p := prodL_pos h
  have s0 := slack_nn h
  have L0 : 0 ≤ s * b * (b + 1) := Int.mul_nonneg (Int.mul_nonneg (by omega) (by omega)) (by omega)
  have g := sqz_ge L0 h
  have u := sqz_up L0 h
  generalize hL : s * b * (b + 1) = L at *
  generalize hx : sqz L ns = x at *
  generalize hP : prodL ns = Pr at *
  generalize hS : slack ns = S at *
  -- (Pr - 1) * x < L ≤ Pr * x
  have e1 : Pr * S * Pr ≤ S * b * b := by
    have a := Int.mul_le_mul hb hb (by omega) (by omega : 0 ≤ b)
    have c := Int.mul_le_mul_of_nonneg_left a s0
    have d1 : Pr * S * Pr = S * (Pr * Pr) := by rw [Int.mul_comm Pr S, Int.mul_assoc]
    have d2 : S * b * b = S * (b * b) := Int.mul_assoc _ _ _
    omega
  have e2 : S * b * b + b < L := by
    have a1 : (S + 1) * b * (b + 1) ≤ s * b * (b + 1) := Int.mul_le_mul_of_nonneg_right (Int.mul_le_mul_of_nonneg_right (by omega) (by omega)) (by omega)
    have a2 : (S + 1) * b * (b + 1) = S * b * b + S * b + (b * b + b) := by
      rw [Int.add_mul, Int.one_mul, Int.mul_add, Int.mul_one, Int.add_mul]
      omega
    have a3 := Int.mul_nonneg s0 (show 0 ≤ b by omega)
    have a4 := Int.mul_le_mul (show (1 : Int) ≤ b by omega) (show (1 : Int) ≤ b by omega) (by decide) (by omega)
    omega
  have xpos : 0 < x := by
    rcases Int.lt_or_le 0 x with z | z
    · exact z
    · have := Int.mul_nonpos_of_nonneg_of_nonpos (show 0 ≤ Pr by omega) z
      have := Int.mul_nonneg (Int.mul_nonneg s0 (show 0 ≤ b by omega)) (show 0 ≤ b by omega)
      omega
  have lo : (Pr - 1) * x < L := by
    -- Pr * ((Pr - 1) * x) ≤ (Pr - 1) * (L + Pr * S) < Pr * L
    have a1 := Int.mul_le_mul_of_nonneg_left u (show 0 ≤ Pr - 1 by omega)
    have a2 : (Pr - 1) * (Pr * x) = Pr * ((Pr - 1) * x) := by
      rw [← Int.mul_assoc, ← Int.mul_assoc, Int.mul_comm (Pr - 1) Pr]
    have a3 : (Pr - 1) * (L + Pr * S) = Pr * L - L + (Pr * S * Pr - Pr * S) := by
      rw [Int.sub_mul, Int.one_mul, Int.mul_add, Int.mul_comm Pr (Pr * S)]
      omega
    have a4 := Int.mul_nonneg (show 0 ≤ Pr by omega) s0
    rcases Int.lt_or_le ((Pr - 1) * x) L with z | z
    · exact z
    · have := Int.mul_le_mul_of_nonneg_left z (show 0 ≤ Pr by omega)
      omega
  have q1 : L + x - 1 = (L - (Pr - 1) * x - 1) + Pr * x := by
    rw [Int.sub_mul, Int.one_mul]
    omega
  rw [q1, Int.add_mul_ediv_right _ _ (by omega), Int.ediv_eq_zero_of_lt (by omega) (by rw [Int.sub_mul, Int.one_mul]; omega)]
  omega
/-- the next number of the list is told by runs below the product -/
theorem next_hit {k : Int} {r : List Int} (h : Two (k :: r)) : sqz (prodL (k :: r) - k + 1) (k :: r) = 1 := by
  have t : Two r := fun j hj => h j (List.mem_cons_of_mem _ hj)
  have hk := h k (List.mem_cons_self ..)
  have e : prodL (k :: r) - k + 1 = (prodL r - 1) * k + 1 := by
    rw [prodL_cons, Int.sub_mul, Int.one_mul, Int.mul_comm]
  rw [sqz_cons, e, once_qr (by omega) (by omega)]
  have := sqz_mul (m := 1) t
  rw [Int.one_mul] at this
  rw [show prodL r - 1 + 1 = prodL r by omega]
  exact this
theorem next_miss {k j : Int} {r : List Int} (h : Two (k :: r)) (hj : 2 ≤ j) (hjk : j < k) : 1 < sqz (prodL (k :: r) - j + 1) (k :: r) := by
  have t : Two r := fun j hj => h j (List.mem_cons_of_mem _ hj)
  have hk := h k (List.mem_cons_self ..)
  have p := prodL_pos t
  have e : prodL (k :: r) - j + 1 = (prodL r - 1) * k + (k - j + 1) := by
    rw [prodL_cons, Int.sub_mul, Int.one_mul, Int.mul_comm]
    omega
  rw [sqz_cons, e, once_qr (by omega) (by omega)]
  have g := sqz_ge (n := prodL r - 1 + (k - j + 1)) (by omega) t
  rcases Int.lt_or_le 1 (sqz (prodL r - 1 + (k - j + 1)) r) with z | z
  · exact z
  · have := Int.mul_le_mul_of_nonneg_left z (show 0 ≤ prodL r by omega)
    omega
end Sq


namespace Sq
open PySem PySem.Spec PyProof.Rows L2
/-! ## ranges of wide ints -/
theorem turn_wide {P : Program} {w : World} {K : PySem.W.Frag} {tg : Expr} (z : Addr) (lo : Int) (n : Nat) : Turn P w K tg (Itr lo n) [z] z (fun i h => IsLongIter h z (lo + (i : Nat) * 1) ((n : Int) - (i : Nat)) 1) := by
  refine ⟨List.mem_singleton.mpr rfl, fun i h st b hb => ?_, fun i h h2 st k => k z (List.mem_singleton.mpr rfl) _ st, ?_, ?_, fun A i s Q E st h => wpAny_pyIter_longiter st h⟩
  · rw [List.mem_singleton.mp hb]
    exact ⟨_, st, fun v c => by cases (show Data.fields _ = Data.cell v from c)⟩
  · rintro X rfl rfl rfl hc i pins s σ H E I hf st hg
    have f := hf z (List.mem_singleton.mpr rfl)
    refine (Walks.longrange (prog := X.prog) (w := X.w) (I.ok.hd hc) z lo 1 n).item i s _ _ hg st fun v h2 tk hv st2 kk => ?_
    obtain ⟨t, rfl⟩ := hv
    have J : Inv X pins σ H { s with heap := h2, toks := tk } := I.turned (fun b o hb e => kk b o (fun m => hb (List.mem_singleton.mp m)) e) f.1 f.2.1 f.2.2.2.1 f.2.2.2.2.1 f.2.2.2.2.2
    refine ⟨_, rfl, go_of (s := { s with heap := h2, toks := tk }) (n := "longrange_iterator") st2 rfl rfl (by decide) ⟨.int (lo + i), H, J, ⟨t, by rw [Int.mul_one]⟩, ⟨rfl, rfl⟩, st2, fun b hb => (hf b hb).1⟩⟩
  · rintro X rfl rfl rfl hc i pins s σ H E I hf st hg
    have f := hf z (List.mem_singleton.mpr rfl)
    have m : n ≤ i := hg
    exact wpAny_pyNext_long_end (I.ok.hd hc) st (by omega) fun h2 k => ⟨rfl, I.turned (t' := s.toks) (fun b o hb e => k b o hb e) f.1 f.2.1 f.2.2.2.1 f.2.2.2.2.1 f.2.2.2.2.2⟩
section
variable {X : Cx} {tg a b : Expr} {t : TA} {p pos : Pos}
theorem rsz (lo hi : Int) : Builtin.Range.rangeSize lo hi 1 = ((hi - lo).toNat : Int) := by
  rw [rangeSize_one]
  split <;> omega
theorem wide_it {pins : List (Addr × Obj)} {σ : L2.St} {H : Hp} {s : Shared} {R : It → Hp → Prop} {E : Value → Shared → Prop} {lo hi : Int} {t u v : Tok} {tk : Nat} (I : Inv X pins σ H s) (q : R (Itr lo (hi - lo).toNat) H) :
    wpAny (model X.prog X.w) X.A (pyIter (.ref s.heap.objs.size)) (PIE X pins σ tg R) E { s with heap := s.heap.push { cls := .type "range", data := .fields #[.int lo t, .int hi u, .int 1 v] }, toks := tk } := by
  have J : Inv X pins σ H { s with heap := s.heap.push { cls := .type "range", data := .fields #[.int lo t, .int hi u, .int 1 v] }, toks := tk } := I.kept fun b o e => Heap.get?_push_of_some _ e
  have z0 : lo + ((0 : Nat) : Int) * 1 = lo := by omega
  have z1 : (((hi - lo).toNat : Nat) : Int) - ((0 : Nat) : Int) = Builtin.Range.rangeSize lo hi 1 := by
    rw [rsz]
    omega
  by_cases sm : Builtin.Range.small lo hi 1 = true
  · refine wpAny_pyIter_range (IsRange.new ..) sm ⟨(s.heap.push { cls := .type "range", data := .fields #[.int lo t, .int hi u, .int 1 v] }).objs.size, [(s.heap.push { cls := .type "range", data := .fields #[.int lo t, .int hi u, .int 1 v] }).objs.size], _, _, H, rfl,
      J.kept (t' := tk) fun b o e => Heap.get?_push_of_some _ e, turn_range _ lo (hi - lo).toNat, ?_, fun b hb => ?_, q⟩
    · show IsRangeIter _ _ (lo + ((0 : Nat) : Int) * 1) ((((hi - lo).toNat : Nat) : Int) - ((0 : Nat) : Int)) 1
      rw [z0, z1]
      exact Heap.get?_push_size _ rfl
    · rw [List.mem_singleton.mp hb]
      exact J.fpOk (Nat.le_refl _) (J.hok.fresh (Nat.le_refl _))
  · refine wpAny_pyIter_longrange (IsRange.new ..) (Bool.not_eq_true _ ▸ sm) ⟨(s.heap.push { cls := .type "range", data := .fields #[.int lo t, .int hi u, .int 1 v] }).objs.size, [(s.heap.push { cls := .type "range", data := .fields #[.int lo t, .int hi u, .int 1 v] }).objs.size], _, _, H, rfl,
      J.kept (t' := tk) fun b o e => Heap.get?_push_of_some _ e, turn_wide _ lo (hi - lo).toNat, ?_, fun b hb => ?_, q⟩
    · show IsLongIter _ _ (lo + ((0 : Nat) : Int) * 1) ((((hi - lo).toNat : Nat) : Int) - ((0 : Nat) : Int)) 1
      rw [z0, z1]
      exact Heap.get?_push_size _ rfl
    · rw [List.mem_singleton.mp hb]
      exact J.fpOk (Nat.le_refl _) (J.hok.fresh (Nat.le_refl _))
def iRngW (t : TA) : TI := fun σ H R => t σ H fun vs H1 => ∃ i j : Int, vs = [.int i, .int j] ∧ R (Itr i (j - i).toNat) H1
theorem pi_range2W (hg : Gl X "range") (hm : X.mg "range" = none) (ha : PA X [a, b] t) (h1 : starEach [a, b] X.env = [(false, eval a X.env), (false, eval b X.env)] := by rfl) (h2 : starEach [b] X.env = [(false, eval b X.env)] := by rfl) :
    PI X tg (.Call (.Name "range" p) [a, b] [] pos) (iRngW t) := by
  refine ⟨fun pins s σ H R I h => Call_ (ld_blt I hg hm boot_range (PyProof.Rows.callWith_type1 (thn (ha.run pos pins s σ H _ I h) fun us s1 hx => ?_) (by rw [h1, h2]) (by rw [h2]; rfl)))⟩
  obtain ⟨vs, H1, J, r, i, j, rfl, q⟩ := hx
  obtain ⟨u, v, rfl, ⟨c, rfl⟩, ⟨d, rfl⟩⟩ : ∃ u v, us = [u, v] ∧ RelV (.int i) u ∧ RelV (.int j) v := by
    cases r with
    | cons r1 r => cases r with
      | cons r2 r => cases r; exact ⟨_, _, rfl, r1, r2⟩
  exact call_range_2 (wide_it J q)
end
/-! ## parts of a list -/
theorem cut_from (xs : List V) (k : Nat) : cutV xs (some (k : Int)) none = xs.drop k := by
  unfold cutV
  rw [HT.sIx_nat, HT.sIx_none]
  rcases Nat.le_total k xs.length with h | h
  · rw [Nat.min_eq_left h]
    exact List.take_of_length_le (by rw [List.length_drop]; omega)
  · rw [Nat.min_eq_right h, List.drop_eq_nil_of_le (Nat.le_refl _), List.drop_eq_nil_of_le h]
    simp
theorem cut_to (xs : List V) (k : Nat) : cutV xs none (some (k : Int)) = xs.take k := by
  unfold cutV
  rw [HT.sIx_nat, HT.sIx_none, List.drop_zero, Nat.sub_zero]
  rcases Nat.le_total k xs.length with h | h
  · rw [Nat.min_eq_left h]
  · rw [Nat.min_eq_right h, List.take_of_length_le (Nat.le_refl _), List.take_of_length_le h]
theorem cut_mid (xs : List V) (j k : Nat) : cutV xs (some (j : Int)) (some (k : Int)) = (xs.drop j).take (k - j) := by
  unfold cutV
  rw [HT.sIx_nat, HT.sIx_nat]
  rcases Nat.le_total j xs.length with h | h
  · rw [Nat.min_eq_left h]
    rcases Nat.le_total k xs.length with h2 | h2
    · rw [Nat.min_eq_left h2]
    · rw [Nat.min_eq_right h2, List.take_of_length_le (by rw [List.length_drop]; omega), List.take_of_length_le (by rw [List.length_drop]; omega)]
  · rw [Nat.min_eq_right h, List.drop_eq_nil_of_le (Nat.le_refl _), List.drop_eq_nil_of_le h]
    simp
theorem iv_drop (ns : List Int) (k : Nat) : (iv ns).drop k = iv (ns.drop k) := by simp
theorem iv_take (ns : List Int) (k : Nat) : (iv ns).take k = iv (ns.take k) := by simp
/-! ## a op b op c op d -/
def tChain3 (r r' r'' : R2) (ta tb tc td : TE) : TE := fun σ H Q => ta σ H fun x H1 => tb σ H1 fun y H2 => r x y H2 fun z H3 => ∃ k, z = .bl k ∧
  (if k = true then tc σ H3 fun v H4 => r' y v H4 fun z' H5 => ∃ k', z' = .bl k' ∧ (if k' = true then td σ H5 fun u H6 => r'' v u H6 Q else Q (.bl false) H5) else Q (.bl false) H3)
section
variable {X : Cx} {a b c d : Expr} {ta tb tc td : TE} {pos : Pos} {op op' op'' : CmpOp} {r r' r'' : R2}
theorem pt_chain3 (h1 : OpR X (compareOp op) r) (h2 : OpR X (compareOp op') r') (h3 : OpR X (compareOp op'') r'') (ha : PE X a ta) (hb : PE X b tb) (hc : PE X c tc) (hd : PE X d td)
    (hm : lastMarks [op, op', op''] [b, c, d] = false := by with_unfolding_all rfl) : PT X (.Compare a [op, op', op''] [b, c, d] pos) (tTest (tChain3 r r' r'' ta tb tc td)) := by
  refine ⟨fun pins s σ H Q I h => isTrue_chain (thn (ha.run pins s σ H _ I h) fun v s1 ⟨x, H1, I1, r1, q1⟩ => test_link (thn (hb.run pins s1 σ H1 _ I1 q1) fun u s2 ⟨y, H2, I2, r2, q2⟩ =>
    thn (h1 pins s2 σ H2 x y v u _ I2 r1 r2 q2) fun e s3 ⟨z, H3, I3, r3, k, ez, q3⟩ => ?_)) hm⟩
  subst ez
  cases r3
  refine wpAny_truthy_bool ?_
  cases k with
  | false =>
    obtain ⟨k2, e2, q2⟩ := q3
    cases e2
    exact ite_ff ⟨H3, I3, q2⟩
  | true =>
    refine ite_tt (test_link (thn (hc.run pins s3 σ H3 _ I3 q3) fun w4 s4 ⟨y4, H4, I4, r4, q4⟩ => thn (h2 pins s4 σ H4 y y4 u w4 _ I4 r2 r4 q4) fun e5 s5 ⟨z5, H5, I5, r5, k5, e5', q5⟩ => ?_))
    subst e5'
    cases r5
    refine wpAny_truthy_bool ?_
    cases k5 with
    | false =>
      obtain ⟨k2, e2, q2⟩ := q5
      cases e2
      exact ite_ff ⟨H5, I5, q2⟩
    | true =>
      refine ite_tt (test_last (thn (hd.run pins s5 σ H5 _ I5 q5) fun w6 s6 ⟨y6, H6, I6, r6, q6⟩ => thn (h3 pins s6 σ H6 y4 y6 w4 w6 _ I6 r4 r6 q6) fun e7 s7 ⟨z7, H7, I7, r7, k7, e7', q7⟩ => ?_))
      subst e7'
      cases r7
      exact wpAny_truthy_bool ⟨H7, I7, q7⟩
end
end Sq


set_option Elab.async false
set_option maxRecDepth 100000
set_option maxHeartbeats 4000000
namespace Sq
open PySem PySem.Spec PyProof.Rows L2
/-! ## an own exception's __init__(self, value): super().__init__(text); self.value = value -/
section
open PySem.W PySem.Calls
variable {prog : Program} {w : World} {A : Around} {E : Value → Shared → Prop} {h : Heap} {g : Array GenState} {d : Drawn} {t : Nat} {os : OsState}
variable {nm q : Str} {C N : Addr} {bs bm : List Value} {hdct : Bool} {sn : List Str} {sub : List Value} {ab : Bool} {col : Option Bool} {dd : Option Addr} {k0 k1 k2 k3 k5 : Option Value}
/-- ValueError.__init__, bound to e, called -/
theorem call_vw {u e t0 : Addr} {rest : List Value} {Q : Value → Shared → Prop}
    (hC : h.get? C = some (excClassObj nm q C N bs bm hdct sn sub ab col dd k0 k1 k2 k3 k5 "ValueError.__new__")) (he : h.get? e = some (HandSPX.excO C t0)) (hu : h.get? u = some (kxs_mw "ValueError.__init__" e)) (hrest : rest.length ≤ sizeLine)
    (hq : ∀ h' t1, (∀ b o, b ≠ e → h.get? b = some o → h'.get? b = some o) → h'.get? e = some (HandSPX.excO C t1) → Q .none ⟨h', g, d, t, os⟩) :
    wpAny (model prog w) A (call (.ref u) rest) Q E ⟨h, g, d, t, os⟩ := by
  refine wpAny_call (codeAny_of_tree ?_)
  show wpAny _ A.in1 (callAny (.ref u) ⟨rest, []⟩) _ _ _
  simp only [callAny]
  refine wpAny_bind (wpAny_load hu ?_)
  simp only [kxs_mw, show (Value.type "method-wrapper" == Value.type "method" || Value.type "method-wrapper" == Value.type "builtin_function_or_method" || Value.type "method-wrapper" == Value.type "method-wrapper") = true by decide, if_true]
  refine W.KFB.if_so (by decide) ?_
  refine wpAny_bind (check_bound_init F.excBase_ValueError.toExcCallFacts hC he rfl ?_)
  refine wpAny_bind (wpAny_pure (wpAny_pure ⟨Code.quiet_builtin _ (by decide +kernel), codeAny_builtin F.excBase_ValueError.initEntry ?_⟩))
  exact exc_init_tree (cls := .ref C) (t0 := t0) (dv := none) (c2 := .none) (c3 := .none) (b4 := .bool false) he hrest fun h' k e' _ => hq h' h.objs.size k e'
end

def spXI (C : Addr) : Sp := fun vs H Q _ => ∃ (a : Addr) (v : V), vs = [.ref a, v] ∧ H a = some (exo a C none) ∧ ∀ dx, H dx = none → dx ≠ a → Q .non (upd (upd H dx (exd dx [("value", v)])) a (exo a C (some dx)))
/-- what the written part says of such an __init__ -/
structure XIn (P : Program) (K : PySem.W.Frag) (C f cc cda : Addr) (qual file : Str) : Prop where
  code : PySem.W.codeIn K (.ref cda) qual = true
  cell : ∃ cl cld csl, K.lookup cc = some ⟨cl, cld, .cell (some (.ref C)), csl⟩
  rec_ : ∃ ccl cdd vs ccs tf, K.lookup cda = some ⟨ccl, cdd, .fields vs, ccs⟩ ∧ vs[2]? = some (.str file tf)
  file : ((P.main.file : Str) == file) = true
  top : (P.main.scope.names.lookup ("super" : Str)).isSome = false
  opq : PySem.W.nsIn K PySem.cStatics "thirdparty.any" = some none
  sup : PySem.W.ks_superIn K C C "__init__" = some (some (.builtin "ValueError.__init__"))
  veb : PySem.W.subIn K (.ref C) (.type "ValueError") = some true
  self : PySem.W.mroIn K C (.ref C) = some true
  val : PySem.W.findIn K (.ref C) "value" = some none
abbrev xiScope : Scope := ⟨.function, [("self", .local), ("value", .local), ("__class__", .free), ("super", .globalImplicit)], false, false, []⟩
abbrev xiArgs (q0 q1 : Pos) : Arguments := { posonlyargs := [], args := [{ arg := "self", annotation := none, pos := q0 }, { arg := "value", annotation := none, pos := q1 }], vararg := none, kwonlyargs := [], kw_defaults := [], kwarg := none, defaults := [] }
abbrev xiBody (m : Str) (p0 p1 p2 p3 p4 p5 p6 p7 p8 p9 : Pos) : List Stmt := [.Expr (.Call (.Attribute (.Call (.Name "super" p0) [] [] p1) "__init__" p2) [.Constant (.str m) 0 p3] [] p4) p5, .Assign [.Attribute (.Name "self" p6) "value" p7] (.Name "value" p8) p9]
theorem xi_S : NdefX.NScope ["self", "value", "__class__"] ["self", "value"] ["__class__"] xiScope := NdefX.nscope_by (by decide +kernel)
/-- how the call of super().__init__ begins (by rfl, once the places are known) -/
def XiCall (qual : Str) (f cc cda : Addr) (m : Str) (p0 p1 p2 p3 p4 : Pos) : Prop := ∀ L : Addr, eval (.Call (.Attribute (.Call (.Name "super" p0) [] [] p1) "__init__" p2) [.Constant (.str m) 0 p3] [] p4) (PySem.W.ksEnv qual xiScope L f (.ref cda) cc) = (do
  let ov ← attributeBase (.Call (.Name "super" p0) [] [] p1) "__init__" (PySem.W.ksEnv qual xiScope L f (.ref cda) cc) (eval (.Call (.Name "super" p0) [] [] p1) (PySem.W.ksEnv qual xiScope L f (.ref cda) cc))
  standAt p2.atName
  let (g, first) ← holding [ov] (getMethod ov "__init__" (do return (← importBound (.Call (.Name "super" p0) [] [] p1) (PySem.W.ksEnv qual xiScope L f (.ref cda) cc)).getD true))
  callWith p4 g first (backTo p4 (starEach [.Constant (.str m) 0 p3] (PySem.W.ksEnv qual xiScope L f (.ref cda) cc))) [])
theorem ok_xi {P : Program} {w : World} {K : PySem.W.Frag} {mg : Str → Option Value} {base : Heap} {CX : CXT} {k : Nat} {C f cc cda : Addr} {qual file : Str} {kV doc pm ct oc : Value} {an od : Option Addr} {osl : Array (Option Value)}
    {p0 p1 p2 p3 p4 p5 p6 p7 p8 p9 q0 q1 : Pos} {m : Str} (T : OexC K C) (XI : XIn P K C f cc cda qual file)
    (lk : K.lookup f = some ⟨oc, od, .func (PySem.W.ksFn "__init__" qual (xiArgs q0 q1) (xiBody m p0 p1 p2 p3 p4 p5 p6 p7 p8 p9) xiScope .none kV doc pm an (.ref cda) ct cc), osl⟩) (hms : mg "super" = none) (he : XiCall qual f cc cda m p0 p1 p2 p3 p4) :
    FnOk P w K mg base CX (k + 1) f (PySem.W.ksFn "__init__" qual (xiArgs q0 q1) (xiBody m p0 p1 p2 p3 p4 p5 p6 p7 p8 p9) xiScope .none kV doc pm an (.ref cda) ct cc) ["self", "value"] (spXI C) := by
  refine ⟨fun vs H Q E h => by obtain ⟨a, v, rfl, _⟩ := h; rfl, fun A outer s H args us vs Q E hr e0 hbind r hsp => ?_⟩
  obtain ⟨a, v, rfl, ha, hq⟩ := hsp
  have KX : K.In s.heap := e0.mod.kin.keeps fun b o e => (e0.bs b o e).1
  have lim : s.heap.NoLimit := e0.mod.nolimit.keeps fun b o e => (e0.bs b o e).1
  obtain ⟨cl, cld, csl, hcell⟩ := XI.cell
  obtain ⟨ccl, cdd, cvs, ccs, tf, hcode, hvs⟩ := XI.rec_
  refine PySem.ks_codeAny_call_defAt (binds := (["self", "value"] : List Str).zip us) hr.depth (KX _ _ lk) rfl lim (PySem.W.codeRec_of KX XI.code) rfl hbind xi_S.nocell (fun ⟨n, _⟩ hy => xi_S.par n (List.of_mem_zip hy).1) (fun h1 hns kp => ?_) xi_S.co xi_S.gen xi_S.kind
  have S := xi_S
  let F : NdefX.NF := ⟨"__init__", qual, xiArgs q0 q1, xiBody m p0 p1 p2 p3 p4 p5 p6 p7 p8 p9, xiScope, [("__class__", cc)], cda⟩
  have cells : NdefX.CellsAt F.cl ["__class__"] [none] s.heap H := by
    have one : ∀ y c, F.cl.lookup y = some c → y = ("__class__" : Str) ∧ c = cc := fun y c e => by
      have e' : ([("__class__", cc)] : List (Str × Addr)).lookup y = some c := e
      by_cases z : y = ("__class__" : Str)
      · subst z
        simp [List.lookup] at e'
        exact ⟨rfl, e'.symm⟩
      · have z2 : (y == ("__class__" : Str)) = false := by simpa using z
        simp [List.lookup, z2] at e'
    refine ⟨rfl, fun y c e => ?_, fun x y c e1 e2 => ?_, fun i y e => ?_⟩
    · rw [(one y c e).2]
      exact ⟨(e0.bs _ _ (e0.mod.kin _ _ hcell)).2, _, ⟨_, KX _ _ hcell, rfl⟩⟩
    · rw [(one x c e1).1, (one y c e2).1]
    · cases i with
      | zero =>
        obtain rfl : ("__class__" : Str) = y := by simpa using e
        exact ⟨cc, by simp [F, List.lookup], fun v h => by simp at h⟩
      | succ i => simp at e
  have I : Inv (NdefX.ncx CX P w K mg base ["self", "value", "__class__"] F f A outer s H E) [] (NdefX.startF ["self", "value", "__class__"] [.ref a, v] [none]) H { s with heap := h1, toks := s.toks + ((["self", "value"] : List Str).zip us).length } :=
    NdefX.inv_startN (F := F) S hr.hd e0 rfl r cells hns kp
  have K1 : K.In h1 := KX.keeps kp
  show PySem.wpAt (model P w) (A.deeper (PySem.W.ksEnv qual xiScope s.heap.objs.size f (.ref cda) cc)) (.func (xiBody m p0 p1 p2 p3 p4 p5 p6 p7 p8 p9) (PySem.W.ksEnv qual xiScope s.heap.objs.size f (.ref cda) cc)) (execs (xiBody m p0 p1 p2 p3 p4 p5 p6 p7 p8 p9) (PySem.W.ksEnv qual xiScope s.heap.objs.size f (.ref cda) cc)) _ _ _
  refine ks_wpAt_execs_cons (ks_wpAt_Expr_any (ks_wpAt_MethodCall ?_ (he _)))
  refine ks_wpAt_super_base (env := NdefX.envF F f s.heap.objs.size) rfl rfl (by decide) rfl (K1 _ _ lk) rfl rfl rfl (K1 _ _ hcode) rfl hvs XI.file XI.top ?_
  obtain ⟨nm, q, N, bs, bm, sn, sub, ab, col, dd, k0, k1, k2, k3, k5, hC, hbm⟩ := T.cls
  have hcl : PySem.W.clsIn K C = some { name := nm, bases := bs, mro := .ref C :: bm, ns := N, qualname := q, hasDict := true, slotNames := sn, subclasses := sub, abstract := ab, collection := col, hasDel := false } := by unfold PySem.W.clsIn; rw [hC] <;> rfl
  obtain ⟨mb, hb1, hb2⟩ := I.mod.blt
  obtain ⟨t1, hoe⟩ := exo_at I.hok ha
  have hself : (((["self", "value"] : List Str).zip us).reverse.lookup ("self" : Str)) = some (Value.ref a) := by
    cases r with
    | cons r1 r => cases r with
      | cons r2 r =>
        cases r
        obtain rfl := r1
        rfl
  refine PySem.W.ks_loadName_global rfl rfl (Calls.loadGlobal_builtin (I.mod.glob.keeps I.bk) hms (hb1.keeps I.bk) ((hb2 _ (by decide)).trans PyProof.Rows.Boot.«super») ⟨rfl, ?_⟩)
  refine wpAny_loadName_free rfl rfl rfl ⟨_, K1 _ _ hcell, rfl⟩ ?_
  refine wpAny_loadName_local rfl rfl hns hself ?_
  refine ks_wpAny_isType_cls (K1 _ _ hC) rfl ⟨rfl, ?_⟩
  refine ks_wpAny_call_super (K1 _ _ hC) rfl hoe rfl (fun c e => by cases e) (PySem.W.looks_mroIn K1 XI.self) (fun h2 e2 kp2 => ?_)
  have I2 := I.kept (t' := s.toks + ((["self", "value"] : List Str).zip us).length) kp2
  have K2 : K.In h2 := K1.keeps kp2
  obtain ⟨t2, hoe2⟩ := exo_at I2.hok ha
  have at2 : PySem.W.InstAt h2 a { cls := .ref C, dict := none, data := .fields #[.ref t2, .none, .none, .none, .bool false, .none] } C none := ⟨hoe2, rfl, rfl, trivial⟩
  have hsup : PySem.W.alongIn K "__init__" (((.ref C :: bm).dropWhile (· != Value.ref C)).drop 1) = some (some (.builtin "ValueError.__init__")) := by
    have z := XI.sup
    unfold PySem.W.ks_superIn at z
    rw [hcl] at z
    exact z
  refine PySem.W.kxs_getMethod PySem.W.kxs_ValueError e2 (PySem.W.looks_opaque K2 XI.opq) (l₀ := .ref C :: bm) ((PySem.W.looks_clsIn K2 hcl).andThen .now) rfl K2 hsup (at2.type.andThen (PySem.W.looks_subIn K2 XI.veb)) (PySem.W.ks_ne K2 at2 hcl) (by decide) ?_
  have I3 := I2.kept (h' := h2.push (PySem.W.kxs_mw "ValueError.__init__" a)) (t' := s.toks + ((["self", "value"] : List Str).zip us).length + 1) fun b o e => Heap.get?_push_of_some _ e
  refine PySem.W.kxs_callWith (i := "ValueError.__init__") (x := a) rfl (Calls.evalArgs_plain (Calls.spliced_cons (Calls.Constant_str (pos := p3) (k := 0) (Calls.spliced_nil ⟨Heap.get?_push_at rfl rfl, ?_⟩))))
  have I4 := I3.tok (s.toks + ((["self", "value"] : List Str).zip us).length + 1 + 1)
  obtain ⟨t4, hoe4⟩ := exo_at I4.hok ha
  refine call_vw (t0 := t4) (Heap.get?_push_of_some _ (K2 _ _ hC)) hoe4 (Heap.get?_push_at rfl rfl) (by simp [sizeLine_eq]) fun h5 t5 k5 e5 => ?_
  have J0 := I4.write (h' := h5) (t' := s.toks + ((["self", "value"] : List Str).zip us).length + 1 + 1) (x := a) (e := a) (o := exo a C none) (by rw [ha]; exact True.intro) (.inl rfl) k5 ⟨_, e5⟩ (exo_ok e5)
  have eu : upd H a (exo a C none) = H := by
    funext b
    by_cases hb : b = a
    · rw [hb, upd_same, ha]
    · rw [upd_ne hb]
  rw [eu] at J0
  show PySem.wpAt _ _ _ (execs [.Assign [.Attribute (.Name "self" p6) "value" p7] (.Name "value" p8) p9] _) _ _ _
  refine wpAt_of_wpAny ?_
  have pst : PSs (NdefX.ncx CX P w K mg base ["self", "value", "__class__"] F f A outer s H E) [.Assign [.Attribute (.Name "self" p6) "value" p7] (.Name "value" p8) p9] (tOst K "value" (tVar 0) (tVar 1)) := pss_one (ps_ost (pv 0) (pv 1) rfl)
  refine wpAny_mono (pst.run [] _ _ H { nx := fun _ H' => Q .non H', rt := Q } J0 ⟨v, rfl, .ref a, rfl, a, C, rfl, T, XI.val, .inl ⟨ha, fun dx n ne => hq dx n ne⟩⟩) (fun fl s' hs => ?_) fun e s' hs => hs
  cases fl with
  | ret u =>
    obtain ⟨v, σ', H', J, rv, q⟩ := hs
    exact ⟨v, H', J.os, J.bare, J.base, J.hok, rv, q⟩
  | next =>
    obtain ⟨σ', H', J, q⟩ := hs
    exact ⟨.non, H', J.os, J.bare, J.base, J.hok, rfl, q⟩
  | brk =>
    obtain ⟨_, _, _, q⟩ := hs
    exact False.elim q
  | cont =>
    obtain ⟨_, _, _, q⟩ := hs
    exact False.elim q
end Sq


set_option Elab.async false
set_option maxRecDepth 100000
set_option maxHeartbeats 4000000
namespace Sq
open PySem PySem.Spec PyProof.Rows L2
/-! ## an exception that has been caught and is kept -/
/-- at a: an exception of the class cls with the dict d, at rest -/
def Xo (a : Addr) (cls : Value) (d : Option Addr) : HO := .ext fun h => ∃ (oe : Obj) (vs : Array Value), h.get? a = some oe ∧ Zc cls d oe ∧ oe.data = .fields vs
theorem xo_ok {P : Program} {w : World} {H : Hp} {h : Heap} {a : Addr} {cls : Value} {d : Option Addr} {oe : Obj} {vs : Array Value} (e : h.get? a = some oe) (z : Zc cls d oe) (f : oe.data = .fields vs) : ObjOk P w H h a (Xo a cls d) :=
  ⟨⟨oe, vs, e, z, f⟩, ⟨_, e⟩, fun _ _ ⟨o2, v2, e2, z2, f2⟩ k => ⟨o2, v2, k _ e2, z2, f2⟩⟩
theorem xo_at {P : Program} {w : World} {H : Hp} {h : Heap} {a : Addr} {cls : Value} {d : Option Addr} (hok : HOk P w H h) (e : H a = some (Xo a cls d)) : ∃ (oe : Obj) (vs : Array Value), h.get? a = some oe ∧ Zc cls d oe ∧ oe.data = .fields vs := by
  have x : ObjOk P w H h a (.ext fun h => ∃ (oe : Obj) (vs : Array Value), h.get? a = some oe ∧ Zc cls d oe ∧ oe.data = .fields vs) := hok a _ e
  exact x.1
section
variable {X : Cx} {pins : List (Addr × Obj)} {σ : L2.St} {H : Hp} {s : Shared} {a : Addr} {cls : Value} {d : Option Addr} {oe : Obj} {vs : Array Value}
/-- an object that is younger than the entry and that nothing holds is kept from now on -/
theorem track (J : Inv X pins σ H s) (e : s.heap.get? a = some oe) (na : H a = none) (nL : a ≠ X.env.locals) (np : ∀ p ∈ X.pn ++ pins, p.1 ≠ a) (young : X.s_0.heap.get? a = none) (z : Zc cls d oe) (f : oe.data = .fields vs) : Inv X pins σ (upd H a (Xo a cls d)) s := by
  have old : ∀ {b : Addr} {o : Obj}, X.s_0.heap.get? b = some o → b ≠ a := fun {b o} q c => by
    rw [c, young] at q
    cases q
  have set : ∀ {b : Addr} {o : HO}, H b = some o → b ≠ a := fun {b o} q c => by
    rw [c, na] at q
    cases q
  refine ⟨J.ok, J.os, J.bare, ⟨J.base.keep, J.base.slot, fun b o q n x => ?_, J.base.there, fun b xs q => ?_, fun b o v q => ?_, fun b ps q => ?_⟩, J.loc, J.cell, ?_, fun y c q => ?_, fun p hp => ?_, fun b o q => ?_, J.len⟩
  · rw [upd_ne (old q)]
    exact J.base.free b o q n x
  · have z := J.base.tups b xs q
    rw [upd_ne (set z)]
    exact z
  · have z := J.base.frzs b o v q
    rw [upd_ne (set z)]
    exact z
  · obtain ⟨more, z⟩ := J.base.tbls b ps q
    exact ⟨more, by rw [upd_ne (set z)]; exact z⟩
  · rw [upd_ne (Ne.symm nL)]
    exact J.free
  · have nc : c ≠ a := fun h => by
      obtain ⟨w, o, e2, d2⟩ := J.cell y c q
      rw [h, e] at e2
      cases e2
      rw [f] at d2
      cases d2
    rw [upd_ne nc]
    exact J.freeC y c q
  · obtain ⟨e1, n1, r1⟩ := J.pin p hp
    exact ⟨e1, by rw [upd_ne (np p hp)]; exact n1, r1⟩
  · by_cases hb : b = a
    · subst hb
      rw [upd_same] at q
      cases q
      exact xo_ok e z f
    · rw [upd_ne hb] at q
      have own : ∀ c, H c = some (.own b) → c ≠ a := fun c hc h => by
        rw [h, na] at hc
        cases hc
      exact (J.hok b o q).stay (fun c v _ k => k) (fun c hc => by rw [upd_ne (own c hc)]; exact hc) fun c xs hc => by rw [upd_ne fun h => by rw [h, na] at hc; cases hc]; exact hc
end

/-- what is wished behind the suite of 'except x as n' -/
def keepD (D : Ends) (i : Nat) : Ends where
  nx := fun τ G => D.nx (τ.set i none) G
  rt := D.rt
  bk := fun τ G => D.bk (τ.set i none) G
  ct := fun τ G => D.ct (τ.set i none) G
def wKeep (K : PySem.W.Frag) (c : Value) (i : Nat) (ts : Addr → Value → Option Addr → TS) (Wout : WX) (D : Ends) : WX := fun cls d σ H => ∃ b, PySem.W.exmOne K cls c = some b ∧
  (b = true → ∀ a, H a = none → ts a cls d (keepD D i) (σ.set i (some (.ref a))) (upd H a (Xo a cls d))) ∧ (b = false → Wout cls d σ H)
/-- into the suite and out of it -/
theorem suite_in {X : Cx} {pins : List (Addr × Obj)} {σ : L2.St} {H : Hp} {s : Shared} {a : Addr} (I : Inv X pins σ H s) : Inv (X.suite a (X.pn ++ pins)) [] σ H s :=
  ⟨I.ok.suite _ _, I.os, I.bare, I.base, I.loc, I.cell, I.free, I.freeC, fun p hp => I.pin p (by rw [List.append_nil] at hp; exact hp), I.hok, I.len⟩
theorem suite_out {X : Cx} {pins : List (Addr × Obj)} {σ : L2.St} {H : Hp} {s : Shared} {a : Addr} (I : Inv (X.suite a (X.pn ++ pins)) [] σ H s) (ok : X.Ok) : Inv X pins σ H s :=
  ⟨ok, I.os, I.bare, I.base, I.loc, I.cell, I.free, I.freeC, fun p hp => I.pin p (by rw [List.append_nil]; exact hp), I.hok, I.len⟩
section
variable {X : Cx} {x n : Str} {c : Value} {i : Nat} {body rest : List Stmt} {st : Stmt} {np pos pos2 : Pos} {tb : WX → TS} {ts : Addr → Value → Option Addr → TS} {Wout : WX}
/-- as ps_try_as; the exception stays behind the suite -/
theorem ps_try_keep (hs : X.stack = X.env :: X.outer) (hf : X.env.frame = some X.env.locals) (hN : X.N.Nodup) (hi : X.N[i]? = some n) (hln : X.env.kindOf n = some .local) (hex : X.ex = []) (hc : Names X x c) (tk : Takes X Wout)
    (hb : ∀ (W : WX) (pn : List (Addr × Obj)) (xe : Value → Shared → Prop), Takes (X.tr pn xe) W → PassesOwn (model X.prog X.w) X.A X.env xe → PSs (X.tr pn xe) body (tb W))
    (hsu : ∀ (a : Addr) (cls : Value) (d : Option Addr) (pn : List (Addr × Obj)), PSs (X.suite a pn) (st :: rest) (ts a cls d)) :
    PS X (.Try body [.ExceptHandler (some (.Name x np)) (some n) (st :: rest) pos2] [] [] pos) (fun D σ H => tb (wKeep X.K c i ts Wout D) D σ H) := by
  refine ⟨fun pins s σ H D I h => wpAny_Try_except ?_⟩
  have ok := I.ok
  have hfr : X.A.frames = some (X.env :: X.outer) := by rw [ok.frames, hs]
  have hlc : Loc X.env.scope n := .inl hln
  have seen : ∀ {C : Heap} {h : Heap} {q : Addr} {o : Obj} {vs : Array Value}, h.FunFrames C (X.env :: X.outer) → h.get? q = some o → o.data = .fields vs → q ∉ frs (X.env :: X.outer) := fun {C h q o vs} ff e dd hm => by
    obtain ⟨_, o2, e2, nn⟩ := ff.mem hm
    rw [e] at e2
    cases e2
    exact nn _ dd
  refine wpAny_mono ((hb (wKeep X.K c i ts Wout D) (X.pn ++ pins) _ (fun u s2 air => ?_) PassesOwn.looking).run [] s σ H D (I.toTry _) h) (fun fl s2 q => ?_) fun _ _ z => z
  · obtain ⟨a, G, sI, pins2, τ, H2, cls, d, rfl, J2, nb, up, sky, na, os, ag, b, hb1, yes, no⟩ := air
    have J : Inv X pins τ H2 sI := J2.ofTry ok
    rw [hs] at sky
    refine Sky.land Zc.steady hfr hf sky fun h3 l3 up3 => ?_
    have J3 : Inv X pins τ H2 { s2 with heap := h3 } := J.landed nb l3.1 (up.trans up3) os ag
    obtain ⟨o3, v3, e3, z3, d3⟩ := l3.there
    have out := seen l3.2.2.1 e3 d3
    have nL : a ≠ X.env.locals := fun z => out (List.mem_filterMap.mpr ⟨X.env, List.mem_cons_self, by rw [hf, z]⟩)
    have nF : a ∉ X.fs := fun hm => by
      obtain ⟨e, he, q⟩ := List.mem_filterMap.mp hm
      exact out (List.mem_filterMap.mpr ⟨e, List.mem_cons_of_mem _ he, q⟩)
    have young : sI.heap.get? a = none := by
      cases q : sI.heap.get? a with
      | none => rfl
      | some o =>
        have z := nb a o q (by rw [hs]; exact out)
        rw [l3.2.1] at z
        cases z
    have young0 : X.s_0.heap.get? a = none := by
      cases q : X.s_0.heap.get? a with
      | none => rfl
      | some o =>
        obtain ⟨o2, z⟩ := J.base.there a o q (by rw [hex]; simp)
        rw [young] at z
        cases z
    have off : ∀ p ∈ X.pn ++ pins, p.1 ≠ a := fun p hp z => by
      have y := (J.pin p hp).1
      rw [z, young] at y
      cases y
    have S3 := J3.suite e3 d3 na nL nF
    have LT : PySem.W.Looks (model X.prog X.w) h3 (typeOf (.ref a)) cls := fun _ _ _ s k q => wpAny_typeOf_ref (k _ _ e3) (by rw [z3.1]; exact q)
    have LM := PySem.W.exm_one (M := model X.prog X.w) J3.kIn LT hb1
    have ask : ∀ {Q2 : Value → Shared → Prop} {E2 : Value → Shared → Prop}, Q2 c { s2 with heap := h3 } → wpAny (model X.prog X.w) (X.A.mark (some (.ref a))) (eval (.Name x np) X.env) Q2 E2 { s2 with heap := h3 } := fun {Q2 E2} q => by
      obtain ⟨hg, hdb, hm | ⟨hm, hv, hnn⟩⟩ := hc
      · exact ld_glob (X := X.suite a ((a, o3) :: (X.pn ++ pins))) S3 hg hm q hdb
      · exact ld_blt (X := X.suite a ((a, o3) :: (X.pn ++ pins))) S3 hg hm hv q hnn hdb
    refine wpAny_handleBy_cons (codeAny_handlers_test (ask (LM.here ?_))) (by intro q; cases q)
    cases b with
    | true =>
      refine codeAny_handlers_suite_as (HandSPX.lands_againZ l3 fun h4 l4 up4 => ?_)
      have J4 : Inv X pins τ H2 { s2 with heap := h4 } := J.landed nb l4.1 ((up.trans up3).trans up4) os ag
      obtain ⟨o4, v4, e4, z4, d4⟩ := l4.there
      have S4 : Inv (X.suite a (X.pn ++ pins)) [] τ (upd H2 a (Xo a cls d)) { s2 with heap := h4 } := suite_in (track J4 e4 na nL off young0 z4 d4)
      refine store_ok (X := X.suite a (X.pn ++ pins)) (v := .ref a) S4 hN hi hlc rfl (fun s5 S5 => ?_) (.inr hln)
      refine wpAny_mono ((hsu a cls d (X.pn ++ pins)).run [] s5 _ _ _ S5 (yes rfl a na)) (fun fl s6 hsp => ?_) fun _ _ z => z.elim
      have fin : ∀ {σ6 : L2.St} {H6 : Hp} {Q2 : Shared → Prop}, Inv (X.suite a (X.pn ++ pins)) [] σ6 H6 s6 → (∀ s7, Inv X pins (σ6.set i none) H6 s7 → Q2 s7) →
          wpAny (model X.prog X.w) X.A (do bindName X.env n .none; unbindBehindTheSuite X.env n pos2) (fun _ s7 => Q2 s7) X.xe s6 := fun {σ6 H6 Q2} S6 hq =>
        gone_ok (X := X.suite a (X.pn ++ pins)) S6 hN hi hln fun s7 S7 => hq s7 (suite_out S7 ok)
      cases fl with
      | next =>
        obtain ⟨σ6, H6, S6, q6⟩ := hsp
        exact fin S6 fun s7 J7 => ⟨_, _, J7, q6⟩
      | brk =>
        obtain ⟨σ6, H6, S6, q6⟩ := hsp
        exact fin S6 fun s7 J7 => ⟨_, _, J7, q6⟩
      | cont =>
        obtain ⟨σ6, H6, S6, q6⟩ := hsp
        exact fin S6 fun s7 J7 => ⟨_, _, J7, q6⟩
      | ret u =>
        obtain ⟨v6, σ6, H6, S6, r6, q6⟩ := hsp
        exact fin S6 fun s7 J7 => ⟨_, _, _, J7, r6, q6⟩
    | false =>
      refine wpAny_handleBy_nil ?_
      obtain ⟨_, _, _, oe, vs, T, _, _, he, _, hd, h1, _⟩ := id l3
      unfold PySem.passOn
      refine wpAny_bind (wpAny_field he hd h1 ?_)
      rw [if_neg (show ¬ ((Value.ref T == Value.none) = true) from by simp)]
      have go : wpAny (model X.prog X.w) X.A (setFlight (.ref a) X.env.frame) (fun _ s4 => wpAny (model X.prog X.w) X.A (throw (.ref a) : Sem Flow) (SP X pins D) X.xe s4) X.xe { s2 with heap := h3 } := by
        rw [hf]
        exact HandSPX.setFlight_upZ l3 fun h4 g4 up4 => wpAny_throw (tk _ _ ⟨a, G, sI, pins, τ, H2, cls, d, rfl, J, nb, (up.trans up3).trans up4, .inr (.inr (by rw [hs]; exact g4)), na, os, ag, no rfl⟩)
      first
        | exact wpAny_bind (wpAny_pure (wpAny_bind go))
        | exact wpAny_bind go
  · cases fl with
    | next =>
      obtain ⟨τ, H2, J, q⟩ := q
      exact wpAny_execs_nil ⟨τ, H2, J.ofTry ok, q⟩
    | brk =>
      obtain ⟨τ, H2, J, q⟩ := q
      exact ⟨τ, H2, J.ofTry ok, q⟩
    | cont =>
      obtain ⟨τ, H2, J, q⟩ := q
      exact ⟨τ, H2, J.ofTry ok, q⟩
    | ret u =>
      obtain ⟨v, τ, H2, J, r, q⟩ := q
      exact ⟨v, τ, H2, J.ofTry ok, r, q⟩
end

/-! ## a kept exception looked at -/
/-- at a: a kept exception of the own class C with the attributes fs -/
def Kept (H : Hp) (a C : Addr) (fs : List (Str × V)) : Prop := ∃ d, H a = some (Xo a (.ref C) (some d)) ∧ H d = some (.xd fs)
theorem kept_at {X : Cx} {pins : List (Addr × Obj)} {σ : L2.St} {H : Hp} {s : Shared} {a C : Addr} {fs : List (Str × V)} (I : Inv X pins σ H s) (k : Kept H a C fs) :
    ∃ (oe od : Obj) (d : Addr) (mA : Str → Option Value), PySem.W.InstAt s.heap a oe C (some od) ∧ s.heap.get? d = some od ∧ s.heap.Ns1 d mA ∧ ∀ f, RelO (fs.lookup f) (mA f) := by
  obtain ⟨d, h1, h2⟩ := k
  obtain ⟨oe, vs, e, z, f⟩ := xo_at I.hok h1
  have hx : ObjOk X.prog X.w H s.heap d (.xd fs) := I.hok d _ h2
  obtain ⟨mA, hns, hr⟩ := hx
  obtain ⟨od, ho, _⟩ := lookIn_ns hns
  exact ⟨oe, od, d, mA, ⟨e, z.1, by unfold PySem.W.notCls; rw [f] <;> rfl, by rw [z.2]; exact ho⟩, ho, hns, hr⟩
def rIsX (K : PySem.W.Frag) : List V → Hp → VK → Prop := fun xs H Q => ∃ (a C : Addr) (fs : List (Str × V)) (c : V) (cv : Value) (b : Bool), xs = [.ref a, c] ∧ Kept H a C fs ∧ ExcC K C ∧ ClsV c cv ∧ PySem.W.kitOne K (.ref C) cv = some b ∧ Q (.bl b) H
theorem call_isX {X : Cx} {K : PySem.W.Frag} (h : X.K = K := by rfl) : CallR X (.builtin "isinstance") (rIsX K) := by
  subst h
  intro pins s σ H xs us Q I r h
  obtain ⟨a, C, fs, c, cv, b, rfl, k, EC, hc, e, q⟩ := h
  obtain ⟨oe, od, d, mA, J, _⟩ := kept_at I k
  cases r with
  | @cons _ u0 _ ur rx rr =>
    cases rr with
    | @cons _ u1 _ _ rt rr =>
      cases rr
      cases rx
      have ec : u1 = cv := by
        cases hc <;> exact rt
      subst ec
      obtain ⟨cd, hcd, _⟩ := PySem.W.any_some EC.hd
      exact PySem.W.kia_one (PySem.W.kitx_exc (by rw [hcd]; rfl) EC.hg EC.hk EC.hs EC.ha EC.hn EC.ht EC.hm) I.kIn J e (fun z => nomatch z) fun tk => ⟨.bl b, H, I.kept (t' := tk) fun _ _ z => z, rfl, q⟩
def tXv (K : PySem.W.Frag) (te : TE) (f : Str) : TE := fun σ H Q => te σ H fun x H1 => ∃ (a C : Addr) (fs : List (Str × V)) (v : V), x = .ref a ∧ Kept H1 a C fs ∧ XfC K C ∧ PySem.W.findIn K (.ref C) f = some none ∧ fs.lookup f = some v ∧ Q v H1
theorem pe_xv {X : Cx} {K : PySem.W.Frag} {e : Expr} {te : TE} {f : Str} {pos : Pos} (he : PE X e te) (hb : attributeBase e f X.env (eval e X.env) = eval e X.env := by rfl) (h : X.K = K := by rfl) : PE X (.Attribute e f pos) (tXv K te f) := by
  subst h
  refine ⟨fun pins s σ H Q I h => attr_of hb (thn (he.run pins s σ H _ I h) fun u s1 hh => ?_)⟩
  obtain ⟨x, H1, I1, rx, a, C, fs, v, rfl, k, T, hno, l, q⟩ := hh
  obtain rfl : u = Value.ref a := rx
  obtain ⟨oe, od, d, mA, J, ho, hns, hr⟩ := kept_at I1 k
  obtain ⟨od2, ho2, hl⟩ := lookIn_ns hns
  rw [ho] at ho2
  cases ho2
  obtain ⟨u, hu, ru⟩ := RelO.some_of (v := v) (o := mA f) (by rw [← l]; exact hr f)
  exact HandSPX.exc_get I1.kIn J T.ga T.gg T.exC (PySem.W.findObj_own T.hdC hno rfl (by rw [hl, hu])) (handed_of ru) ⟨v, H1, I1.tok _, ru, q⟩
end Sq


set_option Elab.async false
set_option maxRecDepth 100000
set_option maxHeartbeats 4000000
namespace Sq
open PySem PySem.Spec PyProof.Rows L2
/-! ## raise C(e), C an own class with the __init__ of MExc -/
structure Rai (P : Program) (w : World) (K : PySem.W.Frag) (mg : Str → Option Value) (base : Heap) (k : Nat) (x : Str) (C : Addr) : Prop where
  ex : ∃ (f : Addr) (fd : FuncData), OexC K C ∧ PySem.W.findIn K (.ref C) "__init__" = some (some (.ref f)) ∧ PySem.W.typeIn K (.ref f) = some (.type "function") ∧ FnOk P w K mg base CX0 k f fd ["self", "value"] (spXI C) ∧ mg x = some (.ref C) ∧ L2.Binds K fd ["self", "value"] []
def tRx (W : WX) (C : Addr) (te : TE) : TS := fun _ σ H => te σ H fun v H1 => ∀ d, H1 d = none → W (.ref C) (some d) σ (upd H1 d (.xd [("value", v)]))
theorem heap_rx {H : Hp} {a d : Addr} {u z o : HO} (na : H a = none) (n : d ≠ a) : upd (del (upd (upd (upd H a u) d z) a o) a) d (.xd [("value", v)]) = upd H d (.xd [("value", v)]) := by
  funext b
  by_cases h1 : b = d
  · rw [h1, upd_same, upd_same]
  · rw [upd_ne h1, upd_ne h1]
    by_cases h2 : b = a
    · rw [h2, del_same, na]
    · rw [del_ne h2, upd_ne h2, upd_ne h1, upd_ne h2]
/-- a reading that may be weakened -/
def tWk (te : TE) : TE := fun σ H Q => ∃ R : VK, te σ H R ∧ ∀ v G, R v G → Q v G
theorem pe_wk {X : Cx} {e : Expr} {te : TE} (h : PE X e te) : PE X e (tWk te) := ⟨fun pins s σ H Q I ⟨R, q, k⟩ => wpAny_mono (h.run pins s σ H R I q) (fun u s1 ⟨x, G, J, r, z⟩ => ⟨x, G, J, r, k _ _ z⟩) fun _ _ z => z⟩
section
variable {X : Cx} {W : WX} {k j : Nat} {C : Addr} {x : Str} {p pos pos2 : Pos} {e : Expr} {te : TE}
theorem ps_rx (c : Rai X.prog X.w X.K X.mg X.base k x C) (hr : Room j X.A) (hk : k + 1 ≤ j) (hg : Gl X x) (tk : Takes X W) (ha : PE X e te) (hc : X.calm = true := by rfl)
    (hdb : (x == ("__debug__" : Str)) = false := by decide) (he : starEach [e] X.env = (false, eval e X.env) :: starEach [] X.env := by rfl) (hpl : (backTo pos (starEach [] X.env)).any (·.1) = false := by rfl) : PS X (.Raise (some (.Call (.Name x p) [e] [] pos)) none pos2) (tRx W C te) := by
  obtain ⟨f, fd, T, iC, tI, F, hm, b⟩ := c.ex
  have mk := pmk_oex (pos := pos) (p := p) T iC tI F (hr.mono hk) b .nil pass0 hg hm (pa_cons (pe_wk ha) pa_nil he) hdb he hpl
  have r := ps_raise (pos := pos2) hc tk mk
  refine ⟨fun pins s σ H D I h => r.run pins s σ H D I ⟨_, h, fun v G q => ⟨Nat.le_of_ble_eq_true rfl, fun a na => ⟨a, v, rfl, upd_same, fun dx nd ne => ?_⟩⟩⟩⟩
  have nd' : G dx = none := by
    rw [upd_ne ne] at nd
    exact nd
  refine ⟨rfl, dx, _, upd_same, by rw [upd_ne ne, upd_same], nd', ?_⟩
  rw [heap_rx na ne]
  exact q dx nd'
end

/-! ## defs that may raise -/
structure CalX (P : Program) (w : World) (K : PySem.W.Frag) (mg : Str → Option Value) (base : Heap) (k : Nat) (x : Str) (sp : Sp) : Prop where
  ex : ∃ (f : Addr) (fd : FuncData) (ps : List Str), FnOk P w K mg base (L2.CX P w) k f fd ps sp ∧ mg x = some (.ref f) ∧ PySem.W.keepIn K (.ref f) = true ∧ L2.Binds K fd ps []
section
variable {P : Program} {w : World} {K : PySem.W.Frag} {mg : Str → Option Value} {base : Heap}
theorem DefAt.calX {x : Str} {st : Stmt} {ps N : List Str} {k : Nat} {sp : Sp} (D : DefAt K mg x st ps) (S : FnScope N ps (defScope st)) (len : ∀ vs H Q E, sp vs H Q E → vs.length = ps.length)
    (hb : ∀ (f : Addr) (cdv : Value) (A : Around) (outer : List Env) (s : Shared) (H : Hp) (vs : List V) (Q : VK) (E : XK), Room k (A.deeper (envOfC x (defScope st) s.heap.objs.size f cdv)) → sp vs H Q E →
      (Takes (cxOf (L2.CX P w) P w K mg base N x (defScope st) f cdv A outer s H E) fun cls d _ G => E cls d G) →
      ∃ t, PSs (cxOf (L2.CX P w) P w K mg base N x (defScope st) f cdv A outer s H E) (defBody st) t ∧ t { nx := fun _ H' => Q .non H', rt := Q } (start N vs) H) : CalX P w K mg base (k + 1) x sp := by
  obtain ⟨f, fd, F, hm, b⟩ := D.ex
  exact ⟨f, fd, ps, F.okX S len fun cdv A outer s H vs Q E hr hsp => hb f cdv A outer s H vs Q E hr hsp (takes_of rfl rfl rfl rfl), hm, F.kp, b⟩
/-- where it raises nothing it is a plain def -/
theorem fn_calm {k : Nat} {f : Addr} {fd : FuncData} {ps : List Str} {sp sp' : Sp} (F : FnOk P w K mg base (L2.CX P w) k f fd ps sp) (h : ∀ vs H Q E, sp' vs H Q E → sp vs H Q E0) : FnOk P w K mg base CX0 k f fd ps sp' := by
  refine ⟨fun vs H Q E q => F.len _ _ _ _ (h _ _ _ _ q), fun A outer s H args us vs Q E hr e0 b r q => codeAny_mono (F.run A outer s H args us vs Q E0 hr e0 b r (h _ _ _ _ q)) fun res s' z => ?_⟩
  cases res with
  | ok fl => cases fl <;> exact z
  | error e =>
    obtain ⟨_, _, _, _, _, _, _, _, _, _, _, _, no⟩ := z
    exact no.elim
theorem CalX.calm {x : Str} {k : Nat} {sp sp' : Sp} (c : CalX P w K mg base k x sp) (h : ∀ vs H Q E, sp' vs H Q E → sp vs H Q E0) : Cal P w K mg base k x sp' [] := by
  obtain ⟨f, fd, ps, F, hm, kp, b⟩ := c.ex
  exact ⟨f, fd, ps, [], fn_calm F h, hm, kp, b, .nil⟩
theorem CalX.imp {x : Str} {k j : Nat} {sp sp' : Sp} (c : CalX P w K mg base k x sp) (hk : k ≤ j) (h : ∀ vs H Q E, sp' vs H Q E → sp vs H Q E) : CalX P w K mg base j x sp' := by
  obtain ⟨f, fd, ps, F, hm, kp, b⟩ := c.ex
  exact ⟨f, fd, ps, (F.mono hk).imp h, hm, kp, b⟩
end
section
variable {X : Cx} {W : WX} {k j : Nat} {x : Str} {sp : Sp} {p pos : Pos} {e : Expr} {es : List Expr} {t : TA}
/-- a call that may raise, where W is wished of what is raised -/
theorem pe_cx (c : CalX X.prog X.w X.K X.mg X.base k x sp) (hr : Room j X.A) (hk : k ≤ j) (tk : Takes X W) (hg : Gl X x) (ha : PA X (e :: es) t)
    (hdb : (x == ("__debug__" : Str)) = false := by decide) (he : starEach (e :: es) X.env = (false, eval e X.env) :: starEach es X.env := by rfl) (hpl : (backTo pos (starEach es X.env)).any (·.1) = false := by rfl) :
    PE X (.Call (.Name x p) (e :: es) [] pos) (tCallS sp (WE W) t) := by
  obtain ⟨f, fd, ps, F, hm, kp, b⟩ := c.ex
  exact pe_callS F (hr.mono hk) hg hm kp b (passAt tk) ha hdb he hpl
/-- a call of such a def that raises nothing -/
theorem pe_cx0 (c : CalX X.prog X.w X.K X.mg X.base k x sp) (hr : Room j X.A) (hk : k ≤ j) (hg : Gl X x) (ha : PA X (e :: es) t)
    (hdb : (x == ("__debug__" : Str)) = false := by decide) (he : starEach (e :: es) X.env = (false, eval e X.env) :: starEach es X.env := by rfl) (hpl : (backTo pos (starEach es X.env)).any (·.1) = false := by rfl) :
    PE X (.Call (.Name x p) (e :: es) [] pos) (tCall sp [] E0 t) := by
  obtain ⟨f, fd, ps, F, hm, kp, b⟩ := c.ex
  exact L2.pe_call F (hr.mono hk) hg hm kp b .nil passL ha hdb he hpl
end

/-! ## methods and new objects that may raise -/
structure MetX (P : Program) (w : World) (K : PySem.W.Frag) (mg : Str → Option Value) (base : Heap) (k : Nat) (C : Addr) (m : Str) (sp : Sp) : Prop where
  ex : ∃ (f : Addr) (fd : FuncData) (ps : List Str), Cls K C ∧ Meth K C m f ∧ FnOk P w K mg base (L2.CX P w) k f fd ps sp ∧ L2.Binds K fd ps []
structure MakX (P : Program) (w : World) (K : PySem.W.Frag) (mg : Str → Option Value) (base : Heap) (k : Nat) (x : Str) (C : Addr) (sp : Sp) : Prop where
  ex : ∃ (f : Addr) (fd : FuncData) (ps : List Str), Mk K C f ∧ FnOk P w K mg base (L2.CX P w) k f fd ps sp ∧ mg x = some (.ref C) ∧ L2.Binds K fd ps []
section
variable {P : Program} {w : World} {K : PySem.W.Frag} {mg : Str → Option Value} {base : Heap} {C : Addr} {m x qual : Str} {st : Stmt} {ps N : List Str} {k : Nat} {sp : Sp}
theorem MetAt.metX (D : MetAt K C m qual st ps) (cl : Cls K C) (S : FnScope N ps (defScope st)) (len : ∀ vs H Q E, sp vs H Q E → vs.length = ps.length)
    (hb : ∀ (f : Addr) (cdv : Value) (A : Around) (outer : List Env) (s : Shared) (H : Hp) (vs : List V) (Q : VK) (E : XK), Room k (A.deeper (envOfC qual (defScope st) s.heap.objs.size f cdv)) → sp vs H Q E →
      (Takes (cxOf (L2.CX P w) P w K mg base N qual (defScope st) f cdv A outer s H E) fun cls d _ G => E cls d G) →
      ∃ t, PSs (cxOf (L2.CX P w) P w K mg base N qual (defScope st) f cdv A outer s H E) (defBody st) t ∧ t { nx := fun _ H' => Q .non H', rt := Q } (start N vs) H) : MetX P w K mg base (k + 1) C m sp := by
  obtain ⟨f, fd, F, hm, b⟩ := D.ex
  exact ⟨f, fd, ps, cl, hm, F.okX S len fun cdv A outer s H vs Q E hr hsp => hb f cdv A outer s H vs Q E hr hsp (takes_of rfl rfl rfl rfl), b⟩
theorem IniAt.makX (D : IniAt K mg C x qual st ps) (S : FnScope N ps (defScope st)) (len : ∀ vs H Q E, sp vs H Q E → vs.length = ps.length)
    (hb : ∀ (f : Addr) (cdv : Value) (A : Around) (outer : List Env) (s : Shared) (H : Hp) (vs : List V) (Q : VK) (E : XK), Room k (A.deeper (envOfC qual (defScope st) s.heap.objs.size f cdv)) → sp vs H Q E →
      (Takes (cxOf (L2.CX P w) P w K mg base N qual (defScope st) f cdv A outer s H E) fun cls d _ G => E cls d G) →
      ∃ t, PSs (cxOf (L2.CX P w) P w K mg base N qual (defScope st) f cdv A outer s H E) (defBody st) t ∧ t { nx := fun _ H' => Q .non H', rt := Q } (start N vs) H) : MakX P w K mg base (k + 1) x C sp := by
  obtain ⟨f, fd, F, hm, hg, b⟩ := D.ex
  exact ⟨f, fd, ps, hm, F.okX S len fun cdv A outer s H vs Q E hr hsp => hb f cdv A outer s H vs Q E hr hsp (takes_of rfl rfl rfl rfl), hg, b⟩
end
theorem MetX.calm {P : Program} {w : World} {K : PySem.W.Frag} {mg : Str → Option Value} {base : Heap} {C : Addr} {m : Str} {k : Nat} {sp sp' : Sp} (c : MetX P w K mg base k C m sp) (h : ∀ vs H Q E, sp' vs H Q E → sp vs H Q E0) : Met P w K mg base k C m sp' := by
  obtain ⟨f, fd, ps, c1, c2, F, b⟩ := c.ex
  exact ⟨f, fd, ps, c1, c2, fn_calm F h, b⟩
theorem MakX.calm {P : Program} {w : World} {K : PySem.W.Frag} {mg : Str → Option Value} {base : Heap} {C : Addr} {x : Str} {k : Nat} {sp sp' : Sp} (c : MakX P w K mg base k x C sp) (h : ∀ vs H Q E, sp' vs H Q E → sp vs H Q E0) : Mak P w K mg base k x C sp' := by
  obtain ⟨f, fd, ps, M, F, hm, b⟩ := c.ex
  exact ⟨f, fd, ps, M, fn_calm F h, hm, b⟩
def tMethS (C : Addr) (m : Str) (sp : Sp) (E : L2.St → XK) (ta : TE) (t : TA) : TE := fun σ H Q => ta σ H fun x H1 => ∃ a dx fs, x = .ref a ∧ H1 a = some (.ins C dx fs) ∧ fs.lookup m = none ∧ t σ H1 fun vs H2 => sp (x :: vs) H2 Q (E σ)
def tMakeS (C : Addr) (sp : Sp) (E : L2.St → XK) (t : TA) : TE := fun σ H Q => t σ H fun vs H1 => ∀ x dx, H1 x = none → H1 dx = none → dx ≠ x →
  sp (.ref x :: vs) (upd (upd H1 dx (.own x)) x (.ins C dx [])) (fun v H2 => v = .non ∧ Q (.ref x) H2) (E σ)
section
variable {X : Cx} {W : WX} {k j : Nat} {C : Addr} {x m : Str} {sp : Sp} {p pos apos : Pos} {e o : Expr} {es : List Expr} {ta : TE} {t : TA}
theorem pe_mx {pl : Sem Bool} (c : MetX X.prog X.w X.K X.mg X.base k C m sp) (hr : Room j X.A) (hk : k ≤ j) (tk : Takes X W) (he : PE X o ta) (ha : PA X (e :: es) t)
    (ht : eval (.Call (.Attribute o m apos) (e :: es) [] pos) X.env = (do
      let ov ← eval o X.env
      standAt apos.atName
      let (f, first) ← holding [ov] (getMethod ov m pl)
      callWith pos f first (backTo pos (starEach (e :: es) X.env)) (backToKw pos (keywordEach [] X.env))) := by rfl)
    (hst : starEach (e :: es) X.env = (false, eval e X.env) :: starEach es X.env := by rfl) (hpl : (backTo pos (starEach es X.env)).any (·.1) = false := by rfl) : PE X (.Call (.Attribute o m apos) (e :: es) [] pos) (tMethS C m sp (WE W) ta t) := by
  obtain ⟨f, fd, ps, cl, hm, F, b⟩ := c.ex
  refine ⟨fun pins s σ H Q I h => PySem.W.methodCall_KW (pl := pl) (thn (he.run pins s σ H _ I h) fun u s1 hh => ?_) ht⟩
  obtain ⟨x, H1, I1, rx, a, dx, fs, rfl, ea, l, q⟩ := hh
  obtain rfl : u = Value.ref a := rx
  refine getmeth_ok I1 ea cl hm l (PySem.W.callWith_K (first := [.ref a]) (h₀ := X.base) I.ok.mod.kin hm.kp (thn (ha.run pos pins s1 σ H1 _ I1 q) fun us s2 hh => ?_) hst hpl)
  obtain ⟨vs, H2, I2, r, q2⟩ := hh
  exact ⟨I2.kIn, run_fnS (us := .ref a :: us) (vs := .ref a :: vs) F (hr.mono hk) b (passAt tk σ) I2 (.cons rfl r) q2⟩
theorem pe_mkx (c : MakX X.prog X.w X.K X.mg X.base k x C sp) (hr : Room j X.A) (hk : k + 1 ≤ j) (tk : Takes X W) (hg : Gl X x) (ha : PA X (e :: es) t)
    (hdb : (x == ("__debug__" : Str)) = false := by decide) (he : starEach (e :: es) X.env = (false, eval e X.env) :: starEach es X.env := by rfl) (hpl : (backTo pos (starEach es X.env)).any (·.1) = false := by rfl) :
    PE X (.Call (.Name x p) (e :: es) [] pos) (tMakeS C sp (WE W) t) := by
  obtain ⟨f, fd, ps, M, F, hm, b⟩ := c.ex
  refine ⟨fun pins s σ H Q I h => wpAny_Call_Name_kw (ld_glob I hg hm ?_ hdb)⟩
  refine PySem.W.callWith_K (h₀ := X.base) I.ok.mod.kin M.kp (thn (ha.run pos pins s σ H _ I h) fun us s1 hh => ?_) he hpl
  obtain ⟨vs, H1, I1, r, q⟩ := hh
  refine ⟨I1.kIn, ?_⟩
  have hq := q (s1.heap.objs.size + 1) s1.heap.objs.size (I1.hok.fresh (Nat.le_succ _)) (I1.hok.fresh (Nat.le_refl _)) (Nat.ne_of_lt (Nat.lt_succ_self _))
  have I2 := Inv.made (C := C) I1
  have r2 : Vals (V.ref (s1.heap.objs.size + 1) :: vs) (Value.ref (s1.heap.objs.size + 1) :: us) := .cons rfl r
  have ln : (Value.ref (s1.heap.objs.size + 1) :: us).length = ps.length := by
    rw [← r2.length]
    exact F.len _ _ _ _ hq
  have bb := b _ (Value.ref (s1.heap.objs.size + 1) :: us) I2.kIn (by rw [List.append_nil]; exact ln)
  rw [List.append_nil] at bb
  show wpAny _ _ (call (.ref C) us) _ _ _
  refine wpAny_call (make_map (f := f) I1.kIn M.makes M.init (beq_iff_eq.mp M.fn) (codeAny_mono (F.run _ X.stack _ _ ⟨Value.ref (s1.heap.objs.size + 1) :: us, []⟩ _ _ _ (WE W σ) ((hr.mono hk).make C us []) (I2.env0.make C us []) bb r2 hq) fun r s' hq2 => ?_))
  cases r with
  | error er => exact passAt tk σ pins _ _ er s' I2 hq2
  | ok fl =>
    cases fl with
    | ret u =>
      obtain ⟨v, H', I3, rv, ev, q3⟩ := I2.after hq2
      subst ev
      exact ⟨rv, ⟨V.ref (s1.heap.objs.size + 1), H', I3, rfl, q3⟩⟩
    | next => exact False.elim hq2
    | brk => exact False.elim hq2
    | cont => exact False.elim hq2
theorem pe_mx0 {pl : Sem Bool} (c : MetX X.prog X.w X.K X.mg X.base k C m sp) (hr : Room j X.A) (hk : k ≤ j) (he : PE X o ta) (ha : PA X (e :: es) t)
    (ht : eval (.Call (.Attribute o m apos) (e :: es) [] pos) X.env = (do
      let ov ← eval o X.env
      standAt apos.atName
      let (f, first) ← holding [ov] (getMethod ov m pl)
      callWith pos f first (backTo pos (starEach (e :: es) X.env)) (backToKw pos (keywordEach [] X.env))) := by rfl)
    (hst : starEach (e :: es) X.env = (false, eval e X.env) :: starEach es X.env := by rfl) (hpl : (backTo pos (starEach es X.env)).any (·.1) = false := by rfl) : PE X (.Call (.Attribute o m apos) (e :: es) [] pos) (tMeth C m sp [] E0 ta t) := by
  obtain ⟨f, fd, ps, c1, c2, F, b⟩ := c.ex
  exact L2.pe_meth (pl := pl) he c1 c2 F (hr.mono hk) b .nil passL ha hst hpl ht
theorem pe_mkx0 (c : MakX X.prog X.w X.K X.mg X.base k x C sp) (hr : Room j X.A) (hk : k + 1 ≤ j) (hg : Gl X x) (ha : PA X (e :: es) t)
    (hdb : (x == ("__debug__" : Str)) = false := by decide) (he : starEach (e :: es) X.env = (false, eval e X.env) :: starEach es X.env := by rfl) (hpl : (backTo pos (starEach es X.env)).any (·.1) = false := by rfl) :
    PE X (.Call (.Name x p) (e :: es) [] pos) (tMake C sp [] E0 t) := by
  obtain ⟨f, fd, ps, M, F, hm, b⟩ := c.ex
  exact L2.pe_make M F (hr.mono hk) hg hm b .nil passL ha hdb he hpl
end

/-! ## an exception class of the text, out of what the top has written -/
theorem rai_mk {P : Program} {w : World} {K : PySem.W.Frag} {h base : Heap} {mg : Str → Option Value} {x : Str} {C f cc cda N : Addr} {nm q qual m file : Str} {bs bm sub : List Value} {sn : List Str} {ab : Bool} {col : Option Bool} {dd cld cdd od an : Option Addr} {k0 k1 k2 k3 k5 : Option Value}
    {cl ccl oc kV doc pm ct : Value} {csl ccs osl : Array (Option Value)} {cvs : Array Value} {tf : Tok} {p0 p1 p2 p3 p4 p5 p6 p7 p8 p9 q0 q1 : Pos} (X : K.In h) (G : h.Ns mainGlobals mg) (hm : mg x = some (.ref C))
    (lC : K.lookup C = some (excClassObj nm q C N bs bm true sn sub ab col dd k0 k1 k2 k3 k5 "ValueError.__new__")) (rC : PySem.HandSPX.refsVE bm = true) (sa : PySem.W.findIn K (.ref C) "__setattr__" = some (some (.builtin "object.__setattr__")))
    (ex : PySem.W.subIn K (.ref C) (.type "BaseException") = some true) (ty : PySem.W.typeIn K (.ref C) = some (.type "type")) (kc : PySem.W.keepIn K (.ref C) = true)
    (ini : PySem.W.findIn K (.ref C) "__init__" = some (some (.ref f))) (tyf : PySem.W.typeIn K (.ref f) = some (.type "function"))
    (l : K.lookup f = some ⟨oc, od, .func (PySem.W.ksFn "__init__" qual (xiArgs q0 q1) (xiBody m p0 p1 p2 p3 p4 p5 p6 p7 p8 p9) xiScope .none kV doc pm an (.ref cda) ct cc), osl⟩)
    (co : PySem.W.codeIn K (.ref cda) qual = true) (cell : K.lookup cc = some ⟨cl, cld, .cell (some (.ref C)), csl⟩) (rec_ : K.lookup cda = some ⟨ccl, cdd, .fields cvs, ccs⟩) (v2 : cvs[2]? = some (.str file tf)) (fl : ((P.main.file : Str) == file) = true)
    (top : (P.main.scope.names.lookup ("super" : Str)).isSome = false) (opq : PySem.W.nsIn K PySem.cStatics "thirdparty.any" = some none) (sup : PySem.W.ks_superIn K C C "__init__" = some (some (.builtin "ValueError.__init__"))) (veb : PySem.W.subIn K (.ref C) (.type "ValueError") = some true)
    (slf : PySem.W.mroIn K C (.ref C) = some true) (val : PySem.W.findIn K (.ref C) "value" = some none) (ms : PySem.W.nsIn K mainGlobals "super" = some none) (he : XiCall qual f cc cda m p0 p1 p2 p3 p4)
    (hb : ∀ us : List Value, us.length = 2 → bindArgs (PySem.W.ksFn "__init__" qual (xiArgs q0 q1) (xiBody m p0 p1 p2 p3 p4 p5 p6 p7 p8 p9) xiScope .none kV doc pm an (.ref cda) ct cc) ⟨us, []⟩ = pure ((["self", "value"] : List Str).zip us)) : Rai P w K mg base 1 x C :=
  ⟨f, _, ⟨⟨nm, q, N, bs, bm, sn, sub, ab, col, dd, k0, k1, k2, k3, k5, lC, rC⟩, sa, ex, ty, kc⟩, ini, tyf,
    ok_xi ⟨⟨nm, q, N, bs, bm, sn, sub, ab, col, dd, k0, k1, k2, k3, k5, lC, rC⟩, sa, ex, ty, kc⟩ ⟨co, ⟨cl, cld, csl, cell⟩, ⟨ccl, cdd, cvs, ccs, tf, rec_, v2⟩, fl, top, opq, sup, veb, slf, val⟩ l (PySem.W.mg_none_of X G ms) he, hm, L2.Binds.all hb⟩
end Sq


set_option Elab.async false
set_option maxRecDepth 100000
set_option maxHeartbeats 4000000
namespace Sq
open PySem PySem.Spec PyProof.Rows L2
/-! ## methods called by keywords alone -/
structure MetKX (P : Program) (w : World) (K : PySem.W.Frag) (mg : Str → Option Value) (base : Heap) (k : Nat) (C : Addr) (m : Str) (ks : List Str) (sp : Sp) : Prop where
  ex : ∃ (f : Addr) (fd : FuncData) (ps : List Str) (spf : Sp) (g : List Value → List Value → List Value) (gV : List V → List V → List V),
    Cls K C ∧ Meth K C m f ∧ FnOk P w K mg base (L2.CX P w) k f fd ps spf ∧ KBn K fd ps 1 ks g gV ∧ ∀ x zs H Q E, sp (x :: zs) H Q E → zs.length = ks.length ∧ spf (gV [x] zs) H Q E
def tMetK (C : Addr) (m : Str) (sp : Sp) (E : L2.St → XK) (ta : TE) (tk : TA) : TE := fun σ H Q => ta σ H fun x H1 => ∃ a dx fs, x = .ref a ∧ H1 a = some (.ins C dx fs) ∧ fs.lookup m = none ∧ tk σ H1 fun zs H2 => sp (x :: zs) H2 Q (E σ)
section
variable {X : Cx} {W : WX} {k j : Nat} {C : Addr} {m : Str} {ks : List Str} {sp : Sp} {pos apos : Pos} {o : Expr} {kws : List Keyword} {ta : TE} {t : TA}
theorem pe_mkwx {pl : Sem Bool} (c : MetKX X.prog X.w X.K X.mg X.base k C m ks sp) (hr : Room j X.A) (hk : k ≤ j) (tk : Takes X W) (he : PE X o ta) (ha : PK X kws t)
    (ht : eval (.Call (.Attribute o m apos) [] kws pos) X.env = (do
      let ov ← eval o X.env
      standAt apos.atName
      let (f, first) ← holding [ov] (getMethod ov m pl)
      callWith pos f first (backTo pos (starEach [] X.env)) (backToKw pos (keywordEach kws X.env))) := by rfl)
    (hall : (backToKw pos (keywordEach kws X.env)).all (·.1.isSome) = true := by rfl) (hks : (backToKw pos (keywordEach kws X.env)).filterMap (·.1) = ks := by rfl)
    (hpl : ((backTo pos (starEach [] X.env)).any (·.1) || (backToKw pos (keywordEach kws X.env)).any (·.1.isNone)) = false := by rfl) : PE X (.Call (.Attribute o m apos) [] kws pos) (tMetK C m sp (WE W) ta t) := by
  obtain ⟨f, fd, ps, spf, g, gV, cl, hm, F, hb, hs⟩ := c.ex
  refine ⟨fun pins s σ H Q I h => PySem.W.methodCall_KW (pl := pl) (thn (he.run pins s σ H _ I h) fun u s1 hh => ?_) ht⟩
  obtain ⟨x, H1, I1, rx, a, dx, fs, rfl, ea, l, q⟩ := hh
  obtain rfl : u = Value.ref a := rx
  refine getmeth_ok I1 ea cl hm l (PySem.W.callWith_KW0 (first := [.ref a]) (h₀ := X.base) I.ok.mod.kin hm.kp hall (thn (ha.run pos pins s1 σ H1 _ I1 q) fun ws s2 hh => ?_) hpl)
  obtain ⟨zs, H2, I2, rz, q2⟩ := hh
  obtain ⟨lz, q3⟩ := hs _ _ _ _ _ q2
  refine ⟨I2.kIn, ?_⟩
  rw [hks]
  have r1 : Vals [V.ref a] [Value.ref a] := .cons rfl .nil
  refine wpAny_call (codeAny_mono (F.run X.A X.stack s2 H2 ⟨[.ref a], ks.zip ws⟩ (g [.ref a] ws) (gV [.ref a] zs) Q (WE W σ) (hr.mono hk) I2.env0 (hb.to s2 [.ref a] ws I2.kIn rfl (rz.length.symm.trans lz)) (hb.rel r1 rz) q3) fun r s3 hq => ?_)
  cases r with
  | error er => exact passAt tk σ pins H2 s2 er s3 I2 hq
  | ok fl =>
    cases fl with
    | ret u => exact I2.after hq
    | next => exact False.elim hq
    | brk => exact False.elim hq
    | cont => exact False.elim hq
end
/-! ## new objects made by keywords alone -/
structure MakK (P : Program) (w : World) (K : PySem.W.Frag) (mg : Str → Option Value) (base : Heap) (k : Nat) (x : Str) (C : Addr) (ks : List Str) (sp : Sp) : Prop where
  ex : ∃ (f : Addr) (fd : FuncData) (ps : List Str) (spf : Sp) (g : List Value → List Value → List Value) (gV : List V → List V → List V),
    Mk K C f ∧ FnOk P w K mg base CX0 k f fd ps spf ∧ mg x = some (.ref C) ∧ KBn K fd ps 1 ks g gV ∧ ∀ x zs H Q E, sp (x :: zs) H Q E → zs.length = ks.length ∧ spf (gV [x] zs) H Q E
def tMakK (C : Addr) (sp : Sp) (tk : TA) : TE := fun σ H Q => tk σ H fun zs H1 => ∀ x dx, H1 x = none → H1 dx = none → dx ≠ x → sp (.ref x :: zs) (upd (upd H1 dx (.own x)) x (.ins C dx [])) (fun v H3 => v = .non ∧ Q (.ref x) H3) E0
section
variable {X : Cx} {k j : Nat} {C : Addr} {x : Str} {ks : List Str} {sp : Sp} {p pos : Pos} {kws : List Keyword} {t : TA}
theorem pe_mkk (c : MakK X.prog X.w X.K X.mg X.base k x C ks sp) (hr : Room j X.A) (hk : k + 1 ≤ j) (hg : Gl X x) (ha : PK X kws t)
    (hall : (backToKw pos (keywordEach kws X.env)).all (·.1.isSome) = true := by rfl) (hks : (backToKw pos (keywordEach kws X.env)).filterMap (·.1) = ks := by rfl) (hdb : (x == ("__debug__" : Str)) = false := by decide)
    (hpl : ((backTo pos (starEach [] X.env)).any (·.1) || (backToKw pos (keywordEach kws X.env)).any (·.1.isNone)) = false := by rfl) : PE X (.Call (.Name x p) [] kws pos) (tMakK C sp t) := by
  obtain ⟨f, fd, ps, spf, g, gV, M, F, hm, hb, hs⟩ := c.ex
  refine ⟨fun pins s σ H Q I h => wpAny_Call_Name_kw (ld_glob I hg hm (PySem.W.callWith_KW0 (h₀ := X.base) I.ok.mod.kin M.kp hall (thn (ha.run pos pins s σ H _ I h) fun ws s2 hh => ?_) hpl) hdb)⟩
  obtain ⟨zs, H2, I2, rz, q2⟩ := hh
  refine ⟨I2.kIn, ?_⟩
  rw [hks]
  have lz : zs.length = ks.length := (hs _ _ _ _ _ (q2 (s2.heap.objs.size + 1) s2.heap.objs.size (I2.hok.fresh (Nat.le_succ _)) (I2.hok.fresh (Nat.le_refl _)) (Nat.ne_of_lt (Nat.lt_succ_self _)))).1
  exact run_makeK (us := []) (vs := []) M F (hr.mono hk) hb pass0 I2 .nil rz rfl lz fun x dx n1 n2 n3 => (hs _ _ _ _ _ (q2 x dx n1 n2 n3)).2
end
/-! ## list.count of plain values -/
def rCntF (K : PySem.W.Frag) : V → List V → Hp → VK → Prop := fun x xs H Q => ∃ (a : Addr) (ys : List V) (y : V), x = .ref a ∧ xs = [y] ∧ SqL K H a ys ∧ flatV y = true ∧ ys.all flatV = true ∧ Q (.int ((ys.countP fun z => eqV z y : Nat) : Int)) H
theorem count_flat {y : V} : ∀ {ys : List V} {us : List Value}, Vals ys us → ys.all flatV = true → us.countP (eqU y) = ys.countP fun z => eqV z y
  | _, _, .nil, _ => rfl
  | _, _, .cons (a := z) (b := u) r t, f => by
    rw [List.all_cons, Bool.and_eq_true] at f
    rw [List.countP_cons, List.countP_cons, count_flat t f.2, eqU_of r f.1]
theorem mt_countF {X : Cx} : MtR X "list.count" (rCntF X.K) := by
  intro pins s σ H x xs v us Q I rx rxs h
  obtain ⟨a, ys, y, rfl, rfl, hs, fy, fys, q⟩ := h
  cases rx
  obtain ⟨uy, rfl, ry⟩ := rxs.one
  obtain ⟨its, rv, ⟨⟨cls, dd, data, sl⟩, n, ho, hc, hdn, hd⟩, hlen⟩ := I.list hs
  simp only at hc hd
  subst hc hd
  refine call_meets PySem.F.slot_list_count ⟨_, ho, rfl⟩ PySem.F.entry_list_count (PySem.F.args_list_count_2 _ _) (SeqAt.list_countAt a its.toArray n dd sl uy (eqU y)) ⟨ho, fun u2 hu2 => mem_eqAt ry fy rv fys u2 (by simpa using hu2), ?_⟩
  refine ⟨.int ((ys.countP fun z => eqV z y : Nat) : Int), H, I.tok _, ⟨s.toks, ?_⟩, q⟩
  show Value.int ((its.toArray.toList.countP (eqU y) : Nat) : Int) s.toks = _
  rw [List.toList_toArray, count_flat rv fys]
/-! ## a method, an __init__ called by place and by keywords -/
theorem kbn_self {K : PySem.W.Frag} {x qual : Str} {st : Stmt} {f : Addr} {fd : FuncData} {ps ks : List Str} (F : Fun K x qual st f fd) (g : {α : Type} → α → List α → List α) (hg : ∀ {v : V} {u : Value} {vs : List V} {us : List Value}, RelV v u → Vals vs us → Vals (g v vs) (g u us))
    (h : ∀ (kV doc pm : Value) (an : Option Addr) (cdv ct u : Value) (ws : List Value), ws.length = ks.length →
      bindArgs (PySem.W.fnOf x qual (defArgs st) (defBody st) (defScope st) .none kV doc pm an cdv ct) ⟨[u], ks.zip ws⟩ = pure (ps.zip (g u ws))) : KBn K fd ps 1 ks (fun us ws => match us with | [u] => g u ws | _ => ws) (fun us ws => match us with | [u] => g u ws | _ => ws) := by
  obtain ⟨oc, od, kV, doc, pm, an, cdv, ct, osl, rfl, lk, hcd⟩ := F.ex
  refine ⟨fun s us ws X l1 l2 => ?_, fun r1 r2 => ?_⟩
  · match us, l1 with
    | [u], _ => exact .of_eq (h kV doc pm an cdv ct u ws l2)
  · cases r1 with
    | nil => exact r2
    | cons a r => cases r with
      | nil => exact hg a r2
      | cons b r => exact r2
section
variable {P : Program} {w : World} {K : PySem.W.Frag} {mg : Str → Option Value} {base : Heap} {C : Addr} {m x qual : Str} {st : Stmt} {ps ks N : List Str} {k : Nat} {sp spk : Sp}
theorem MetAt.metKX (D : MetAt K C m qual st ps) (cl : Cls K C) (S : FnScope N ps (defScope st)) (len : ∀ vs H Q E, sp vs H Q E → vs.length = ps.length)
    (hb : ∀ (f : Addr) (cdv : Value) (A : Around) (outer : List Env) (s : Shared) (H : Hp) (vs : List V) (Q : VK) (E : XK), Room k (A.deeper (envOfC qual (defScope st) s.heap.objs.size f cdv)) → sp vs H Q E →
      (Takes (cxOf (L2.CX P w) P w K mg base N qual (defScope st) f cdv A outer s H E) fun cls d _ G => E cls d G) →
      ∃ t, PSs (cxOf (L2.CX P w) P w K mg base N qual (defScope st) f cdv A outer s H E) (defBody st) t ∧ t { nx := fun _ H' => Q .non H', rt := Q } (start N vs) H)
    (g : {α : Type} → α → List α → List α) (hg : ∀ {v : V} {u : Value} {vs : List V} {us : List Value}, RelV v u → Vals vs us → Vals (g v vs) (g u us))
    (h : ∀ (kV doc pm : Value) (an : Option Addr) (cdv ct u : Value) (ws : List Value), ws.length = ks.length →
      bindArgs (PySem.W.fnOf m qual (defArgs st) (defBody st) (defScope st) .none kV doc pm an cdv ct) ⟨[u], ks.zip ws⟩ = pure (ps.zip (g u ws)))
    (hs : ∀ x zs H Q E, spk (x :: zs) H Q E → zs.length = ks.length ∧ sp (g x zs) H Q E) : MetX P w K mg base (k + 1) C m sp ∧ MetKX P w K mg base (k + 1) C m ks spk := by
  obtain ⟨f, fd, F, hm, b⟩ := D.ex
  have ok := F.okX S len fun cdv A outer s H vs Q E hr hsp => hb f cdv A outer s H vs Q E hr hsp (takes_of rfl rfl rfl rfl)
  exact ⟨⟨f, fd, ps, cl, hm, ok, b⟩, ⟨f, fd, ps, sp, _, _, cl, hm, ok, kbn_self F g hg h, hs⟩⟩
theorem IniAt.makK (D : IniAt K mg C x qual st ps) (S : FnScope N ps (defScope st)) (len : ∀ vs H Q E, sp vs H Q E → vs.length = ps.length)
    (hb : ∀ (f : Addr) (cdv : Value) (A : Around) (outer : List Env) (s : Shared) (H : Hp) (vs : List V) (Q : VK) (E : XK), Room k (A.deeper (envOfC qual (defScope st) s.heap.objs.size f cdv)) → sp vs H Q E →
      (Takes (cxOf (L2.CX P w) P w K mg base N qual (defScope st) f cdv A outer s H E) fun cls d _ G => E cls d G) →
      ∃ t, PSs (cxOf (L2.CX P w) P w K mg base N qual (defScope st) f cdv A outer s H E) (defBody st) t ∧ t { nx := fun _ H' => Q .non H', rt := Q } (start N vs) H)
    (g : {α : Type} → α → List α → List α) (hg : ∀ {v : V} {u : Value} {vs : List V} {us : List Value}, RelV v u → Vals vs us → Vals (g v vs) (g u us))
    (h : ∀ (kV doc pm : Value) (an : Option Addr) (cdv ct u : Value) (ws : List Value), ws.length = ks.length →
      bindArgs (PySem.W.fnOf "__init__" qual (defArgs st) (defBody st) (defScope st) .none kV doc pm an cdv ct) ⟨[u], ks.zip ws⟩ = pure (ps.zip (g u ws)))
    (hs : ∀ x zs H Q E, spk (x :: zs) H Q E → zs.length = ks.length ∧ sp (g x zs) H Q E0) : MakX P w K mg base (k + 1) x C sp ∧ MakK P w K mg base (k + 1) x C ks spk := by
  obtain ⟨f, fd, F, hm, hg2, b⟩ := D.ex
  have ok := F.okX S len fun cdv A outer s H vs Q E hr hsp => hb f cdv A outer s H vs Q E hr hsp (takes_of rfl rfl rfl rfl)
  have ok0 : FnOk P w K mg base CX0 (k + 1) f fd ps (fun vs H Q _ => sp vs H Q E0) := fn_calm ok fun vs H Q E z => z
  exact ⟨⟨f, fd, ps, hm, ok, hg2, b⟩, ⟨f, fd, ps, _, _, _, hm, ok0, hg2, kbn_self F g hg h, hs⟩⟩
end
/-! ## [.. for i, x in enumerate(xs) ..] -/
theorem lc_enum {K : PySem.W.Frag} {a : Addr} {xs : List V} {g : TG} {tt : TT} {te : TE} {vs : List Nat} {σ : L2.St} {H1 : Hp} {D : Addr} {Qd : Hp → Prop} (Pv : Nat → Hp → Prop) (h0 : Pv 0 (upd H1 D (.lst []))) (hq : ∀ i H, Pv i H → SqL K H a xs)
    (hs : ∀ (i : Nat) (x : V) (T : Addr) (H : Hp), xs[i]? = some x → Pv i H → H T = none → g (.ref T) (wipe σ vs) (upd H T (.tup [.int (i : Nat), x])) fun σ2 H2 => wipe σ2 vs = wipe σ vs ∧ tt σ2 H2 fun b H3 =>
      if b = true then te σ2 H3 fun y H4 => ∃ acc, H4 D = some (.lst acc) ∧ acc.length < sizeLine ∧ Pv (i + 1) (upd H4 D (.lst (acc ++ [y]))) else Pv (i + 1) H3) (hd : ∀ H, Pv xs.length H → Qd H) :
    ∃ W : Nat → Nat → Hp → Prop, (∃ m, W 0 m (upd H1 D (.lst []))) ∧ ∀ i m H, W i m H →
      ((Ite K a).stop i H ∧ Qd H) ∨ ((Ite K a).go i H ∧ ∃ Nx : Hp → Prop, (∀ H', Nx H' → ∃ m', m' < m ∧ W (i + 1) m' H') ∧ ∀ x H', (Ite K a).yld i H x H' → g x (wipe σ vs) H' fun σ2 H2 => wipe σ2 vs = wipe σ vs ∧ tt σ2 H2 fun b H3 =>
        if b = true then te σ2 H3 fun y H4 => ∃ acc, H4 D = some (.lst acc) ∧ acc.length < sizeLine ∧ Nx (upd H4 D (.lst (acc ++ [y]))) else Nx H3) := by
  refine ⟨fun i m H => m + i = xs.length ∧ Pv i H, ⟨xs.length, rfl, h0⟩, fun i m H hW => ?_⟩
  obtain ⟨em, p⟩ := hW
  have q := hq i H p
  by_cases lt : i < xs.length
  · have ex : xs[i]? = some xs[i] := List.getElem?_eq_getElem lt
    refine .inr ⟨⟨xs, _, q, ex⟩, Pv (i + 1), fun H' p' => ⟨m - 1, by omega, by omega, p'⟩, fun v H' hy => ?_⟩
    obtain ⟨T, x, rfl, nT, rfl, f⟩ := hy
    exact hs i x T H (f xs q) p nT
  · have ei : i = xs.length := by omega
    subst ei
    exact .inl ⟨⟨xs, q, Nat.le_refl _⟩, hd H p⟩
/-! ## a kept exception stays -/
theorem Kept.same {H H' : Hp} {a C : Addr} {fs : List (Str × V)} (k : Kept H a C fs) (s : Same H H') : Kept H' a C fs := by
  obtain ⟨d, h1, h2⟩ := k
  exact ⟨d, s _ _ h1, s _ _ h2⟩
theorem kept_new {H : Hp} {a C d : Addr} {fs : List (Str × V)} (na : H a = none) (hd : H d = some (.xd fs)) : Kept (upd H a (Xo a (.ref C) (some d))) a C fs := ⟨d, upd_same, upd_keep na hd⟩
theorem But.same {o : Addr} {H H1 H' : Hp} (b : But o H1 H') (s : Same H H1) (n : H o = none) : Same H H' := fun c u e => b c u (fun z => by
  rw [z, n] at e
  cases e) (s c u e)
theorem exm_mk {K : PySem.W.Frag} {C S : Addr} {b : Bool} (h1 : PySem.W.subIn K (.ref S) (.type "BaseException") = some true) (h2 : PySem.W.isClsIn K S = true) (h3 : PySem.W.typeIn K (.ref S) = some (.type "type")) (h4 : PySem.W.subIn K (.ref C) (.ref S) = some b) : PySem.W.exmOne K (.ref C) (.ref S) = some b := by
  have e1 : (PySem.W.subIn K (.ref S) (.type "BaseException") == some true) = true := by rw [h1] <;> rfl
  have e2 : ((PySem.W.clsIn K S).isSome && PySem.W.typeIn K (.ref S) == some (.type "type")) = true := by
    have h2' : (PySem.W.clsIn K S).isSome = true := h2
    rw [h2', h3] <;> rfl
  show (if (PySem.W.subIn K (.ref S) (.type "BaseException") == some true) = true then (if ((PySem.W.clsIn K S).isSome && PySem.W.typeIn K (.ref S) == some (.type "type")) = true then PySem.W.subIn K (.ref C) (.ref S) else none) else none) = some b
  rw [if_pos e1, if_pos e2]
  exact h4
end Sq

/-! ## own tactic words (local) -/
local macro_rules | `(tactic| walk_at "sq hp") => `(tactic| first
  | assumption
  | exact L2.upd_same
  | (refine Sq.Sep.get (by assumption) ?_; walk_at "sq hp")
  | (refine Sq.upd_keep (by assumption) ?_; walk_at "sq hp")
  | (refine Sq.Same.get (by assumption) ?_; walk_at "sq hp")
  | (refine Sq.upd_off (by assumption) ?_; walk_at "sq hp")
  | (refine Sq.upd_off (Ne.symm (by assumption)) ?_; walk_at "sq hp"))
local macro_rules | `(tactic| walk_at "sq sql") => `(tactic| first
  | assumption
  | exact Sq.seqL_of (by walk_at "sq hp")
  | exact L2.Same.seq (by assumption) (by assumption)
  | exact L2.Same.seq (Sq.Sep.same (by assumption)) (by assumption))
local macro_rules | `(tactic| walk_at "sq len") => `(tactic| (
  (try simp only [List.length_map, List.length_append, List.length_cons, List.length_nil, List.length_take, List.length_drop, List.length_reverse]); (try rw [PySem.sizeLine_eq]); omega))
local macro_rules | `(tactic| walk_at "sq side") => `(tactic| first
  | exact rfl
  | exact Nat.zero_le _
  | exact Sq.lit_len (Nat.le_of_ble_eq_true rfl)
  | ((with_reducible show L2.SqL _ _ _ _); walk_at "sq sql")
  | ((with_reducible show L2.SqT _ _ _ _); exact L2.SqT.of (by walk_at "sq hp"))
  | (apply Exists.intro; walk_at "sq sql")
  | ((with_reducible show _ = some _); walk_at "sq hp")
  | ((with_reducible show Sq.Sep _ _ _); assumption)
  | ((with_reducible show L2.ClsV _ _); first | exact .ty _ | exact .own _)
  | ((with_reducible show L2.TyX _ _ _ _); first | exact .base .non | exact .base (.bl _) | exact .base (.int _) | exact .base (.str _) | exact Sq.tyx_lst (by walk_at "sq sql") | exact Sq.tyx_tup (by exact L2.SqT.of (by walk_at "sq hp")) | assumption)
  | ((with_reducible show Sq.CPowW _ _); first | assumption | exact ⟨by decide, by decide, by decide⟩)
  | ((with_reducible show L2.CMulW _ _); first | assumption | exact (by decide +kernel))
  | ((with_reducible show L2.CDivW _ _); first | assumption | exact ⟨by decide, by decide⟩)
  | ((with_reducible show L2.tyV _ "list" _ _); exact Or.inl ⟨rfl, _, by walk_at "sq sql"⟩)
  | ((with_reducible show _ < PySem.sizeLine); walk_at "sq len")
  | ((with_reducible show _ ≤ PySem.sizeLine); walk_at "sq len")
  | ((with_reducible show (0 : Int) < _); first | assumption | decide | omega)
  | decide
  | omega)
local macro_rules | `(tactic| walk_at "sq go") => `(tactic| repeat (first
  | exact rfl
  | (fail_if_success (show ∃ W : Nat → Nat → L2.St → L2.Hp → Prop, _)
     fail_if_success (show ∃ W : Nat → Nat → L2.Hp → Prop, _)
     fail_if_success (show ∃ W : Nat → L2.St → L2.Hp → Prop, _)
     apply Exists.intro)
  | (apply And.intro; focus walk_at "sq side")
  | refine L2.iteT ?_
  | refine L2.iteF ?_))
namespace Sq
open PySem PySem.Spec PyProof.Rows L2
def topS (i : Nat) : Stmt := PySem.Challenge.pw_squeezelists_k18_hidden_lists_answer.main.body.getD i (.Pass ⟨0, 0, 0, 0⟩)
structure Bt (mg : Str → Option Value) : Prop where
  «ValueError» : mg "ValueError" = none
  «abs» : mg "abs" = none
  «enumerate» : mg "enumerate" = none
  «isinstance» : mg "isinstance" = none
  «len» : mg "len" = none
  «list» : mg "list" = none
  «max» : mg "max" = none
  «min» : mg "min" = none
  «range» : mg "range" = none
section
variable {P : Program} {w : World} {K : PySem.W.Frag} {mg : Str → Option Value} {base : Heap}

/-! ### the checks, also where they raise -/
/-- the first number below 2 -/
def bad (ns : List Int) : Option Nat := ns.findIdx? fun k => decide (k < 2)
theorem bad_none {ns : List Int} : bad ns = none ↔ Two ns := by
  unfold bad Two
  rw [List.findIdx?_eq_none_iff]
  constructor
  · intro h k hk
    have := h k hk
    simpa using this
  · intro h k hk
    have := h k hk
    simp
    omega
theorem bad_at {ns : List Int} {i : Nat} {n : Int} (h : ns[i]? = some n) (c : n < 2) (le : ∀ j : Nat, j < i → ∀ k, ns[j]? = some k → 2 ≤ k) : bad ns = some i := by
  unfold bad
  rw [List.findIdx?_eq_some_iff_getElem]
  obtain ⟨lt, e⟩ := List.getElem?_eq_some_iff.mp h
  refine ⟨lt, by rw [e]; simpa using c, fun j hj => ?_⟩
  have := le j hj _ (List.getElem?_eq_getElem (by omega))
  simp
  omega
abbrev s_check_list : Stmt := topS 8
theorem sc_check_list : FnScope ["replacements", "index", "replacement"] ["replacements"] (defScope s_check_list) := ⟨rfl, rfl, rfl, by decide +kernel, rfl, by decide +kernel, by decide +kernel⟩

def spCheckX (K : PySem.W.Frag) (CL : Addr) : Sp := fun vs H Q E => ∃ (a : Addr) (ns : List Int), vs = [.ref a] ∧ SqL K H a (iv ns) ∧ Keep ((bad ns = none → ∀ H', Same H H' → Q .non H') ∧
  ∀ i : Nat, bad ns = some i → ∀ d H', Same H H' → H' d = some (.xd [("value", .int i)]) → E (.ref CL) (some d) H')
theorem cal_check_listX {CL : Addr} (D : DefAt K mg "check_list" s_check_list ["replacements"]) (B : Bt mg) (c_InvalidList : Rai P w K mg base 1 "InvalidList" CL) : CalX P w K mg base 3 "check_list" (spCheckX K CL) := by
  refine D.calX sc_check_list (fun vs H Q E h => ?_) (fun f cdv A outer s H vs Q E hr h tk => ?_)
  · obtain ⟨a, ns, rfl, _⟩ := h
    rfl
  · obtain ⟨a, ns, rfl, hS, ⟨q, qe⟩⟩ := h
    refine ⟨_, (pss_one (ps_for PassesOwn.leaving rfl (pi_enumK (K := K) (by rfl) B.enumerate (pa_cons (pv 0) pa_nil)) (pg_tupK (K := K) (n := 2) rfl (pgs_cons (pg_name (i := 1) sc_check_list.nd rfl (Or.inl rfl)) (pgs_cons (pg_name (i := 2) sc_check_list.nd rfl (Or.inl rfl)) pgs_nil)))
   (pss_one (ps_if (pt_cmpR op_lt (pv 2) pe_int (nomark _)) (pss_one (ps_rx c_InvalidList hr (by first | decide | omega) (by rfl) tk (pv 1))) pss_nil)))), ?_⟩
    walk_at "sq go"
    refine for_enum (K := K) (a := a) (xs := iv ns) (fun i σ H' => Keep (∃ x y, σ = [some (.ref a), x, y] ∧ Same H H' ∧ ∀ j : Nat, j < i → ∀ k, ns[j]? = some k → 2 ≤ k)) ⟨none, none, rfl, .refl H, fun j hj => absurd hj (by omega)⟩ (fun i σ H' h => ?_) (fun i x T σ H' hx h nT => ?_) (fun σ H' h => ?_)
    · obtain ⟨_, _, _, s, _⟩ := h.o
      exact s.seq hS
    · obtain ⟨y1, y2, rfl, s, le⟩ := h.o
      obtain ⟨n, hn, rfl⟩ := iv_get hx
      have s1 := s.trans (same_new (o := .tup [.int (i : Nat), .int n]) nT)
      walk_at "sq go"
      refine ifD (fun c => ?_) (fun c => ?_)
      · walk_at "sq go"
        intro d nd
        refine qe i (bad_at hn c le) d _ (s1.trans (same_new nd)) upd_same
      · refine ⟨_, _, rfl, s1, fun j hj k hk => ?_⟩
        rcases Nat.lt_succ_iff_lt_or_eq.mp hj with z | z
        · exact le j z k hk
        · rw [z, hn] at hk
          cases hk
          omega
    · obtain ⟨y1, y2, rfl, s, le⟩ := h.o
      refine q (bad_none.mpr fun k hk => ?_) H' s
      obtain ⟨j, hj⟩ := List.mem_iff_getElem?.mp hk
      have lt : j < ns.length := (List.getElem?_eq_some_iff.mp hj).1
      exact le j (by rw [iv_len]; exact lt) k hj
abbrev s_check_length : Stmt := topS 9
theorem sc_check_length : FnScope ["length"] ["length"] (defScope s_check_length) := ⟨rfl, rfl, rfl, by decide +kernel, rfl, by decide +kernel, by decide +kernel⟩

def spLenX (CN : Addr) : Sp := fun vs H Q E => ∃ n : Int, vs = [.int n] ∧ Keep ((0 ≤ n → Q .non H) ∧ (n < 0 → ∀ d H', Same H H' → H' d = some (.xd [("value", .int n)]) → E (.ref CN) (some d) H'))
theorem cal_check_lengthX {CN : Addr} (D : DefAt K mg "check_length" s_check_length ["length"]) (B : Bt mg) (c_InvalidNumber : Rai P w K mg base 1 "InvalidNumber" CN) : CalX P w K mg base 3 "check_length" (spLenX CN) := by
  refine D.calX sc_check_length (fun vs H Q E h => ?_) (fun f cdv A outer s H vs Q E hr h tk => ?_)
  · obtain ⟨n, rfl, _⟩ := h
    rfl
  · obtain ⟨n, rfl, ⟨q, qe⟩⟩ := h
    refine ⟨_, (pss_one (ps_if (pt_cmpR op_lt (pv 0) pe_int (nomark _)) (pss_one (ps_rx c_InvalidNumber hr (by first | decide | omega) (by rfl) tk (pv 0))) pss_nil)), ?_⟩
    walk_at "sq go"
    refine ifD (fun c => ?_) (fun c => ?_)
    · walk_at "sq go"
      intro d nd
      exact qe c d _ (same_new nd) upd_same
    · exact q (by omega)

/-! ### the checks, of valid arguments, by their names as before -/
def spCheckList (K : PySem.W.Frag) : Sp := fun vs H Q _ => ∃ (a : Addr) (ns : List Int), vs = [.ref a] ∧ SqL K H a (iv ns) ∧ Keep (Two ns) ∧ ∀ H', Same H H' → Q .non H'
def spCheckLength : Sp := fun vs H Q _ => ∃ m : Int, vs = [.int m] ∧ Keep (0 ≤ m) ∧ Q .non H
theorem calm_list {CL : Addr} {k : Nat} (c : CalX P w K mg base k "check_list" (spCheckX K CL)) : Cal P w K mg base k "check_list" (spCheckList K) [] := c.calm fun vs H Q E h => by
  obtain ⟨a, ns, rfl, hS, ⟨h2⟩, q⟩ := h
  exact ⟨a, ns, rfl, hS, ⟨fun _ => q, fun i e => by
    rw [bad_none.mpr h2] at e
    cases e⟩⟩
theorem calm_length {CN : Addr} {k : Nat} (c : CalX P w K mg base k "check_length" (spLenX CN)) : Cal P w K mg base k "check_length" spCheckLength [] := c.calm fun vs H Q E h => by
  obtain ⟨m, rfl, ⟨h0⟩, q⟩ := h
  exact ⟨m, rfl, ⟨fun _ => q, fun c => absurd c (by omega)⟩⟩

abbrev s_squeezed_once : Stmt := topS 10
theorem sc_squeezed_once : FnScope ["length", "replacement"] ["length", "replacement"] (defScope s_squeezed_once) := ⟨rfl, rfl, rfl, by decide +kernel, rfl, by decide +kernel, by decide +kernel⟩

def spSqOnce : Sp := fun vs H Q _ => ∃ n k : Int, vs = [.int n, .int k] ∧ Keep (2 ≤ k ∧ k < 2 ^ 240) ∧ Q (.int (once n k)) H
theorem cal_squeezed_once (D : DefAt K mg "squeezed_once" s_squeezed_once ["length", "replacement"]) (B : Bt mg) : Cal P w K mg base 1 "squeezed_once" spSqOnce [] := by
  refine D.cal sc_squeezed_once (fun vs H Q E h => ?_) (fun f cdv A outer s H vs Q E hr h => ?_)
  · obtain ⟨n, k, rfl, _⟩ := h
    rfl
  · obtain ⟨n, k, rfl, ⟨h2, hb⟩, q⟩ := h
    refine ⟨_, (pss_one (ps_ret (pe_op op_add (pe_op op_fdivW (pv 0) (pv 1)) (pe_op op_mod (pv 0) (pv 1))))), ?_⟩
    have c : CDivW n k := div_ok (by omega) hb
    walk_at "sq go"
    exact q
abbrev s_squeezed_by : Stmt := topS 11
theorem sc_squeezed_by : FnScope ["length", "replacements", "replacement"] ["length", "replacements"] (defScope s_squeezed_by) := ⟨rfl, rfl, rfl, by decide +kernel, rfl, by decide +kernel, by decide +kernel⟩

def spSqBy (K : PySem.W.Frag) : Sp := fun vs H Q _ => ∃ (n : Int) (p : Addr) (ns : List Int), vs = [.int n, .ref p] ∧ SqL K H p (iv ns) ∧ Keep (Mid ns) ∧ Q (.int (sqz n ns)) H
theorem cal_squeezed_by (D : DefAt K mg "squeezed_by" s_squeezed_by ["length", "replacements"]) (B : Bt mg) (c_squeezed_once : Cal P w K mg base 1 "squeezed_once" spSqOnce []) : Cal P w K mg base 2 "squeezed_by" (spSqBy K) [] := by
  refine D.cal sc_squeezed_by (fun vs H Q E h => ?_) (fun f cdv A outer s H vs Q E hr h => ?_)
  · obtain ⟨n, p, ns, rfl, _⟩ := h
    rfl
  · obtain ⟨n, p, ns, rfl, hS, ⟨hm⟩, q⟩ := h
    refine ⟨_, (pss_cons (ps_for PassesOwn.never rfl (pi_listK (K := K) (pv 1)) (pg_name (i := 2) sc_squeezed_by.nd rfl (Or.inl rfl))
   (pss_one (ps_set (i := 0) sc_squeezed_by.nd rfl (Or.inl rfl) (pe_c c_squeezed_once hr (by first | decide | omega) (by rfl) (pa_cons (pv 0) (pa_cons (pv 2) pa_nil))))))
  (pss_one (ps_ret (pv 0)))), ?_⟩
    walk_at "sq go"
    refine for_list (K := K) (a := p) (xs := iv ns) (fun i σ H' => Keep (∃ x, σ = [some (.int (sqz n (ns.take i))), some (.ref p), x] ∧ H' = H)) ⟨none, rfl, rfl⟩ (fun i σ H' _ h => ?_) (fun i x σ H' hx h => ?_) (fun σ H' h => ?_)
    · obtain ⟨x, _, rfl⟩ := h.o
      exact hS
    · obtain ⟨x, rfl, rfl⟩ := h.o
      obtain ⟨k, hk, rfl⟩ := iv_get hx
      walk_at "sq go"
      refine ⟨⟨hm k (List.mem_of_getElem? hk)⟩, ?_⟩
      exact ⟨_, by rw [sqz_take hk]; rfl, rfl⟩
    · obtain ⟨x, rfl, rfl⟩ := h.o
      have e : (iv ns).length = ns.length := iv_len _
      rw [e, List.take_length]
      walk_at "sq go"
      exact q
abbrev s_squeezed : Stmt := topS 12
theorem sc_squeezed : FnScope ["length", "replacements"] ["length", "replacements"] (defScope s_squeezed) := ⟨rfl, rfl, rfl, by decide +kernel, rfl, by decide +kernel, by decide +kernel⟩

def spSq (K : PySem.W.Frag) : Sp := fun vs H Q _ => ∃ (n : Int) (p : Addr) (ns : List Int), vs = [.int n, .ref p] ∧ SqL K H p (iv ns) ∧ Keep (0 ≤ n ∧ Mid ns) ∧ ∀ H', Same H H' → Q (.int (sqz n ns)) H'
theorem cal_squeezed_p (D : DefAt K mg "squeezed" s_squeezed ["length", "replacements"]) (B : Bt mg) (c_check_length : Cal P w K mg base 3 "check_length" spCheckLength []) (c_check_list : Cal P w K mg base 3 "check_list" (spCheckList K) [])
    (c_squeezed_by : Cal P w K mg base 2 "squeezed_by" (spSqBy K) []) : Cal P w K mg base 4 "squeezed" (spSq K) [] := by
  refine D.cal sc_squeezed (fun vs H Q E h => ?_) (fun f cdv A outer s H vs Q E hr h => ?_)
  · obtain ⟨n, p, ns, rfl, _⟩ := h
    rfl
  · obtain ⟨n, p, ns, rfl, hS, ⟨h0, hm⟩, q⟩ := h
    refine ⟨_, (pss_cons (ps_expr (pe_c c_check_length hr (by first | decide | omega) (by rfl) (pa_cons (pv 0) pa_nil)))
  (pss_cons (ps_expr (pe_c c_check_list hr (by first | decide | omega) (by rfl) (pa_cons (pv 1) pa_nil)))
  (pss_one (ps_ret (pe_c c_squeezed_by hr (by first | decide | omega) (by rfl) (pa_cons (pv 0) (pa_cons (pv 1) pa_nil))))))), ?_⟩
    walk_at "sq go"
    refine ⟨⟨h0⟩, ?_⟩
    walk_at "sq go"
    refine ⟨⟨hm.two⟩, fun H1 s1 => ?_⟩
    have hS1 := s1.seq hS
    walk_at "sq go"
    exact ⟨⟨hm⟩, q H1 s1⟩

/-! ### hidden lists -/
def hf (l : Addr) (m : Int) : List (Str × V) := [("hidden", .ref l), ("asked", .int m)]
theorem hf_hidden (l : Addr) (m : Int) : (hf l m).lookup ("hidden" : Str) = some (.ref l) := rfl
theorem hf_asked (l : Addr) (m : Int) : (hf l m).lookup ("asked" : Str) = some (.int m) := rfl
theorem hf_ask (l : Addr) (m : Int) : (hf l m).lookup ("ask" : Str) = none := rfl
theorem hf_put (l : Addr) (m n : Int) : putF "asked" (.int n) (hf l m) = hf l n := rfl
theorem hf_new (l : Addr) (m : Int) : putF "asked" (.int m) (putF "hidden" (.ref l) []) = hf l m := rfl
structure Hid (K : PySem.W.Frag) (C : Addr) : Prop where
  cl : Cls K C
  nH : NoAttr K C "hidden"
  nA : NoAttr K C "asked"
/-- a hidden list at o -/
def Hid1 (C o : Addr) (l : Addr) (m : Int) (ns : List Int) (H : Hp) : Prop := (∃ dx, H o = some (.ins C dx (hf l m))) ∧ H l = some (.lst (iv ns))
local macro_rules | `(tactic| walk_at "sq side") => `(tactic| first
  | ((with_reducible show List.lookup _ _ = _); first | exact hf_hidden _ _ | exact hf_asked _ _ | exact hf_ask _ _)
  | ((with_reducible show Cls _ _); assumption)
  | ((with_reducible show NoAttr _ _ _); assumption)
  | ((with_reducible show List.length _ < 1000); exact Nat.le_of_ble_eq_true rfl))
theorem But.off {o a : Addr} {H H' : Hp} {u : HO} (b : But o H H') (n : H a = none) : But o H (upd H' a u) := fun c x k e => by
  rw [upd_ne fun z => by
    rw [z, n] at e
    cases e]
  exact b c x k e
abbrev s_HiddenList___init__ : Stmt := inClass (topS 14) 0
theorem sc_HiddenList___init__ : FnScope ["self", "replacements"] ["self", "replacements"] (defScope s_HiddenList___init__) := ⟨rfl, rfl, rfl, by decide +kernel, rfl, by decide +kernel, by decide +kernel⟩

def spHInitX (K : PySem.W.Frag) (C CL : Addr) : Sp := fun vs H Q E => ∃ (x p dx : Addr) (ns : List Int), vs = [.ref x, .ref p] ∧ H x = some (.ins C dx []) ∧ SqL K H p (iv ns) ∧
  Keep ((bad ns = none → ∀ l H', H l = none → But x H H' → H' l = some (.lst (iv ns)) → H' x = some (.ins C dx (hf l 0)) → Q .non H') ∧ ∀ i : Nat, bad ns = some i → ∀ d H', Same H H' → H' d = some (.xd [("value", .int i)]) → E (.ref CL) (some d) H')
/-- a new hidden list of a valid list -/
def spHInit (K : PySem.W.Frag) (C : Addr) : Sp := fun vs H Q _ => ∃ (x p dx : Addr) (ns : List Int), vs = [.ref x, .ref p] ∧ H x = some (.ins C dx []) ∧ SqL K H p (iv ns) ∧
  Keep (Two ns) ∧ ∀ l H', H l = none → But x H H' → H' l = some (.lst (iv ns)) → H' x = some (.ins C dx (hf l 0)) → Q .non H'
theorem hinit_calm {C CL : Addr} {vs : List V} {H : Hp} {Q : VK} {E E' : XK} (h : spHInit K C vs H Q E) : spHInitX K C CL vs H Q E' := by
  obtain ⟨x, p, dx, ns, rfl, hx, hS, ⟨h2⟩, q⟩ := h
  exact ⟨x, p, dx, ns, rfl, hx, hS, ⟨fun _ => q, fun i e => by
    rw [bad_none.mpr h2] at e
    cases e⟩⟩
theorem hinit_k {C CL : Addr} (x : V) (zs : List V) (H : Hp) (Q : VK) (E : XK) (h : spHInit K C (x :: zs) H Q E) : zs.length = (["replacements"] : List Str).length ∧ spHInitX K C CL (x :: zs) H Q E0 := by
  refine ⟨?_, hinit_calm h⟩
  obtain ⟨x, p, dx, ns, e, _⟩ := h
  cases e
  rfl
theorem mak_hiddenX {C CL : Addr} (D : IniAt K mg C "HiddenList" "HiddenList.__init__" s_HiddenList___init__ ["self", "replacements"]) (hi : Hid K C) (B : Bt mg) (c_check_listX : CalX P w K mg base 3 "check_list" (spCheckX K CL)) :
    MakX P w K mg base 4 "HiddenList" C (spHInitX K C CL) ∧ MakK P w K mg base 4 "HiddenList" C ["replacements"] (spHInit K C) := by
  refine D.makK sc_HiddenList___init__ (fun vs H Q E h => ?_) (fun f cdv A outer s H vs Q E hr h tk => ?_) (fun u ws => u :: ws) .cons (fun kV doc pm an cdv ct u ws hl => match ws, hl with | [_], _ => rfl) hinit_k
  · obtain ⟨x, p, dx, ns, rfl, _⟩ := h
    rfl
  · obtain ⟨x, p, dx, ns, rfl, hx, hS, ⟨q, qe⟩⟩ := h
    obtain ⟨cl, nH, nA⟩ := hi
    refine ⟨_, (pss_cons (ps_expr (pe_cx c_check_listX hr (by first | decide | omega) tk (by rfl) (pa_cons (pv 1) pa_nil)))
  (pss_cons (ps_fldK (K := K) (pv 0) (pe_callTy (list_ofK (K := K)) (by rfl) B.list (by decide +kernel) (pa_cons (pv 1) pa_nil)) rfl)
  (pss_one (ps_fldK (K := K) (pv 0) pe_int rfl)))), ?_⟩
    walk_at "sq go"
    refine ⟨fun hb H1 s1 => ?_, fun i hb d H1 s1 hd => qe i hb d H1 s1 hd⟩
    have hS1 := s1.seq hS
    have hx1 := Same.get s1 hx
    walk_at "sq go"
    intro l nl
    have hx2 : upd H1 l (.lst (iv ns)) x = some (.ins C dx []) := upd_keep nl hx1
    have nx : l ≠ x := fun e => by
      rw [e, hx1] at nl
      cases nl
    walk_at "sq go"
    refine q hb l _ (s1.free nl) (((But.of s1).trans (But.of (same_new nl))).trans (But.put.trans But.put)) ?_ ?_
    · rw [upd_ne nx, upd_ne nx, upd_same]
    · rw [upd_same, hf_new]
abbrev s_HiddenList_questions : Stmt := inClass (topS 14) 1
theorem sc_HiddenList_questions : FnScope ["self"] ["self"] (defScope s_HiddenList_questions) := ⟨rfl, rfl, rfl, by decide +kernel, rfl, by decide +kernel, by decide +kernel⟩

def spHQ (C : Addr) : Sp := fun vs H Q _ => ∃ (o dx l : Addr) (m : Int), vs = [.ref o] ∧ H o = some (.ins C dx (hf l m)) ∧ Q (.int m) H
theorem prp_questions {C : Addr} (D : PrpAt K C "questions" "HiddenList.questions" s_HiddenList_questions ["self"]) (hi : Hid K C) (B : Bt mg) : Prp P w K mg base 1 C "questions" (spHQ C) := by
  refine D.prp hi.cl sc_HiddenList_questions (fun vs H Q E h => ?_) (fun f cdv A outer s H vs Q E hr h => ?_)
  · obtain ⟨o, dx, l, m, rfl, _⟩ := h
    rfl
  · obtain ⟨o, dx, l, m, rfl, ho, q⟩ := h
    obtain ⟨cl, nH, nA⟩ := hi
    refine ⟨_, (pss_one (ps_ret (pe_fldK (K := K) (pv 0)))), ?_⟩
    walk_at "sq go"
    exact q
abbrev s_HiddenList_ask : Stmt := inClass (topS 14) 2
theorem sc_HiddenList_ask : FnScope ["self", "length", "found"] ["self", "length"] (defScope s_HiddenList_ask) := ⟨rfl, rfl, rfl, by decide +kernel, rfl, by decide +kernel, by decide +kernel⟩

def spHAskX (C CN : Addr) : Sp := fun vs H Q E => ∃ (o dx l : Addr) (m n : Int) (ns : List Int), vs = [.ref o, .int n] ∧ H o = some (.ins C dx (hf l m)) ∧ H l = some (.lst (iv ns)) ∧ Keep (Mid ns ∧
  (0 ≤ n → ∀ H', But o H H' → H' o = some (.ins C dx (hf l (m + 1))) → Q (.int (sqz n ns)) H') ∧ (n < 0 → ∀ d H', Same H H' → H' d = some (.xd [("value", .int n)]) → E (.ref CN) (some d) H'))
theorem met_askX {C CN : Addr} (D : MetAt K C "ask" "HiddenList.ask" s_HiddenList_ask ["self", "length"]) (hi : Hid K C) (B : Bt mg) (c_check_lengthX : CalX P w K mg base 3 "check_length" (spLenX CN))
    (c_squeezed : Cal P w K mg base 4 "squeezed" (spSq K) []) : MetX P w K mg base 5 C "ask" (spHAskX C CN) ∧ MetKX P w K mg base 5 C "ask" ["length"] (spHAskX C CN) := by
  refine D.metKX hi.cl sc_HiddenList_ask (fun vs H Q E h => ?_) (fun f cdv A outer s H vs Q E hr h tk => ?_) (fun u ws => u :: ws) .cons (fun kV doc pm an cdv ct u ws hl => match ws, hl with | [_], _ => rfl) (fun x zs H Q E h => ⟨by
    obtain ⟨o, dx, l, m, n, ns, e, _⟩ := h
    cases e
    rfl, h⟩)
  · obtain ⟨o, dx, l, m, n, ns, rfl, _⟩ := h
    rfl
  · obtain ⟨o, dx, l, m, n, ns, rfl, ho, hl, ⟨hm, q, qe⟩⟩ := h
    obtain ⟨cl, nH, nA⟩ := hi
    refine ⟨_, (pss_cons (ps_expr (pe_cx c_check_lengthX hr (by first | decide | omega) tk (by rfl) (pa_cons (pv 1) pa_nil)))
  (pss_cons (ps_set (i := 2) sc_HiddenList_ask.nd rfl (Or.inl rfl) (pe_c c_squeezed hr (by first | decide | omega) (by rfl) (pa_cons (pv 1) (pa_cons (pe_fldK (K := K) (pv 0)) pa_nil))))
  (pss_cons (ps_fldaugK (K := K) (pv 0) pe_int in_add)
  (pss_one (ps_ret (pv 2)))))), ?_⟩
    walk_at "sq go"
    refine ⟨fun h0 => ?_, fun h0 d H1 s1 hd => qe h0 d H1 s1 hd⟩
    walk_at "sq go"
    refine ⟨⟨h0, hm⟩, fun H1 s1 => ?_⟩
    have ho1 := Same.get s1 ho
    walk_at "sq go"
    rw [hf_put]
    exact q h0 _ ((But.of s1).trans But.put) upd_same

abbrev s_greatest_origin_of : Stmt := topS 16
theorem sc_greatest_origin_of : FnScope ["length", "replacements", "replacement"] ["length", "replacements"] (defScope s_greatest_origin_of) := ⟨rfl, rfl, rfl, by decide +kernel, rfl, by decide +kernel, by decide +kernel⟩

/-- sizes of a length and a list's numbers -/
def FitP (ns : List Int) (m : Int) : Prop := ∃ b c : Nat, (∀ k ∈ ns, Sm b k) ∧ Sm c m ∧ 10 ≤ b ∧ 10 ≤ c ∧ c + (ns.length + 1) * b ≤ 900000
theorem sm_prod {b c : Nat} {m : Int} : ∀ {ns : List Int}, (∀ k ∈ ns, Sm b k) → Sm c m → Sm (c + ns.length * b) (m * prodL ns)
  | [], _, h => by simpa [prodL] using h
  | k :: r, hb, h => by
    have ih := sm_prod (ns := r) (m := m * k) (c := c + b) (fun j hj => hb j (List.mem_cons_of_mem _ hj)) (h.mul (hb k (List.mem_cons_self ..)))
    rw [prodL_cons, ← Int.mul_assoc, List.length_cons, Nat.add_mul, Nat.one_mul, show c + (r.length * b + b) = c + b + r.length * b by omega]
    exact ih
def spGO (K : PySem.W.Frag) : Sp := fun vs H Q _ => ∃ (n : Int) (p : Addr) (ns : List Int), vs = [.int n, .ref p] ∧ SqL K H p (iv ns) ∧ Keep (FitP ns n) ∧ Q (.int (n * prodL ns)) H
theorem prod_take {row : List Int} {k : Int} {i : Nat} (h : row[i]? = some k) (n : Int) : n * prodL (row.take (i + 1)) = n * prodL (row.take i) * k := by
  rw [List.take_add_one, h]
  show n * prodL (row.take i ++ [k]) = _
  rw [prodL_snoc, Int.mul_assoc]
theorem cal_greatest_origin_of (D : DefAt K mg "greatest_origin_of" s_greatest_origin_of ["length", "replacements"]) (B : Bt mg) : Cal P w K mg base 1 "greatest_origin_of" (spGO K) [] := by
  refine D.cal sc_greatest_origin_of (fun vs H Q E h => ?_) (fun f cdv A outer s H vs Q E hr h => ?_)
  · obtain ⟨n, p, ns, rfl, _⟩ := h
    rfl
  · obtain ⟨n, p, ns, rfl, hS, ⟨b, c, hb, hc, h10, hc10, hz⟩, q⟩ := h
    refine ⟨_, (pss_cons (ps_for PassesOwn.never rfl (pi_listK (K := K) (pv 1)) (pg_name (i := 2) sc_greatest_origin_of.nd rfl (Or.inl rfl))
   (pss_one (ps_aug (i := 0) sc_greatest_origin_of.nd rfl (Or.inl rfl) (pv 2) ip_mulW)))
  (pss_one (ps_ret (pv 0)))), ?_⟩
    walk_at "sq go"
    refine for_list (K := K) (a := p) (xs := iv ns) (fun i σ H' => Keep (∃ x, σ = [some (.int (n * prodL (ns.take i))), some (.ref p), x] ∧ H' = H)) ⟨none, by simp [prodL, L2.start], rfl⟩ (fun i σ H' _ h => ?_) (fun i x σ H' hx h => ?_) (fun σ H' h => ?_)
    · obtain ⟨x, _, rfl⟩ := h.o
      exact hS
    · obtain ⟨x, rfl, rfl⟩ := h.o
      obtain ⟨k, hk, rfl⟩ := iv_get hx
      have s1 := sm_prod (ns := ns.take i) (fun j hj => hb j (List.mem_of_mem_take hj)) hc
      have len : (ns.take i).length ≤ ns.length := by
        rw [List.length_take]
        omega
      have le := Nat.mul_le_mul_right b len
      have wm : CMulW (n * prodL (ns.take i)) k := s1.wide (hb k (List.mem_of_getElem? hk)) (by omega) (by omega) (by
        rw [Nat.add_mul] at hz
        omega)
      walk_at "sq go"
      exact ⟨_, by rw [prod_take hk]; rfl, rfl⟩
    · obtain ⟨x, rfl, rfl⟩ := h.o
      have e : (iv ns).length = ns.length := iv_len _
      rw [e, List.take_length]
      walk_at "sq go"
      exact q
abbrev s_greatest_origin : Stmt := topS 17
theorem sc_greatest_origin : FnScope ["length", "replacements"] ["length", "replacements"] (defScope s_greatest_origin) := ⟨rfl, rfl, rfl, by decide +kernel, rfl, by decide +kernel, by decide +kernel⟩

def spGOrigin (K : PySem.W.Frag) : Sp := fun vs H Q _ => ∃ (n : Int) (p : Addr) (ns : List Int), vs = [.int n, .ref p] ∧ SqL K H p (iv ns) ∧ Keep (0 ≤ n ∧ Two ns ∧ FitP ns n) ∧ ∀ H', Same H H' → Q (.int (n * prodL ns)) H'
theorem cal_greatest_origin (D : DefAt K mg "greatest_origin" s_greatest_origin ["length", "replacements"]) (B : Bt mg) (c_check_length : Cal P w K mg base 3 "check_length" spCheckLength []) (c_check_list : Cal P w K mg base 3 "check_list" (spCheckList K) [])
    (c_greatest_origin_of : Cal P w K mg base 1 "greatest_origin_of" (spGO K) []) : Cal P w K mg base 4 "greatest_origin" (spGOrigin K) [] := by
  refine D.cal sc_greatest_origin (fun vs H Q E h => ?_) (fun f cdv A outer s H vs Q E hr h => ?_)
  · obtain ⟨n, p, ns, rfl, _⟩ := h
    rfl
  · obtain ⟨n, p, ns, rfl, hS, ⟨h0, h2, hf⟩, q⟩ := h
    refine ⟨_, (pss_cons (ps_expr (pe_c c_check_length hr (by first | decide | omega) (by rfl) (pa_cons (pv 0) pa_nil)))
  (pss_cons (ps_expr (pe_c c_check_list hr (by first | decide | omega) (by rfl) (pa_cons (pv 1) pa_nil)))
  (pss_one (ps_ret (pe_c c_greatest_origin_of hr (by first | decide | omega) (by rfl) (pa_cons (pv 0) (pa_cons (pv 1) pa_nil))))))), ?_⟩
    walk_at "sq go"
    refine ⟨⟨h0⟩, ?_⟩
    walk_at "sq go"
    refine ⟨⟨h2⟩, fun H1 s1 => ?_⟩
    have hS1 := s1.seq hS
    walk_at "sq go"
    exact ⟨⟨hf⟩, q H1 s1⟩

/-! ### the source of draws: a list of three ints -/
abbrev s_law_draw : Stmt := topS 20
theorem sc_law_draw : FnScope ["pool", "many", "drawn", "mixed"] ["pool", "many"] (defScope s_law_draw) := ⟨rfl, rfl, rfl, by decide +kernel, rfl, by decide +kernel, by decide +kernel⟩

theorem cal_draw (D : DefAt K mg "_law_draw" s_law_draw ["pool", "many"]) (B : Bt mg) : Cal P w K mg base 1 "_law_draw" spDraw3 [] := by
  refine D.cal sc_law_draw (fun vs H Q E h => ?_) (fun f cdv A outer s H vs Q E hr h => ?_)
  · obtain ⟨r, m, N, G, rfl, _⟩ := h
    rfl
  · obtain ⟨r, m, N, G, rfl, hS, ⟨hm, hmb, hN⟩, q⟩ := h
    obtain ⟨a, b, c, gr, a0, b0, b1, c0, c1⟩ := id hS.inv
    have cm : CDivW a m := div_ok hm hmb
    refine ⟨_, (pss_cons (ps_if (pt_cmpR op_gt (pe_ix (ix_listK (K := K)) (pv 0) pe_int (fun _ _ => rfl)) pe_int (nomark _)) (pss_cons (ps_set (i := 2) sc_law_draw.nd rfl (Or.inl rfl) (pe_op op_mod (pe_ix (ix_listK (K := K)) (pv 0) pe_int (fun _ _ => rfl)) (pv 1)))
  (pss_cons (ps_asg (pe_op op_fdivW (pe_ix (ix_listK (K := K)) (pv 0) pe_int (fun _ _ => rfl)) (pv 1)) (pg_sub (pv 0) pe_int set_list))
  (pss_one (ps_ret (pv 2))))) pss_nil)
  (pss_cons (ps_asg (pe_op op_add (pe_ix (ix_listK (K := K)) (pv 0) pe_int (fun _ _ => rfl)) pe_int) (pg_sub (pv 0) pe_int set_list))
  (pss_cons (ps_set (i := 3) sc_law_draw.nd rfl (Or.inl rfl) (pe_op op_mod (pe_op op_powW (pe_op op_add (pe_ix (ix_listK (K := K)) (pv 0) pe_int (fun _ _ => rfl)) (pe_op op_mulW pe_int (pe_ix (ix_listK (K := K)) (pv 0) pe_int (fun _ _ => rfl)))) pe_int) pe_int))
  (pss_cons (ps_set (i := 3) sc_law_draw.nd rfl (Or.inl rfl) (pe_op op_mod (pe_op op_powW (pe_op op_add (pv 3) (pe_op op_mulW pe_int (pe_ix (ix_listK (K := K)) (pv 0) pe_int (fun _ _ => rfl)))) pe_int) pe_int))
  (pss_one (ps_ret (pe_op op_mod (pe_op op_fdivW (pv 3) pe_int) (pv 1)))))))), ?_⟩
    have k1 : Sm 62 (c + 1) := by unfold Sm; omega
    have k2 : Sm 30 (15493301) := by unfold Sm; decide
    have k3 : Sm 25 (32454031) := by unfold Sm; decide
    have w1 : CMulW (15493301) (c + 1) := k2.wide k1 (by decide) (by decide) (by decide)
    have w2 : CMulW (32454031) (c + 1) := k3.wide k1 (by decide) (by decide) (by decide)
    have s1 : Sm 101 (b + 15493301 * (c + 1)) := (show Sm 100 b by unfold Sm; omega).add ((k2.mul k1).mono (by decide))
    have p1 : CPowW (b + 15493301 * (c + 1)) 3 := pow_ok s1 (by decide) (by decide) (by decide) (by decide)
    have p2 : ∀ y : Int, CPowW (y % 162259276829213363391578010288127 + 32454031 * (c + 1)) 5 := fun y => by
      have y0 := Int.emod_nonneg y (show (162259276829213363391578010288127 : Int) ≠ 0 by decide)
      have y1 := Int.emod_lt_of_pos y (show (0 : Int) < 162259276829213363391578010288127 by decide)
      exact pow_ok ((show Sm 107 (y % 162259276829213363391578010288127) by unfold Sm; omega).add ((k3.mul k1).mono (by decide))) (by decide) (by decide) (by decide) (by decide)
    have p3 := p2 ((b + 15493301 * (c + 1)) ^ (3 : Int).toNat)
    have v0 : ∀ y : Int, 0 ≤ y % m := fun y => Int.emod_nonneg y (show m ≠ 0 by omega)
    have v1 : ∀ y : Int, y % m < m := fun y => Int.emod_lt_of_pos y hm
    walk_at "sq go"
    refine ifD (fun h => ?_) (fun h => ?_)
    · walk_at "sq go"
      exact q _ _ (v0 _) (v1 _) (Sep3.redo hS ⟨a / m, b, c, upd_same, Int.ediv_nonneg a0 (by omega), b0, b1, c0, by omega⟩)
    · walk_at "sq go"
      exact q _ _ (v0 _) (v1 _) (Sep3.redo hS ⟨a, b, c + 1, upd_same, a0, b0, b1, by omega, by omega⟩)

abbrev s_law_pool : Stmt := topS 19
theorem sc_law_pool : FnScope ["script", "at", "cell"] ["script", "at"] (defScope s_law_pool) := ⟨rfl, rfl, rfl, by decide +kernel, rfl, by decide +kernel, by decide +kernel⟩

def spPool (K : PySem.W.Frag) : Sp := fun vs H Q _ => ∃ (p : Addr) (ns : List Int) (i : Int), vs = [.ref p, .int i] ∧ SqL K H p (iv ns) ∧ Keep (0 ≤ i ∧ i < 100) ∧ ∀ r H', Same H H' → Sep (rg3 r 0) H H' → Q (.ref r) H'
theorem cal_pool (D : DefAt K mg "_law_pool" s_law_pool ["script", "at"]) (B : Bt mg) : Cal P w K mg base 1 "_law_pool" (spPool K) [] := by
  refine D.cal sc_law_pool (fun vs H Q E h => ?_) (fun f cdv A outer s H vs Q E hr h => ?_)
  · obtain ⟨p, ns, i, rfl, _⟩ := h
    rfl
  · obtain ⟨p, ns, i, rfl, hS, ⟨i0, i1⟩, q⟩ := h
    refine ⟨_, (pss_cons (ps_set (i := 2) sc_law_pool.nd rfl (Or.inl rfl) pe_int)
  (pss_cons (ps_if (pt_cmpR op_lt (pv 1) (pe_callB (len_seqK (K := K)) (by rfl) B.len boot_len (pa_cons (pv 0) pa_nil)) (nomark _)) (pss_one (ps_set (i := 2) sc_law_pool.nd rfl (Or.inl rfl) (pe_ix (ix_listK (K := K)) (pv 0) (pv 1) (fun _ _ => rfl)))) pss_nil)
  (pss_one (ps_ret (pe_lst (pa_cons (pe_callB (call_max2 rfl) (by rfl) B.max (by decide +kernel) (pa_cons pe_int (pa_cons (pe_op op_sub (pe_callB call_abs (by rfl) B.abs (by decide +kernel) (pa_cons (pv 2) pa_nil)) (pe_op op_powW pe_int pe_int)) pa_nil))) (pa_cons (pe_op op_add (pe_op op_mod (pv 2) pe_int) (pe_op op_mulW pe_int (pe_op op_add (pv 1) pe_int))) (pa_cons pe_int pa_nil)))))))), ?_⟩
    have wm : CMulW 3367900279 (i + 1) := Sm.wide (a := 32) (b := 10) (by unfold Sm; decide) (by unfold Sm; omega) (by decide) (by decide) (by decide)
    have el : (iv ns).length = ns.length := iv_len _
    have last : ∀ c d : Int, 0 ≤ d → ∀ r : Addr, H r = none → Q (.ref r) (upd H r (.lst [.int d, .int (c % 2305843009213693951 + 3367900279 * (i + 1)), .int 0])) := fun c d d0 r nr => by
      have y0 := Int.emod_nonneg c (show (2305843009213693951 : Int) ≠ 0 by decide)
      have y1 := Int.emod_lt_of_pos c (show (0 : Int) < 2305843009213693951 by decide)
      exact q r _ (same_new nr) ⟨⟨_, _, _, upd_same, d0, by omega, by omega, by decide, by decide⟩, same_new nr, fun x hx => by rw [show x = r from hx]; exact nr⟩
    walk_at "sq go"
    refine ifD (fun h => ?_) (fun h => ?_)
    · obtain ⟨n, gx⟩ := atI_iv (ns := ns) i0 (by omega)
      walk_at "sq go"
      exact last n _ (by split <;> omega)
    · walk_at "sq go"
      exact last 0 _ (by split <;> omega)

abbrev s_law_list : Stmt := topS 21
theorem sc_law_list : FnScope ["pool", "most", "far", "found", "turn", "wide"] ["pool", "most", "far"] (defScope s_law_list) := ⟨rfl, rfl, rfl, by decide +kernel, rfl, by decide +kernel, by decide +kernel⟩

/-- replacements from 2 to wide -/
def Row (ns : List Int) (wide : Int) : Prop := ∀ k ∈ ns, (2 : Int) ≤ k ∧ k ≤ wide
theorem Row.two {ns : List Int} {w : Int} (h : Row ns w) : Two ns := fun k hk => (h k hk).1
theorem Row.mid {ns : List Int} {w : Int} (h : Row ns w) (hw : w < 2 ^ 240) : Mid ns := fun k hk => ⟨(h k hk).1, Int.lt_of_le_of_lt (h k hk).2 hw⟩
theorem Row.mono {ns : List Int} {w w' : Int} (h : Row ns w) (hw : w ≤ w') : Row ns w' := fun k hk => ⟨(h k hk).1, Int.le_trans (h k hk).2 hw⟩
theorem Row.nil (w : Int) : Row [] w := fun _ z => nomatch z
theorem Row.snoc {ns : List Int} {w v : Int} (h : Row ns w) (v2 : 2 ≤ v) (vw : v ≤ w) : Row (ns ++ [v]) w := fun k hk => by
  rcases List.mem_append.mp hk with z | z
  · exact h k z
  · rw [List.mem_singleton.mp z]
    exact ⟨v2, vw⟩
def spList3 : Sp := fun vs H Q _ => ∃ (r : Addr) (most far N : Int) (G : Hp), vs = [.ref r, .int most, .int far] ∧ Sep (rg3 r N) G H ∧ Keep (0 ≤ most ∧ most ≤ 1000 ∧ 2 ≤ far ∧ far < 2 ^ 100 ∧ N < 2 ^ 59) ∧
  ∀ p ns H', G p = none → ns.length ≤ most.toNat → Row ns far → Sep (rg3 r (N + 2 * most + 1)) (upd G p (.lst (iv ns))) H' → Q (.ref p) H'
theorem cal_list (D : DefAt K mg "_law_list" s_law_list ["pool", "most", "far"]) (B : Bt mg) (c_law_draw : Cal P w K mg base 1 "_law_draw" spDraw3 []) : Cal P w K mg base 2 "_law_list" spList3 [] := by
  refine D.cal sc_law_list (fun vs H Q E h => ?_) (fun f cdv A outer s H vs Q E hr h => ?_)
  · obtain ⟨r, most, far, N, G, rfl, _⟩ := h
    rfl
  · obtain ⟨r, most, far, N, G, rfl, hS, ⟨m0, m1, f2, fb, hN⟩, q⟩ := h
    refine ⟨_, (pss_cons (ps_set (i := 3) sc_law_list.nd rfl (Or.inl rfl) (pe_lst pa_nil))
  (pss_cons (ps_for PassesOwn.never rfl (pi_range1 (by rfl) B.range (pa_cons (pe_c c_law_draw hr (by first | decide | omega) (by rfl) (pa_cons (pv 0) (pa_cons (pe_op op_add (pv 1) pe_int) pa_nil))) pa_nil)) (pg_name (i := 4) sc_law_list.nd rfl (Or.inl rfl))
   (pss_cons (ps_set (i := 5) sc_law_list.nd rfl (Or.inl rfl) (pe_callB (call_min2 rfl) (by rfl) B.min (by decide +kernel) (pa_cons (pe_op op_sub (pv 2) pe_int) (pa_cons (pe_ix (ix_listK (K := K)) (pe_lst (pa_cons pe_int (pa_cons pe_int (pa_cons pe_int (pa_cons (pe_op op_sub (pv 2) pe_int) pa_nil))))) (pe_c c_law_draw hr (by first | decide | omega) (by rfl) (pa_cons (pv 0) (pa_cons pe_int pa_nil))) (fun _ _ => rfl)) pa_nil))))
  (pss_one (ps_expr (pe_bm PySem.F.plainAttrs_list PySem.F.slot_list_append PySem.F.type_list_append mt_append (pv 3) (pa_cons (pe_op op_add pe_int (pe_c c_law_draw hr (by first | decide | omega) (by rfl) (pa_cons (pv 0) (pa_cons (pv 5) pa_nil)))) pa_nil))))))
  (pss_one (ps_ret (pv 3))))), ?_⟩
    walk_at "sq go"
    intro p np
    have gp : G p = none := hS.free np
    have hS1 := hS.new np (.lst [])
    walk_at "sq go"
    refine ⟨⟨by omega, by omega, by omega⟩, fun tn H2 t0 t1 hS2 => ?_⟩
    walk_at "sq go"
    refine for_range (lo := 0) (n := tn.toNat) (fun i σ H' => Keep (∃ ns x y, σ = [some (.ref r), some (.int most), some (.int far), some (.ref p), x, y] ∧ Sep (rg3 r (N + 1 + 2 * i)) (upd G p (.lst (iv ns))) H' ∧ ns.length = i ∧ Row ns far))
      ⟨[], none, none, rfl, Sep3.mono hS2 (by omega), rfl, Row.nil _⟩ (fun i σ H' hi h => ?_) (fun σ H' h => ?_)
    · obtain ⟨ns, x, y, rfl, hs, hl, hrow⟩ := h.o
      walk_at "sq go"
      intro e ne
      have hs1 := hs.on (same_new (o := .lst [.int 2, .int 5, .int 30, .int (far - 1)]) ne)
      have ge : upd H' e (.lst [.int 2, .int 5, .int 30, .int (far - 1)]) e = some (.lst [.int 2, .int 5, .int 30, .int (far - 1)]) := upd_same
      have hs1' := hs.new (o := .lst [.int 2, .int 5, .int 30, .int (far - 1)]) ne
      walk_at "sq go"
      refine ⟨⟨by omega, by omega, by omega⟩, fun wy K1 w0 w1 hs2 => ?_⟩
      have npe : p ≠ e := fun z => by
        have := hs.free ne
        rw [← z, upd_same] at this
        cases this
      have ge2 : K1 e = some (.lst [.int 2, .int 5, .int 30, .int (far - 1)]) := hs2.get upd_same
      have pick : ∃ v, atI [V.int 2, V.int 5, V.int 30, V.int (far - 1)] wy = some (.int v) ∧ 1 ≤ v := by
        rcases (show wy = 0 ∨ wy = 1 ∨ wy = 2 ∨ wy = 3 by omega) with z | z | z | z <;> rw [z]
        · exact ⟨_, atI_nat (j := 0) rfl, by omega⟩
        · exact ⟨_, atI_nat (j := 1) rfl, by omega⟩
        · exact ⟨_, atI_nat (j := 2) rfl, by omega⟩
        · exact ⟨_, atI_nat (j := 3) rfl, by omega⟩
      obtain ⟨v, ev, v1⟩ := pick
      walk_at "sq go"
      refine ⟨⟨by split <;> omega, by split <;> omega, by omega⟩, fun b K2 b0 b1 hs3 => ?_⟩
      have hb : 2 + b ≤ far := by
        split at b1 <;> omega
      have hp : K2 p = some (.lst (iv ns)) := hs3.get (upd_off npe upd_same)
      have hs4 := (hs3.weak (same_new (o := .lst [.int 2, .int 5, .int 30, .int (far - 1)]) (hs.free ne))).put upd_same (.lst (iv ns ++ [.int (2 + b)]))
      rw [upd_upd, iv_app] at hs4
      walk_at "sq go"
      rw [iv_app]
      exact ⟨ns ++ [2 + b], _, _, rfl, Sep3.mono hs4 (by omega), by simp [hl], hrow.snoc (by omega) hb⟩
    · obtain ⟨ns, x, y, rfl, hs, hl, hrow⟩ := h.o
      walk_at "sq go"
      exact q p ns H' gp (by omega) hrow (Sep3.mono hs (by omega))

abbrev s_law_after : Stmt := topS 22
theorem sc_law_after : FnScope ["long", "numbers", "number"] ["long", "numbers"] (defScope s_law_after) := ⟨rfl, rfl, rfl, by decide +kernel, rfl, by decide +kernel, by decide +kernel⟩

def spAfter (K : PySem.W.Frag) : Sp := fun vs H Q _ => ∃ (n : Int) (p : Addr) (ns : List Int), vs = [.int n, .ref p] ∧ SqL K H p (iv ns) ∧ Keep (Mid ns) ∧ Q (.int (sqz n ns)) H
theorem cal_after (D : DefAt K mg "_law_after" s_law_after ["long", "numbers"]) (B : Bt mg) : Cal P w K mg base 1 "_law_after" (spAfter K) [] := by
  refine D.cal sc_law_after (fun vs H Q E h => ?_) (fun f cdv A outer s H vs Q E hr h => ?_)
  · obtain ⟨n, p, ns, rfl, _⟩ := h
    rfl
  · obtain ⟨n, p, ns, rfl, hS, ⟨hm⟩, q⟩ := h
    refine ⟨_, (pss_cons (ps_for PassesOwn.never rfl (pi_listK (K := K) (pv 1)) (pg_name (i := 2) sc_law_after.nd rfl (Or.inl rfl))
   (pss_one (ps_set (i := 0) sc_law_after.nd rfl (Or.inl rfl) (pe_op op_add (pe_op op_fdivW (pv 0) (pv 2)) (pe_op op_mod (pv 0) (pv 2))))))
  (pss_one (ps_ret (pv 0)))), ?_⟩
    walk_at "sq go"
    refine for_list (K := K) (a := p) (xs := iv ns) (fun i σ H' => Keep (∃ x, σ = [some (.int (sqz n (ns.take i))), some (.ref p), x] ∧ H' = H)) ⟨none, rfl, rfl⟩ (fun i σ H' _ h => ?_) (fun i x σ H' hx h => ?_) (fun σ H' h => ?_)
    · obtain ⟨x, _, rfl⟩ := h.o
      exact hS
    · obtain ⟨x, rfl, rfl⟩ := h.o
      obtain ⟨k, hk, rfl⟩ := iv_get hx
      have mk := hm k (List.mem_of_getElem? hk)
      have c : CDivW (sqz n (ns.take i)) k := div_ok (by omega) mk.2
      walk_at "sq go"
      exact ⟨_, by rw [sqz_take hk]; rfl, rfl⟩
    · obtain ⟨x, rfl, rfl⟩ := h.o
      have e : (iv ns).length = ns.length := iv_len _
      rw [e, List.take_length]
      walk_at "sq go"
      exact q

/-! ### the kind of a kept exception -/
structure Knd (K : PySem.W.Frag) (CL CN CC CU CR CS C : Addr) (b1 b2 b3 b4 b5 : Bool) : Prop where
  ec : ExcC K C
  xf : XfC K C
  nv : PySem.W.findIn K (.ref C) "value" = some none
  k1 : PySem.W.kitOne K (.ref C) (.ref CL) = some b1
  k2 : PySem.W.kitOne K (.ref C) (.ref CN) = some b2
  k3 : PySem.W.kitOne K (.ref C) (.ref CC) = some b3
  k4 : PySem.W.kitOne K (.ref C) (.ref CU) = some b4
  k5 : PySem.W.kitOne K (.ref C) (.ref CR) = some b5
  kS : PySem.W.kitOne K (.ref C) (.ref CS) = some true
  kV : PySem.W.kitOne K (.ref C) (.type "ValueError") = some true
  ex : PySem.W.exmOne K (.ref C) (.ref CS) = some true
theorem knd_mk {h : Heap} {CL CN CC CU CR CS C : Addr} {b1 b2 b3 b4 b5 : Bool} {y y1 y2 y3 y4 y5 y6 : Str} (_ : K.In h) (_ : mg y = some (.ref C)) (_ : mg y1 = some (.ref CL)) (_ : mg y2 = some (.ref CN)) (_ : mg y3 = some (.ref CC)) (_ : mg y4 = some (.ref CU)) (_ : mg y5 = some (.ref CR)) (_ : mg y6 = some (.ref CS))
    (hg : PySem.W.findIn K (.ref C) "__getattribute__" = some (some (.builtin "BaseException.__getattribute__"))) (hk : PySem.W.findIn K (.ref C) "__getattr__" = some none) (hs : PySem.W.subIn K (.ref C) (.type "BaseException") = some true) (hd : PySem.W.hasDictIn K C = true)
    (ha : PySem.W.findIn K (.ref C) "__class__" = some (some (.builtin "object.__class__"))) (hn : PySem.W.specialIn K (.builtin "object.__class__") "__get__" = some (some (.builtin "getset_descriptor.__get__"))) (ht : PySem.W.takesIn K (.builtin "object.__class__") = some true) (hm : PySem.W.mroIn K C (.type "object") = some true)
    (nv : PySem.W.findIn K (.ref C) "value" = some none) (k1 : PySem.W.kitOne K (.ref C) (.ref CL) = some b1) (k2 : PySem.W.kitOne K (.ref C) (.ref CN) = some b2) (k3 : PySem.W.kitOne K (.ref C) (.ref CC) = some b3) (k4 : PySem.W.kitOne K (.ref C) (.ref CU) = some b4) (k5 : PySem.W.kitOne K (.ref C) (.ref CR) = some b5)
    (kS : PySem.W.kitOne K (.ref C) (.ref CS) = some true) (kV : PySem.W.kitOne K (.ref C) (.type "ValueError") = some true) (x1 : PySem.W.subIn K (.ref CS) (.type "BaseException") = some true) (x2 : PySem.W.isClsIn K CS = true) (x3 : PySem.W.typeIn K (.ref CS) = some (.type "type")) (x4 : PySem.W.subIn K (.ref C) (.ref CS) = some true) : Knd K CL CN CC CU CR CS C b1 b2 b3 b4 b5 :=
  ⟨⟨hg, hk, hs, hd, ha, hn, ht, hm⟩, ⟨hg, hk, hs, hd⟩, nv, k1, k2, k3, k4, k5, kS, kV, exm_mk x1 x2 x3 x4⟩
structure Cls6 (mg : Str → Option Value) (CL CN CC CU CR CS : Addr) : Prop where
  l : mg "InvalidList" = some (.ref CL)
  n : mg "InvalidNumber" = some (.ref CN)
  c : mg "InvalidCharacter" = some (.ref CC)
  u : mg "NothingToUndo" = some (.ref CU)
  r : mg "Unreadable" = some (.ref CR)
  s : mg "SqueezeError" = some (.ref CS)
local macro_rules | `(tactic| walk_at "sq side") => `(tactic| first
  | ((with_reducible show ExcC _ _); assumption)
  | ((with_reducible show XfC _ _); assumption)
  | ((with_reducible show Kept _ _ _ _); assumption)
  | ((with_reducible show PySem.W.kitOne _ _ _ = some _); assumption)
  | ((with_reducible show PySem.W.findIn _ _ _ = some _); assumption)
  | ((with_reducible show _ → _ → _ → _ → _ = false); assumption)
  | ((with_reducible show _[_]? = some _); assumption))
abbrev s_law_kind : Stmt := topS 23
theorem sc_law_kind : FnScope ["caught", "some"] ["caught"] (defScope s_law_kind) := ⟨rfl, rfl, rfl, by decide +kernel, rfl, by decide +kernel, by decide +kernel⟩

def spKind (K : PySem.W.Frag) (CL CN CC CU CR CS : Addr) : Sp := fun vs H Q _ => ∃ (a C : Addr) (fs : List (Str × V)) (b1 b2 b3 b4 b5 : Bool) (j : Nat) (s : Str), vs = [.ref a] ∧ Kept H a C fs ∧
  Keep (Knd K CL CN CC CU CR CS C b1 b2 b3 b4 b5 ∧ ([V.bl b1, .bl b2, .bl b3] ++ [V.bl b4, .bl b5]).countP (fun z => eqV z (.bl true)) = 1 ∧ ([V.bl b1, .bl b2, .bl b3] ++ [V.bl b4, .bl b5])[j]? = some (.bl true) ∧
    (∀ (m : Nat) (z : V), m < j → ([V.bl b1, .bl b2, .bl b3] ++ [V.bl b4, .bl b5])[m]? = some z → eqV z (.bl true) = false) ∧ ([V.str "list", .str "number", .str "character", .str "undo", .str "read"])[j]? = some (.str s)) ∧
  ∀ H', Same H H' → Q (.str s) H'
theorem cal_kind {CL CN CC CU CR CS : Addr} (D : DefAt K mg "_law_kind" s_law_kind ["caught"]) (B : Bt mg) (c6 : Cls6 mg CL CN CC CU CR CS) : Cal P w K mg base 1 "_law_kind" (spKind K CL CN CC CU CR CS) [] := by
  refine D.cal sc_law_kind (fun vs H Q E h => ?_) (fun f cdv A outer s H vs Q E hr h => ?_)
  · obtain ⟨a, C, fs, b1, b2, b3, b4, b5, j, s, rfl, _⟩ := h
    rfl
  · obtain ⟨a, C, fs, b1, b2, b3, b4, b5, j, s, rfl, ka, ⟨⟨ec, xf, nv, k1, k2, k3, k4, k5, kS, kV, ex⟩, one, hj, hb, hs⟩, q⟩ := h
    obtain ⟨m_InvalidList, m_InvalidNumber, m_InvalidCharacter, m_NothingToUndo, m_Unreadable, m_SqueezeError⟩ := c6
    refine ⟨_, (pss_cons (ps_set (i := 1) sc_law_kind.nd rfl (Or.inl rfl) (pe_lst (pa_cons (pe_callB (call_isX (K := K)) (by rfl) B.isinstance (by decide +kernel) (pa_cons (pv 0) (pa_cons (pe_glob (v := .ref _) (by rfl) m_InvalidList rfl) pa_nil))) (pa_cons (pe_callB (call_isX (K := K)) (by rfl) B.isinstance (by decide +kernel) (pa_cons (pv 0) (pa_cons (pe_glob (v := .ref _) (by rfl) m_InvalidNumber rfl) pa_nil))) (pa_cons (pe_callB (call_isX (K := K)) (by rfl) B.isinstance (by decide +kernel) (pa_cons (pv 0) (pa_cons (pe_glob (v := .ref _) (by rfl) m_InvalidCharacter rfl) pa_nil))) pa_nil)))))
  (pss_cons (ps_set (i := 1) sc_law_kind.nd rfl (Or.inl rfl) (pe_op op_cat (pv 1) (pe_lst (pa_cons (pe_callB (call_isX (K := K)) (by rfl) B.isinstance (by decide +kernel) (pa_cons (pv 0) (pa_cons (pe_glob (v := .ref _) (by rfl) m_NothingToUndo rfl) pa_nil))) (pa_cons (pe_callB (call_isX (K := K)) (by rfl) B.isinstance (by decide +kernel) (pa_cons (pv 0) (pa_cons (pe_glob (v := .ref _) (by rfl) m_Unreadable rfl) pa_nil))) pa_nil)))))
  (pss_cons (ps_if (PW.pt (pw_or (pt_not (pt_val (pe_callB (call_isX (K := K)) (by rfl) B.isinstance (by decide +kernel) (pa_cons (pv 0) (pa_cons (pe_glob (v := .ref _) (by rfl) m_SqueezeError rfl) pa_nil))))) (pw_or (pt_not (pt_val (pe_callB (call_isX (K := K)) (by rfl) B.isinstance (by decide +kernel) (pa_cons (pv 0) (pa_cons (pe_bltn (v := .ty "ValueError") (by rfl) B.ValueError (by decide +kernel) rfl) pa_nil))))) (pw_or1 (pt_cmpR op_ne (pe_bm PySem.F.plainAttrs_list PySem.F.slot_list_count PySem.F.type_list_count mt_countF (pv 1) (pa_cons pe_bl pa_nil)) pe_int (nomark _)))))) (pss_one (ps_ret pe_str)) pss_nil)
  (pss_one (ps_ret (pe_ix (ix_listK (K := K)) (pe_lst (pa_cons pe_str (pa_cons pe_str (pa_cons pe_str (pa_cons pe_str (pa_cons pe_str pa_nil)))))) (pe_bm PySem.F.plainAttrs_list PySem.F.slot_list_index PySem.F.type_list_index mt_index (pv 1) (pa_cons pe_bl pa_nil)) (fun _ _ => rfl))))))), ?_⟩
    walk_at "sq go"
    intro e1 n1
    have s1 := same_new (o := .lst [.bl b1, .bl b2, .bl b3]) n1
    have ka1 := ka.same s1
    walk_at "sq go"
    intro e2 n2
    have s2 := same_new (o := .lst [.bl b4, .bl b5]) n2
    have g1 : upd (upd H e1 (.lst [.bl b1, .bl b2, .bl b3])) e2 (.lst [.bl b4, .bl b5]) e1 = some (.lst [.bl b1, .bl b2, .bl b3]) := upd_keep n2 upd_same
    walk_at "sq go"
    intro e3 n3
    have s3 := same_new (o := .lst ([V.bl b1, .bl b2, .bl b3] ++ [V.bl b4, .bl b5])) n3
    have ka3 := (ka1.same s2).same s3
    walk_at "sq go"
    refine ifN (fun c => absurd (by rw [one]; rfl) c) (fun _ => ?_)
    walk_at "sq go"
    intro e4 n4
    have s4 := same_new (o := .lst [V.str "list", .str "number", .str "character", .str "undo", .str "read"]) n4
    have hix := atI_nat hs
    have g3 := upd_keep (o := .lst [V.str "list", .str "number", .str "character", .str "undo", .str "read"]) n4 (L2.upd_same (a := e3) (o := .lst ([V.bl b1, .bl b2, .bl b3] ++ [V.bl b4, .bl b5])) (H := upd (upd H e1 (.lst [.bl b1, .bl b2, .bl b3])) e2 (.lst [.bl b4, .bl b5])))
    walk_at "sq go"
    exact q _ (s1.trans (s2.trans (s3.trans s4)))

/-! ### lists with bad numbers -/
theorem bad_ins (ns : List Int) (j : Nat) {v : Int} (hv : v < 2) : bad (ns.take j ++ [v] ++ ns.drop j) ≠ none := fun e => by
  have := bad_none.mp e v (by simp)
  omega
theorem iv_ins (ns : List Int) (j : Nat) (v : Int) : (iv ns).take j ++ [V.int v] ++ (iv ns).drop j = iv (ns.take j ++ [v] ++ ns.drop j) := by simp
theorem same_upd {G G' : Hp} {p : Addr} {u : HO} (h : Same G G') : Same (upd G p u) (upd G' p u) := fun b x e => by
  by_cases hb : b = p
  · rw [hb, upd_same] at e ⊢
    exact e
  · rw [upd_ne hb] at e ⊢
    exact h b x e
/-- what the places below 2 say of the first of them -/
def Lows (ns : List Int) (i : Nat) (acc : List Int) : Prop := acc.length ≤ i ∧ (∀ j, bad ns = some j → (i ≤ j → acc = []) ∧ (j < i → ∃ r, acc = (j : Int) :: r))
theorem bad_lt {ns : List Int} {j : Nat} (h : bad ns = some j) : j < ns.length ∧ (∀ k, ns[j]? = some k → k < 2) ∧ ∀ i : Nat, i < j → ∀ k, ns[i]? = some k → 2 ≤ k := by
  unfold bad at h
  rw [List.findIdx?_eq_some_iff_getElem] at h
  obtain ⟨lt, e, no⟩ := h
  refine ⟨lt, fun k hk => ?_, fun i hi k hk => ?_⟩
  · rw [List.getElem?_eq_getElem lt] at hk
    cases hk
    simpa using e
  · have z := no i hi
    rw [List.getElem?_eq_getElem (by omega)] at hk
    cases hk
    simpa using z
theorem Lows.zero (ns : List Int) : Lows ns 0 [] := ⟨Nat.le_refl _, fun j _ => ⟨fun _ => rfl, fun h => absurd h (by omega)⟩⟩
theorem Lows.hit {ns : List Int} {i : Nat} {acc : List Int} {k : Int} (h : Lows ns i acc) (hk : ns[i]? = some k) (c : k < 2) : Lows ns (i + 1) (acc ++ [(i : Int)]) := by
  refine ⟨by rw [List.length_append, List.length_singleton]; exact Nat.succ_le_succ h.1, fun j e => ?_⟩
  obtain ⟨a, b⟩ := h.2 j e
  obtain ⟨lt, at_, no⟩ := bad_lt e
  constructor
  · intro hj
    have := no i (by omega) k hk
    omega
  · intro hj
    by_cases z : j < i
    · obtain ⟨r, rfl⟩ := b z
      exact ⟨r ++ [(i : Int)], rfl⟩
    · have e2 : j = i := by omega
      rw [a (by omega), e2]
      exact ⟨[], rfl⟩
theorem Lows.miss {ns : List Int} {i : Nat} {acc : List Int} {k : Int} (h : Lows ns i acc) (hk : ns[i]? = some k) (c : ¬ k < 2) : Lows ns (i + 1) acc := by
  refine ⟨Nat.le_succ_of_le h.1, fun j e => ?_⟩
  obtain ⟨a, b⟩ := h.2 j e
  obtain ⟨lt, at_, no⟩ := bad_lt e
  have ne : j ≠ i := fun z => by
    subst z
    exact c (at_ k hk)
  exact ⟨fun hj => a (by omega), fun hj => b (by omega)⟩
abbrev s_law_bad_list : Stmt := topS 24
theorem sc_law_bad_list : FnScope ["pool", "numbers", "found", "turn", "one", "at"] ["pool", "numbers"] (defScope s_law_bad_list) := ⟨rfl, rfl, rfl, by decide +kernel, rfl, by decide +kernel, by decide +kernel⟩

def spBadList (K : PySem.W.Frag) : Sp := fun vs H Q _ => ∃ (r p : Addr) (ns : List Int) (N : Int) (G : Hp), vs = [.ref r, .ref p] ∧ Sep (rg3 r N) G H ∧ SqL K H p (iv ns) ∧ Keep (ns.length ≤ 1000 ∧ N < 2 ^ 59) ∧
  ∀ a t ms (i : Nat) H', G a = none → G t = none → a ≠ t → bad ms = some i → Sep (rg3 r (N + 10)) (upd (upd G a (.lst (iv ms))) t (.lst [.ref a, .int i])) H' → Q (.ref t) H'
theorem cal_bad_list (D : DefAt K mg "_law_bad_list" s_law_bad_list ["pool", "numbers"]) (B : Bt mg) (c_law_draw : Cal P w K mg base 1 "_law_draw" spDraw3 []) : Cal P w K mg base 2 "_law_bad_list" (spBadList K) [] := by
  refine D.cal sc_law_bad_list (fun vs H Q E h => ?_) (fun f cdv A outer s H vs Q E hr h => ?_)
  · obtain ⟨r, p, ns, N, G, rfl, _⟩ := h
    rfl
  · obtain ⟨r, p, ns, N, G, rfl, hS, hp, ⟨len, hN⟩, q⟩ := h
    refine ⟨_, (pss_cons (ps_set (i := 2) sc_law_bad_list.nd rfl (Or.inl rfl) (pe_callTy (list_ofK (K := K)) (by rfl) B.list (by decide +kernel) (pa_cons (pv 1) pa_nil)))
  (pss_cons (ps_for PassesOwn.never rfl (pi_range1 (by rfl) B.range (pa_cons (pe_op op_add pe_int (pe_c c_law_draw hr (by first | decide | omega) (by rfl) (pa_cons (pv 0) (pa_cons pe_int pa_nil)))) pa_nil)) (pg_name (i := 3) sc_law_bad_list.nd rfl (Or.inl rfl))
   (pss_cons (ps_set (i := 4) sc_law_bad_list.nd rfl (Or.inl rfl) (pe_ix (ix_listK (K := K)) (pe_lst (pa_cons pe_int (pa_cons pe_int (pa_cons (pe_un un_neg pe_int) (pa_cons (pe_op op_sub (pe_un un_neg pe_int) (pe_c c_law_draw hr (by first | decide | omega) (by rfl) (pa_cons (pv 0) (pa_cons (pe_op op_powW pe_int pe_int) pa_nil)))) pa_nil))))) (pe_c c_law_draw hr (by first | decide | omega) (by rfl) (pa_cons (pv 0) (pa_cons pe_int pa_nil))) (fun _ _ => rfl)))
  (pss_one (ps_expr (pe_bm PySem.F.plainAttrs_list PySem.F.slot_list_insert PySem.F.type_list_insert mt_insert (pv 2) (pa_cons (pe_c c_law_draw hr (by first | decide | omega) (by rfl) (pa_cons (pv 0) (pa_cons (pe_op op_add (pe_callB (len_seqK (K := K)) (by rfl) B.len boot_len (pa_cons (pv 2) pa_nil)) pe_int) pa_nil))) (pa_cons (pv 4) pa_nil)))))))
  (pss_one (ps_ret (pe_lst (pa_cons (pv 2) (pa_cons (pe_ix (ix_listK (K := K)) (pe_lc (own := [("at", 5), ("one", 4)]) (by rfl) sc_law_bad_list.nd (pi_enumK (K := K) (by rfl) B.enumerate (pa_cons (pv 2) pa_nil)) (blkOk_by (own := [("at", 5), ("one", 4)]) (N := ["pool", "numbers", "found", "turn", "one", "at"]) (sc := defScope s_law_bad_list) (by decide +kernel)) (fun _ _ _ _ _ => (pg_tupK (K := K) (n := 2) rfl (pgs_cons (pg_name (i := 5) sc_law_bad_list.nd rfl (Or.inl rfl)) (pgs_cons (pg_name (i := 4) sc_law_bad_list.nd rfl (Or.inl rfl)) pgs_nil)))) (fun _ _ _ _ _ => (pts_one (pt_cmpR op_lt (pv 4) pe_int (nomark _)))) (fun _ _ _ _ _ => (pv 5))) pe_int (fun _ _ => rfl)) pa_nil))))))), ?_⟩
    walk_at "sq go"
    intro l nl
    have gl := hS.free nl
    have hS1 := hS.new nl (.lst (iv ns))
    walk_at "sq go"
    refine ⟨⟨by omega, by omega, by omega⟩, fun tn H2 t0 t1 hS2 => ?_⟩
    walk_at "sq go"
    refine for_range (lo := 0) (n := (1 + tn).toNat) (fun i σ H' => Keep (∃ ms x y z, σ = [some (.ref r), some (.ref p), some (.ref l), x, y, z] ∧ Sep (rg3 r (N + 1 + 3 * i)) (upd G l (.lst (iv ms))) H' ∧ ms.length = ns.length + i ∧ (0 < i → bad ms ≠ none)))
      ⟨ns, none, none, none, rfl, Sep3.mono hS2 (by omega), rfl, fun z => absurd z (by omega)⟩ (fun i σ H' hi h => ?_) (fun σ H' h => ?_)
    · obtain ⟨ms, x, y, z, rfl, hs, hl, hb⟩ := h.o
      walk_at "sq go"
      refine ⟨⟨by decide, by decide, by omega⟩, fun low K1 w0 w1 hs1 => ?_⟩
      walk_at "sq go"
      intro e ne
      have ge := hs1.free ne
      have nle : l ≠ e := fun z => by
        rw [← z, upd_same] at ge
        cases ge
      have hs2 := hs1.new ne (.lst [.int 1, .int 0, .int (-1), .int (-1 - low)])
      walk_at "sq go"
      refine ⟨⟨by decide, by decide, by omega⟩, fun wy K2 y0 y1 hs3 => ?_⟩
      have ge3 : K2 e = some (.lst [.int 1, .int 0, .int (-1), .int (-1 - low)]) := hs3.get upd_same
      obtain ⟨v, ev, v1⟩ : ∃ v, atI [V.int 1, V.int 0, V.int (-1), V.int (-1 - low)] wy = some (.int v) ∧ v < 2 := by
        rcases (show wy = 0 ∨ wy = 1 ∨ wy = 2 ∨ wy = 3 by omega) with z | z | z | z <;> rw [z]
        · exact ⟨_, atI_nat (j := 0) rfl, by omega⟩
        · exact ⟨_, atI_nat (j := 1) rfl, by omega⟩
        · exact ⟨_, atI_nat (j := 2) rfl, by omega⟩
        · exact ⟨_, atI_nat (j := 3) rfl, by omega⟩
      have hs4 := hs3.weak (same_new (o := .lst [.int 1, .int 0, .int (-1), .int (-1 - low)]) ge)
      have hl4 := seqL_of (K := K) (hs4.get upd_same)
      have el : (iv ms).length = ms.length := iv_len _
      walk_at "sq go"
      refine ⟨⟨by omega, by omega, by omega⟩, fun at_ K3 a0 a1 hs5 => ?_⟩
      have hl5 := hs5.get upd_same
      walk_at "sq go"
      have hs6 := hs5.put upd_same (.lst (iv (ms.take at_.toNat ++ [v] ++ ms.drop at_.toNat)))
      rw [upd_upd] at hs6
      rw [iv_ins]
      refine ⟨_, _, _, _, rfl, Sep3.mono hs6 (by omega), ?_, fun _ => bad_ins _ _ v1⟩
      simp only [List.length_append, List.length_take, List.length_drop, List.length_singleton]
      omega
    · obtain ⟨ms, x, y, z, rfl, hs, hl, hb⟩ := h.o
      obtain ⟨j, hj⟩ := Option.ne_none_iff_exists'.mp (hb (by omega))
      have hl1 := hs.get upd_same
      walk_at "sq go"
      intro D1 nD
      have gD := hs.free nD
      have nlD : l ≠ D1 := fun z => by
        rw [← z, upd_same] at gD
        cases gD
      have hl2 : ms.length ≤ 1010 := by omega
      refine lc_enum (K := K) (a := l) (xs := iv ms) (fun i H3 => Keep (∃ acc, Sep (rg3 r (N + 7)) (upd (upd G l (.lst (iv ms))) D1 (.lst (iv acc))) H3 ∧ Lows ms i acc)) ⟨[], Sep3.mono (hs.new nD (.lst [])) (by omega), Lows.zero _⟩ (fun i H3 h => ?_) (fun i x T H3 hx h nT => ?_) (fun H3 h => ?_)
      · obtain ⟨acc, hs1, _⟩ := h.o
        exact seqL_of (hs1.get (upd_off nlD upd_same))
      · obtain ⟨acc, hs1, lo⟩ := h.o
        obtain ⟨k, hk, rfl⟩ := iv_get hx
        have hs2 := hs1.on (same_new (o := .tup [.int (i : Nat), .int k]) nT)
        have gD2 := hs2.get upd_same
        walk_at "sq go"
        refine ifD (fun c => ?_) (fun c => ?_)
        · walk_at "sq go"
          have lt := (List.getElem?_eq_some_iff.mp hk).1
          have le := lo.1
          refine ⟨by walk_at "sq len", ⟨acc ++ [(i : Int)], ?_, lo.hit hk c⟩⟩
          have hs3 := hs2.put upd_same (.lst (iv acc ++ [.int (i : Nat)]))
          rw [upd_upd, iv_app] at hs3
          rw [iv_app]
          exact hs3
        · exact ⟨acc, hs2, lo.miss hk c⟩
      · obtain ⟨acc, hs1, lo⟩ := h.o
        obtain ⟨rest, rfl⟩ := (lo.2 j hj).2 (by rw [iv_len]; exact (bad_lt hj).1)
        have gD1 := hs1.get upd_same
        have at0 : atI (iv ((j : Int) :: rest)) 0 = some (.int (j : Nat)) := atI_nat (j := 0) rfl
        walk_at "sq go"
        intro t nt
        have gt := hs1.free nt
        have hs2 := (hs1.new nt (.lst [.ref l, .int j])).weak (same_upd (same_new gD))
        have gt2 := (same_new (o := .lst (iv ((j : Int) :: rest))) gD).free gt
        refine q l t ms j _ gl ((same_new gl).free gt2) (fun e => ?_) hj (Sep3.mono hs2 (by omega))
        rw [← e, upd_same] at gt2
        cases gt2

theorem pick2 {a b : V} {w : Int} (h0 : 0 ≤ w) (h1 : w < 2) : ∃ v, atI [a, b] w = some v ∧ (v = a ∨ v = b) := by
  rcases (show w = 0 ∨ w = 1 by omega) with z | z <;> rw [z]
  · exact ⟨a, atI_nat (j := 0) rfl, .inl rfl⟩
  · exact ⟨b, atI_nat (j := 1) rfl, .inr rfl⟩
abbrev s_law_long : Stmt := topS 27
theorem sc_law_long : FnScope ["pool", "numbers", "product", "number"] ["pool", "numbers"] (defScope s_law_long) := ⟨rfl, rfl, rfl, by decide +kernel, rfl, by decide +kernel, by decide +kernel⟩

def spLong : Sp := fun vs H Q _ => ∃ (r p : Addr) (ns : List Int) (N : Int) (G : Hp), vs = [.ref r, .ref p] ∧ Sep (rg3 r N) G H ∧ G p = some (.lst (iv ns)) ∧ Keep (Row ns (10 ^ 6) ∧ ns.length ≤ 12 ∧ N < 2 ^ 59) ∧
  ∀ n H', 0 ≤ n → n < 10 ^ 30 → Sep (rg3 r (N + 10)) G H' → Q (.int n) H'
theorem cal_long (D : DefAt K mg "_law_long" s_law_long ["pool", "numbers"]) (B : Bt mg) (c_law_draw : Cal P w K mg base 1 "_law_draw" spDraw3 []) : Cal P w K mg base 2 "_law_long" spLong [] := by
  refine D.cal sc_law_long (fun vs H Q E h => ?_) (fun f cdv A outer s H vs Q E hr h => ?_)
  · obtain ⟨r, p, ns, N, G, rfl, _⟩ := h
    rfl
  · obtain ⟨r, p, ns, N, G, rfl, hS, gp, ⟨row, len, hN⟩, q⟩ := h
    refine ⟨_, (pss_cons (ps_if (PW.pt (pw_or (pt_cmpR (op_eqDK (K := K) hr.units) (pv 1) (pe_lst pa_nil) (nomark _)) (pw_or1 (pt_cmpR op_eq (pe_c c_law_draw hr (by first | decide | omega) (by rfl) (pa_cons (pv 0) (pa_cons pe_int pa_nil))) pe_int (nomark _))))) (pss_one (ps_ret (pe_c c_law_draw hr (by first | decide | omega) (by rfl) (pa_cons (pv 0) (pa_cons (pe_ix (ix_listK (K := K)) (pe_lst (pa_cons pe_int (pa_cons (pe_op op_powW pe_int pe_int) pa_nil))) (pe_c c_law_draw hr (by first | decide | omega) (by rfl) (pa_cons (pv 0) (pa_cons pe_int pa_nil))) (fun _ _ => rfl)) pa_nil))))) pss_nil)
  (pss_cons (ps_set (i := 2) sc_law_long.nd rfl (Or.inl rfl) pe_int)
  (pss_cons (ps_for PassesOwn.never rfl (pi_listK (K := K) (pe_slice (sl_listK (K := K)) (pv 1) po_none (po_some (pe_op op_add pe_int (pe_c c_law_draw hr (by first | decide | omega) (by rfl) (pa_cons (pv 0) (pa_cons (pe_callB (len_seqK (K := K)) (by rfl) B.len boot_len (pa_cons (pv 1) pa_nil)) pa_nil))))))) (pg_name (i := 3) sc_law_long.nd rfl (Or.inl rfl))
   (pss_one (ps_set (i := 2) sc_law_long.nd rfl (Or.inl rfl) (pe_op op_mulW (pv 2) (pv 3)))))
  (pss_one (ps_ret (pe_callB (call_min2 rfl) (by rfl) B.min (by decide +kernel) (pa_cons (pe_op op_sub (pe_op op_powW pe_int pe_int) pe_int) (pa_cons (pe_callB (call_max2 rfl) (by rfl) B.max (by decide +kernel) (pa_cons pe_int (pa_cons (pe_op op_sub (pe_op op_add (pe_op op_mulW (pv 2) (pe_c c_law_draw hr (by first | decide | omega) (by rfl) (pa_cons (pv 0) (pa_cons pe_int pa_nil)))) (pe_c c_law_draw hr (by first | decide | omega) (by rfl) (pa_cons (pv 0) (pa_cons pe_int pa_nil)))) pe_int) pa_nil))) pa_nil)))))))), ?_⟩
    have hp := hS.get gp
    walk_at "sq go"
    intro e ne
    have hS1 := hS.on (same_new (o := .lst []) ne)
    have hp1 := hS1.get gp
    walk_at "sq go"
    refine r_eqI (xs := ns) (ys := []) (seqL_of hp1) (seqL_of upd_same) ?_
    walk_at "sq go"
    refine ifD (fun ens => ?_) (fun nens => ?_)
    · walk_at "sq go"
      intro e2 ne2
      have gn2 := hS1.free ne2
      have hL := hS1.new ne2 (.lst [.int 30, .int (10 ^ (30 : Int).toNat)])
      walk_at "sq go"
      refine ⟨⟨by decide, by decide, by omega⟩, fun wy K2 y0 y1 hL2 => ?_⟩
      have ge2 : K2 e2 = some (.lst [.int 30, .int (10 ^ (30 : Int).toNat)]) := hL2.get upd_same
      obtain ⟨v, ev, v1, v2⟩ : ∃ v, atI [V.int 30, V.int (10 ^ (30 : Int).toNat)] wy = some (.int v) ∧ 0 < v ∧ v ≤ 10 ^ 30 := by
        obtain ⟨v, e, z⟩ := pick2 (a := V.int 30) (b := V.int (10 ^ (30 : Int).toNat)) y0 y1
        rcases z with rfl | rfl
        · exact ⟨30, e, by decide, by decide⟩
        · exact ⟨_, e, by decide, by decide⟩
      have hL3 := hL2.weak (same_new (o := .lst [.int 30, .int (10 ^ (30 : Int).toNat)]) gn2)
      walk_at "sq go"
      exact ⟨⟨by omega, by omega, by omega⟩, fun b K3 b0 b1 hL4 => q b K3 b0 (by omega) (Sep3.mono hL4 (by omega))⟩
    · walk_at "sq go"
      refine ⟨⟨by decide, by decide, by omega⟩, fun b H2 b0 b1 hS2 => ?_⟩
      walk_at "sq go"
      refine ifI (fun eb => ?_) (fun nb => ?_)
      · walk_at "sq go"
        intro e2 ne2
        have gn2 := hS2.free ne2
        have hL := hS2.new ne2 (.lst [.int 30, .int (10 ^ (30 : Int).toNat)])
        walk_at "sq go"
        refine ⟨⟨by decide, by decide, by omega⟩, fun wy K2 y0 y1 hL2 => ?_⟩
        have ge2 : K2 e2 = some (.lst [.int 30, .int (10 ^ (30 : Int).toNat)]) := hL2.get upd_same
        obtain ⟨v, ev, v1, v2⟩ : ∃ v, atI [V.int 30, V.int (10 ^ (30 : Int).toNat)] wy = some (.int v) ∧ 0 < v ∧ v ≤ 10 ^ 30 := by
          obtain ⟨v, e, z⟩ := pick2 (a := V.int 30) (b := V.int (10 ^ (30 : Int).toNat)) y0 y1
          rcases z with rfl | rfl
          · exact ⟨30, e, by decide, by decide⟩
          · exact ⟨_, e, by decide, by decide⟩
        have hL3 := hL2.weak (same_new (o := .lst [.int 30, .int (10 ^ (30 : Int).toNat)]) gn2)
        walk_at "sq go"
        exact ⟨⟨by omega, by omega, by omega⟩, fun b K3 b0 b1 hL4 => q b K3 b0 (by omega) (Sep3.mono hL4 (by omega))⟩
      · walk_at "sq go"
        have el : (iv ns).length = ns.length := iv_len _
        have hp2 := seqL_of (K := K) (hS2.get gp)
        have lp : 0 < ns.length := by
          cases ns with
          | nil => exact absurd rfl nens
          | cons a t => simp
        walk_at "sq go"
        refine ⟨⟨by omega, by omega, by omega⟩, fun cut H3 c0 c1 hS3 => ?_⟩
        have hp3 := seqL_of (K := K) (hS3.get gp)
        walk_at "sq go"
        intro l nl
        obtain ⟨c', hc'⟩ : ∃ c' : Nat, 1 + cut = (c' : Int) := ⟨(1 + cut).toNat, by omega⟩
        rw [hc', cut_to, iv_take]
        have row2 : ∀ k ∈ ns.take c', Sm 20 k := fun k hk => by
          have := row k (List.mem_of_mem_take hk)
          unfold Sm
          omega
        have len2 : (ns.take c').length ≤ 12 := by
          rw [List.length_take]
          omega
        generalize ns.take c' = ms at row2 len2 ⊢
        have hS4 := hS3.on (same_new (o := .lst (iv ms)) nl)
        have one : Sm 10 1 := by unfold Sm; decide
        have big : ∀ i : Nat, Sm 250 (1 * prodL (ms.take i)) := fun i => by
          have z := sm_prod (ns := ms.take i) (fun j hj => row2 j (List.mem_of_mem_take hj)) one
          refine z.mono ?_
          have : (ms.take i).length ≤ 12 := by
            rw [List.length_take]
            omega
          omega
        have hl4 : SqL K (upd H3 l (.lst (iv ms))) l (iv ms) := seqL_of upd_same
        walk_at "sq go"
        refine for_list (K := K) (a := l) (xs := iv ms) (fun i σ H' => Keep (∃ x, σ = [some (.ref r), some (.ref p), some (.int (1 * prodL (ms.take i))), x] ∧ H' = upd H3 l (.lst (iv ms)))) ⟨none, by simp [prodL, L2.start], rfl⟩ (fun i σ H' _ h => ?_) (fun i x σ H' hx h => ?_) (fun σ H' h => ?_)
        · obtain ⟨x, _, rfl⟩ := h.o
          exact hl4
        · obtain ⟨x, rfl, rfl⟩ := h.o
          obtain ⟨k, hk, rfl⟩ := iv_get hx
          have wm : CMulW (1 * prodL (ms.take i)) k := (big i).wide (row2 k (List.mem_of_getElem? hk)) (by decide) (by decide) (by decide)
          walk_at "sq go"
          exact ⟨_, by rw [prod_take hk]; rfl, rfl⟩
        · obtain ⟨x, rfl, rfl⟩ := h.o
          walk_at "sq go"
          refine ⟨⟨by decide, by decide, by omega⟩, fun d1 H5 d10 d11 hS5 => ?_⟩
          have wm : CMulW (1 * prodL (ms.take (iv ms).length)) d1 := (big _).wide (b := 10) (by unfold Sm; omega) (by decide) (by decide) (by decide)
          walk_at "sq go"
          refine ⟨⟨by decide, by decide, by omega⟩, fun d2 H6 d20 d21 hS6 => ?_⟩
          walk_at "sq go"
          rw [show ((10 : Int) ^ Int.toNat 30) = 10 ^ 30 from rfl]
          refine q _ _ ?_ ?_ (Sep3.mono hS6 (by omega))
          · (repeat' split) <;> omega
          · (repeat' split) <;> omega

/-! ### hidden lists made and asked, the errors caught -/
local macro_rules | `(tactic| walk_at "sq side") => `(tactic| first
  | ((with_reducible show List.lookup _ _ = _); first | exact hf_hidden _ _ | exact hf_asked _ _ | exact hf_ask _ _)
  | ((with_reducible show XfC _ _); assumption)
  | ((with_reducible show Kept _ _ _ _); assumption)
  | ((with_reducible show PySem.W.exmOne _ _ _ = some _); assumption)
  | ((with_reducible show PySem.W.findIn _ _ _ = some _); assumption)
  | ((with_reducible show List.length _ < 1000); exact Nat.le_of_ble_eq_true rfl))
theorem But.free {o t : Addr} {H H' : Hp} {u : HO} (b : But o H H') (e : H' o = some u) (n : H' t = none) : H t = none := by
  cases q : H t with
  | none => rfl
  | some v =>
    have nt : t ≠ o := fun z => by
      rw [z, e] at n
      cases n
    rw [b t v nt q] at n
    cases n
/-- the two kinds that come here -/
structure Knds (K : PySem.W.Frag) (CL CN CC CU CR CS : Addr) : Prop where
  l : Knd K CL CN CC CU CR CS CL true false false false false
  n : Knd K CL CN CC CU CR CS CN false true false false false
def spKList (K : PySem.W.Frag) (CL : Addr) : Sp := fun vs H Q _ => ∃ (a : Addr) (v : V), vs = [.ref a] ∧ Kept H a CL [("value", v)] ∧ ∀ H', Same H H' → Q (.str "list") H'
def spKNum (K : PySem.W.Frag) (CN : Addr) : Sp := fun vs H Q _ => ∃ (a : Addr) (v : V), vs = [.ref a] ∧ Kept H a CN [("value", v)] ∧ ∀ H', Same H H' → Q (.str "number") H'
theorem kind_list {CL CN CC CU CR CS : Addr} (c : Cal P w K mg base 1 "_law_kind" (spKind K CL CN CC CU CR CS) []) (kn : Knds K CL CN CC CU CR CS) : Cal P w K mg base 1 "_law_kind" (spKList K CL) [] := c.imp (Nat.le_refl _) fun vs H Q E h => by
  obtain ⟨a, v, rfl, k, q⟩ := h
  exact ⟨a, CL, _, _, _, _, _, _, 0, "list", rfl, k, ⟨kn.l, rfl, rfl, fun m z hm => absurd hm (by omega), rfl⟩, q⟩
theorem kind_num {CL CN CC CU CR CS : Addr} (c : Cal P w K mg base 1 "_law_kind" (spKind K CL CN CC CU CR CS) []) (kn : Knds K CL CN CC CU CR CS) : Cal P w K mg base 1 "_law_kind" (spKNum K CN) [] := c.imp (Nat.le_refl _) fun vs H Q E h => by
  obtain ⟨a, v, rfl, k, q⟩ := h
  refine ⟨a, CN, _, _, _, _, _, _, 1, "number", rfl, k, ⟨kn.n, rfl, rfl, fun m z hm e => ?_, rfl⟩, q⟩
  have e0 : m = 0 := by omega
  subst e0
  cases e
  rfl
abbrev s_law_made : Stmt := topS 25
theorem sc_law_made : FnScope ["numbers", "caught", "e"] ["numbers"] (defScope s_law_made) := ⟨rfl, rfl, rfl, by decide +kernel, rfl, by decide +kernel, by decide +kernel⟩

def spMade (K : PySem.W.Frag) : Sp := fun vs H Q _ => ∃ (p : Addr) (ns : List Int), vs = [.ref p] ∧ SqL K H p (iv ns) ∧ Keep ((bad ns = none → ∀ t H', Same H H' → H t = none → H' t = some (.lst [.str "none", .non]) → Q (.ref t) H') ∧
  (∀ i : Nat, bad ns = some i → ∀ t H', Same H H' → H t = none → H' t = some (.lst [.str "list", .int i]) → Q (.ref t) H'))
theorem cal_made {C CL CN CC CU CR CS : Addr} (D : DefAt K mg "_law_made" s_law_made ["numbers"]) (B : Bt mg) (c6 : Cls6 mg CL CN CC CU CR CS) (kn : Knds K CL CN CC CU CR CS) (c_HiddenListX : MakX P w K mg base 4 "HiddenList" C (spHInitX K C CL))
    (c_law_kind : Cal P w K mg base 1 "_law_kind" (spKList K CL) []) : Cal P w K mg base 6 "_law_made" (spMade K) [] := by
  refine D.cal sc_law_made (fun vs H Q E h => ?_) (fun f cdv A outer s H vs Q E hr h => ?_)
  · obtain ⟨p, ns, rfl, _⟩ := h
    rfl
  · obtain ⟨p, ns, rfl, hS, ⟨q0, q1⟩⟩ := h
    have m_SqueezeError := c6.s
    have exL := kn.l.ex
    have xfL := kn.l.xf
    have nvL := kn.l.nv
    refine ⟨_, (pss_cons (ps_set (i := 1) sc_law_made.nd rfl (Or.inl rfl) pe_non)
  (pss_cons (ps_try_keep (i := 2) rfl rfl sc_law_made.nd rfl rfl rfl ⟨rfl, by decide, .inl m_SqueezeError⟩ takes0
   (fun W pn xe tk po => (pss_one (ps_expr (pe_mkx c_HiddenListX hr (by first | decide | omega) tk (by rfl) (pa_cons (pv 0) pa_nil)))))
   (fun a cls d pn => (pss_one (ps_set (i := 1) sc_law_made.nd rfl (Or.inl rfl) (pv 2)))))
  (pss_one (ps_ret (pe_ifExp (pt_cmpR op_isN (pv 1) pe_non (nomark _)) (pe_lst (pa_cons pe_str (pa_cons pe_non pa_nil))) (pe_lst (pa_cons (pe_c c_law_kind hr (by first | decide | omega) (by rfl) (pa_cons (pv 1) pa_nil)) (pa_cons (pe_xv (K := K) (pv 1)) pa_nil)))))))), ?_⟩
    walk_at "sq go"
    intro x dx nx ndx ne
    have nx1 : upd H dx (.own x) x = none := by
      rw [upd_ne (Ne.symm ne)]
      exact nx
    have s1 : Same H (upd (upd H dx (.own x)) x (.ins C dx [])) := (same_new ndx).trans (same_new nx1)
    have hS1 := s1.seq hS
    walk_at "sq go"
    refine ⟨⟨fun hb l H1 nl bt hl hx => ?_, fun i hb d H1 s2 hd => ⟨true, exL, fun _ a na => ?_, fun z => nomatch z⟩⟩⟩
    · have s3 := bt.same s1 nx
      walk_at "sq go"
      intro t nt
      exact q0 hb t _ (s3.trans (same_new nt)) (s3.free nt) upd_same
    · have s3 := (s1.trans s2).trans (same_new (o := Xo a (.ref CL) (some d)) na)
      have ka := kept_new (C := CL) na hd
      walk_at "sq go"
      intro H2 s4
      have ka2 := ka.same s4
      walk_at "sq go"
      intro t nt
      exact q1 i hb t _ ((s3.trans s4).trans (same_new nt)) ((s3.trans s4).free nt) upd_same
abbrev s_law_asked : Stmt := topS 26
theorem sc_law_asked : FnScope ["secret", "long", "by_name", "caught", "e"] ["secret", "long", "by_name"] (defScope s_law_asked) := ⟨rfl, rfl, rfl, by decide +kernel, rfl, by decide +kernel, by decide +kernel⟩

def spAsked (C : Addr) : Sp := fun vs H Q _ => ∃ (o dx l : Addr) (m n : Int) (ns : List Int) (b : Bool), vs = [.ref o, .int n, .bl b] ∧ H o = some (.ins C dx (hf l m)) ∧ H l = some (.lst (iv ns)) ∧ Keep (Mid ns ∧
  (0 ≤ n → ∀ t H', But o H H' → H t = none → H' o = some (.ins C dx (hf l (m + 1))) → H' t = some (.lst [.int (sqz n ns)]) → Q (.ref t) H') ∧ (n < 0 → ∀ t H', Same H H' → H t = none → H' t = some (.lst [.str "number", .int n]) → Q (.ref t) H'))
theorem cal_asked {C CL CN CC CU CR CS : Addr} (D : DefAt K mg "_law_asked" s_law_asked ["secret", "long", "by_name"]) (B : Bt mg) (c6 : Cls6 mg CL CN CC CU CR CS) (kn : Knds K CL CN CC CU CR CS) (c_askX : MetX P w K mg base 5 C "ask" (spHAskX C CN))
    (c_askK : MetKX P w K mg base 5 C "ask" ["length"] (spHAskX C CN)) (c_law_kind : Cal P w K mg base 1 "_law_kind" (spKNum K CN) []) : Cal P w K mg base 6 "_law_asked" (spAsked C) [] := by
  refine D.cal sc_law_asked (fun vs H Q E h => ?_) (fun f cdv A outer s H vs Q E hr h => ?_)
  · obtain ⟨o, dx, l, m, n, ns, b, rfl, _⟩ := h
    rfl
  · obtain ⟨o, dx, l, m, n, ns, b, rfl, ho, hl, ⟨hm, q0, q1⟩⟩ := h
    have m_SqueezeError := c6.s
    have exN := kn.n.ex
    have xfN := kn.n.xf
    have nvN := kn.n.nv
    refine ⟨_, (pss_cons (ps_set (i := 3) sc_law_asked.nd rfl (Or.inl rfl) pe_non)
  (pss_cons (ps_try_keep (i := 4) rfl rfl sc_law_asked.nd rfl rfl rfl ⟨rfl, by decide, .inl m_SqueezeError⟩ takes0
   (fun W pn xe tk po => (pss_one (ps_ret (pe_lst (pa_cons (pe_ifExp (pt_val (pv 2)) (pe_mkwx c_askK hr (by first | decide | omega) tk (pv 0) (pk_cons (pv 1) pk_nil)) (pe_mx c_askX hr (by first | decide | omega) tk (pv 0) (pa_cons (pv 1) pa_nil))) pa_nil)))))
   (fun a cls d pn => (pss_one (ps_set (i := 3) sc_law_asked.nd rfl (Or.inl rfl) (pv 4)))))
  (pss_one (ps_ret (pe_lst (pa_cons (pe_c c_law_kind hr (by first | decide | omega) (by rfl) (pa_cons (pv 3) pa_nil)) (pa_cons (pe_xv (K := K) (pv 3)) pa_nil))))))), ?_⟩
    walk_at "sq go"
    cases b with
    | true =>
      walk_at "sq go"
      refine ⟨⟨hm, fun h0 H1 bt hx => ?_, fun h0 d H1 s2 hd => ⟨true, exN, fun _ a na => ?_, fun z => nomatch z⟩⟩⟩
      · walk_at "sq go"
        intro t nt
        have nto : o ≠ t := fun e => by
          rw [← e, hx] at nt
          cases nt
        exact q0 h0 t _ (bt.trans (But.of (same_new nt))) (bt.free hx nt) (upd_off nto hx) upd_same
      · have s3 := s2.trans (same_new (o := Xo a (.ref CN) (some d)) na)
        have ka := kept_new (C := CN) na hd
        walk_at "sq go"
        intro H2 s4
        have ka2 := ka.same s4
        walk_at "sq go"
        intro t nt
        exact q1 h0 t _ ((s3.trans s4).trans (same_new nt)) ((s3.trans s4).free nt) upd_same
    | false =>
      walk_at "sq go"
      refine ⟨⟨hm, fun h0 H1 bt hx => ?_, fun h0 d H1 s2 hd => ⟨true, exN, fun _ a na => ?_, fun z => nomatch z⟩⟩⟩
      · walk_at "sq go"
        intro t nt
        have nto : o ≠ t := fun e => by
          rw [← e, hx] at nt
          cases nt
        exact q0 h0 t _ (bt.trans (But.of (same_new nt))) (bt.free hx nt) (upd_off nto hx) upd_same
      · have s3 := s2.trans (same_new (o := Xo a (.ref CN) (some d)) na)
        have ka := kept_new (C := CN) na hd
        walk_at "sq go"
        intro H2 s4
        have ka2 := ka.same s4
        walk_at "sq go"
        intro t nt
        exact q1 h0 t _ ((s3.trans s4).trans (same_new nt)) ((s3.trans s4).free nt) upd_same

theorem r_eqDD {x y : V} {d : PyData} {H : Hp} {Q : VK} (h1 : Dp K H x d) (h2 : Dp K H y d) (sh : SeqAt.shaped d = true) (e : PyData.eqv d d = true) (q : Q (.bl true) H) : rEqQ K x y H Q :=
  rEqQ_of ⟨d, d, h1, h2, sh, sh, by rw [e]; exact q⟩
theorem r_neDD {x y : V} {d : PyData} {H : Hp} {Q : VK} (h1 : Dp K H x d) (h2 : Dp K H y d) (sh : SeqAt.shaped d = true) (e : PyData.eqv d d = true) (q : Q (.bl false) H) : rNeQ K x y H Q :=
  rNeQ_of ⟨d, d, h1, h2, sh, sh, by rw [e]; exact q⟩
/-- a word and a number -/
def dW (s : Str) (n : Int) : PyData := .list [.str s, .int n]
theorem dp_W {H : Hp} {a : Addr} {s : Str} {n : Int} (h : H a = some (.lst [.str s, .int n])) : Dp K H (.ref a) (dW s n) := .lst (seqL_of h) (.cons (.str s) (.cons (.int n) .nil))
theorem shaped_W {s : Str} {n : Int} (h : PyData.strOk s = true) : SeqAt.shaped (dW s n) = true := by
  unfold SeqAt.shaped dW
  simp only [PyData.canLay0, PyData.canLayAll0, PyData.depth, PyData.depthAll, h]
  rfl
theorem eqv_W (s : Str) (n : Int) : PyData.eqv (dW s n) (dW s n) = true := by simp [dW, PyData.eqv, PyData.eqvAll]
def dN (s : Str) : PyData := .list [.str s, .none]
theorem dp_N {H : Hp} {a : Addr} {s : Str} (h : H a = some (.lst [.str s, .non])) : Dp K H (.ref a) (dN s) := .lst (seqL_of h) (.cons (.str s) (.cons .non .nil))
theorem shaped_N {s : Str} (h : PyData.strOk s = true) : SeqAt.shaped (dN s) = true := by
  unfold SeqAt.shaped dN
  simp only [PyData.canLay0, PyData.canLayAll0, PyData.depth, PyData.depthAll, h]
  rfl
theorem eqv_N (s : Str) : PyData.eqv (dN s) (dN s) = true := by simp [dN, PyData.eqv, PyData.eqvAll]
def dII (as bs : List Int) : PyData := .list [dI as, dI bs]
theorem dp_II {H : Hp} {a p q : Addr} {as bs : List Int} (h : H a = some (.lst [.ref p, .ref q])) (h1 : H p = some (.lst (iv as))) (h2 : H q = some (.lst (iv bs))) : Dp K H (.ref a) (dII as bs) :=
  .lst (seqL_of h) (.cons (dp_iv (seqL_of h1)) (.cons (dp_iv (seqL_of h2)) .nil))
theorem shaped_II (as bs : List Int) : SeqAt.shaped (dII as bs) = true := by
  unfold SeqAt.shaped dII dI
  simp only [PyData.canLay0, PyData.canLayAll0, can_ints, PyData.depth, PyData.depthAll, dep_ints]
  decide
theorem eqv_II (as bs : List Int) : PyData.eqv (dII as bs) (dII as bs) = true := by
  unfold dII
  simp only [PyData.eqv, PyData.eqvAll, eqv_dI]
  simp
/-- an answer to a length that is not below 0 -/
def spHAskC (C : Addr) : Sp := fun vs H Q _ => ∃ (o dx l : Addr) (m n : Int) (ns : List Int), vs = [.ref o, .int n] ∧ H o = some (.ins C dx (hf l m)) ∧ H l = some (.lst (iv ns)) ∧ Keep (Mid ns ∧ 0 ≤ n ∧ ∀ H', But o H H' → H' o = some (.ins C dx (hf l (m + 1))) → Q (.int (sqz n ns)) H')
theorem hask_calm {C CN : Addr} {vs : List V} {H : Hp} {Q : VK} {E E' : XK} (h : spHAskC C vs H Q E) : spHAskX C CN vs H Q E' := by
  obtain ⟨o, dx, l, m, n, ns, rfl, ho, hl, ⟨hm, h0, q⟩⟩ := h
  exact ⟨o, dx, l, m, n, ns, rfl, ho, hl, ⟨hm, fun _ => q, fun z => absurd z (by omega)⟩⟩
theorem nn {G : Hp} {a b : Addr} {u : HO} (h : G a = none) (h2 : G b = some u) : a ≠ b := fun e => by
  rw [e, h2] at h
  cases h
/-- two hidden lists, as the law keeps them -/
structure S18 (G : Hp) (C k p0 p1 sc o0 o1 d0 d1 l0 l1 cn : Addr) (ns0 ns1 : List Int) (m0 m1 : Int) (G' : Hp) : Prop where
  same : Same G G'
  gk : G' k = some (.lst [.ref p0, .ref p1])
  g0 : G' p0 = some (.lst (iv ns0))
  g1 : G' p1 = some (.lst (iv ns1))
  gs : G' sc = some (.lst [.ref o0, .ref o1])
  h0 : G' o0 = some (.ins C d0 (hf l0 m0))
  h1 : G' o1 = some (.ins C d1 (hf l1 m1))
  i0 : G' l0 = some (.lst (iv ns0))
  i1 : G' l1 = some (.lst (iv ns1))
  c : G' cn = some (.lst [.int m0, .int m1])
  n0 : G o0 = none
  n1 : G o1 = none
  nc : G cn = none
  ne : o0 ≠ o1
  cf : ∀ a ∈ [k, p0, p1, sc, l0, l1], a ≠ cn
section
variable {G : Hp} {C k p0 p1 sc o0 o1 d0 d1 l0 l1 cn : Addr} {ns0 ns1 : List Int} {m0 m1 : Int} {G' : Hp}
theorem S18.new (s : S18 G C k p0 p1 sc o0 o1 d0 d1 l0 l1 cn ns0 ns1 m0 m1 G') {e : Addr} (n : G' e = none) (u : HO) : S18 G C k p0 p1 sc o0 o1 d0 d1 l0 l1 cn ns0 ns1 m0 m1 (upd G' e u) :=
  ⟨s.same.trans (same_new n), upd_keep n s.gk, upd_keep n s.g0, upd_keep n s.g1, upd_keep n s.gs, upd_keep n s.h0, upd_keep n s.h1, upd_keep n s.i0, upd_keep n s.i1, upd_keep n s.c, s.n0, s.n1, s.nc, s.ne, s.cf⟩
theorem ne_obj {a b : Addr} {u v : HO} (h : G' a = some u) (h2 : G' b = some v) (n : u ≠ v) : a ≠ b := fun e => by
  rw [e, h2] at h
  exact n (Option.some.inj h).symm
theorem S18.ask0 (s : S18 G C k p0 p1 sc o0 o1 d0 d1 l0 l1 cn ns0 ns1 m0 m1 G') : S18 G C k p0 p1 sc o0 o1 d0 d1 l0 l1 cn ns0 ns1 (m0 + 1) m1 (upd (upd G' cn (.lst [.int (m0 + 1), .int m1])) o0 (.ins C d0 (hf l0 (m0 + 1)))) := by
  have no : ∀ {b : Addr} {xs : List V}, G' b = some (.lst xs) → b ≠ o0 := fun h => ne_obj h s.h0 (fun z => by cases z)
  have nc := (no s.c).symm
  have cf := s.cf
  simp only [List.mem_cons, List.mem_nil_iff, or_false, forall_eq_or_imp, forall_eq] at cf
  obtain ⟨c1, c2, c3, c4, c5, c6⟩ := cf
  have st : ∀ {b : Addr} {xs : List V}, b ≠ cn → G' b = some (.lst xs) → upd (upd G' cn (.lst [.int (m0 + 1), .int m1])) o0 (.ins C d0 (hf l0 (m0 + 1))) b = some (.lst xs) := fun n h => upd_off (no h) (upd_off n h)
  refine ⟨fun b u e => ?_, st c1 s.gk, st c2 s.g0, st c3 s.g1, st c4 s.gs, upd_same, upd_off s.ne.symm (upd_off (ne_obj s.h1 s.c (fun z => by cases z)) s.h1), st c5 s.i0, st c6 s.i1, upd_off (no s.c) upd_same, s.n0, s.n1, s.nc, s.ne, s.cf⟩
  rw [upd_ne (nn s.n0 e).symm, upd_ne (nn s.nc e).symm]
  exact s.same b u e
theorem S18.ask1 (s : S18 G C k p0 p1 sc o0 o1 d0 d1 l0 l1 cn ns0 ns1 m0 m1 G') : S18 G C k p0 p1 sc o0 o1 d0 d1 l0 l1 cn ns0 ns1 m0 (m1 + 1) (upd (upd G' cn (.lst [.int m0, .int (m1 + 1)])) o1 (.ins C d1 (hf l1 (m1 + 1)))) := by
  have no : ∀ {b : Addr} {xs : List V}, G' b = some (.lst xs) → b ≠ o1 := fun h => ne_obj h s.h1 (fun z => by cases z)
  have nc := (no s.c).symm
  have cf := s.cf
  simp only [List.mem_cons, List.mem_nil_iff, or_false, forall_eq_or_imp, forall_eq] at cf
  obtain ⟨c1, c2, c3, c4, c5, c6⟩ := cf
  have st : ∀ {b : Addr} {xs : List V}, b ≠ cn → G' b = some (.lst xs) → upd (upd G' cn (.lst [.int m0, .int (m1 + 1)])) o1 (.ins C d1 (hf l1 (m1 + 1))) b = some (.lst xs) := fun n h => upd_off (no h) (upd_off n h)
  refine ⟨fun b u e => ?_, st c1 s.gk, st c2 s.g0, st c3 s.g1, st c4 s.gs, upd_off s.ne (upd_off (ne_obj s.h0 s.c (fun z => by cases z)) s.h0), upd_same, st c5 s.i0, st c6 s.i1, upd_off (no s.c) upd_same, s.n0, s.n1, s.nc, s.ne, s.cf⟩
  rw [upd_ne (nn s.n1 e).symm, upd_ne (nn s.nc e).symm]
  exact s.same b u e
theorem S18.pick (G : Hp) (C k p0 p1 sc o0 o1 d0 d1 l0 l1 cn : Addr) {ns0 ns1 : List Int} {w far : Int} (hw : w = 0 ∨ w = 1) (r0 : Row ns0 far ∧ ns0.length ≤ 12) (r1 : Row ns1 far ∧ ns1.length ≤ 12) :
    ∃ p ns o d l j, atI [V.ref p0, V.ref p1] w = some (.ref p) ∧ atI [V.ref o0, V.ref o1] w = some (.ref o) ∧ (Row ns far ∧ ns.length ≤ 12) ∧ (∀ m0 m1 : Int, ixN ([V.int m0, V.int m1]).length w = some j) ∧
      ∀ m0 m1 G', S18 G C k p0 p1 sc o0 o1 d0 d1 l0 l1 cn ns0 ns1 m0 m1 G' → ∃ m, G' p = some (.lst (iv ns)) ∧ G' o = some (.ins C d (hf l m)) ∧ G' l = some (.lst (iv ns)) ∧ atI [V.int m0, V.int m1] w = some (.int m) ∧ p ≠ cn ∧ o ≠ cn ∧ l ≠ cn ∧
        ∃ m0' m1', ([V.int m0, V.int m1]).set j (.int (m + 1)) = [.int m0', .int m1'] ∧ S18 G C k p0 p1 sc o0 o1 d0 d1 l0 l1 cn ns0 ns1 m0' m1' (upd (upd G' cn (.lst [.int m0', .int m1'])) o (.ins C d (hf l (m + 1)))) := by
  rcases hw with rfl | rfl
  · exact ⟨p0, ns0, o0, d0, l0, 0, rfl, rfl, r0, fun _ _ => rfl, fun m0 m1 G' s => ⟨m0, s.g0, s.h0, s.i0, rfl, s.cf _ (by simp), ne_obj s.h0 s.c (fun z => by cases z), s.cf _ (by simp), m0 + 1, m1, rfl, s.ask0⟩⟩
  · exact ⟨p1, ns1, o1, d1, l1, 1, rfl, rfl, r1, fun _ _ => rfl, fun m0 m1 G' s => ⟨m1, s.g1, s.h1, s.i1, rfl, s.cf _ (by simp), ne_obj s.h1 s.c (fun z => by cases z), s.cf _ (by simp), m0, m1 + 1, rfl, s.ask1⟩⟩
end
local macro_rules | `(tactic| walk_at "sq side") => `(tactic| first
  | ((with_reducible show List.lookup _ _ = _); first | exact hf_hidden _ _ | exact hf_asked _ _ | exact hf_ask _ _)
  | ((with_reducible show atI _ _ = some _); first | assumption | exact atI_nat rfl)
  | ((with_reducible show List.length _ < 1000); exact Nat.le_of_ble_eq_true rfl))
theorem row_fit {ns : List Int} {n : Int} (h : Row ns (10 ^ 6)) (hl : ns.length ≤ 12) (h0 : 0 ≤ n) (h1 : n < 2 ^ 120) : FitP ns n := by
  refine ⟨20, 120, fun k hk => ?_, ?_, by decide, by decide, ?_⟩
  · have := h k hk
    unfold Sm
    omega
  · unfold Sm
    omega
  · omega
/-- two lists being copied -/
def Cop (R : Rg) (G1 : Hp) (D : Addr) (ns0 ns1 : List Int) (i : Nat) (H' : Hp) : Prop := ∃ G', Sep R G' H' ∧ Same G1 G' ∧
  match i with
  | 0 => G' D = some (.lst [])
  | 1 => ∃ q0, G1 q0 = none ∧ q0 ≠ D ∧ G' D = some (.lst [.ref q0]) ∧ G' q0 = some (.lst (iv ns0))
  | _ => ∃ q0 q1, G1 q0 = none ∧ G1 q1 = none ∧ q0 ≠ q1 ∧ q0 ≠ D ∧ q1 ≠ D ∧ G' D = some (.lst [.ref q0, .ref q1]) ∧ G' q0 = some (.lst (iv ns0)) ∧ G' q1 = some (.lst (iv ns1))
theorem new_keep {H : Hp} {x dx a : Addr} {u v z : HO} (nx : H x = none) (ndx : H dx = none) (ne : dx ≠ x) (h : H a = some u) : upd (upd H dx v) x z a = some u :=
  upd_keep (by rw [upd_ne (Ne.symm ne)]; exact nx) (upd_keep ndx h)
theorem put2 {G : Hp} {a c b : Addr} {u v w : HO} (n0 : b ≠ a) (n1 : b ≠ c) (h : G b = some w) : upd (upd G a u) c v b = some w := upd_off n1 (upd_off n0 h)
/-- a new hidden list -/
theorem made18 {R : Rg} {G H H' : Hp} {C x dx l : Addr} {ns : List Int} (s : Sep R G H) (nx : H x = none) (ndx : H dx = none) (ne : dx ≠ x) (nl : upd (upd H dx (.own x)) x (.ins C dx []) l = none)
    (bt : But x (upd (upd H dx (.own x)) x (.ins C dx [])) H') (hl : H' l = some (.lst (iv ns))) (hx : H' x = some (.ins C dx (hf l 0))) :
    G x = none ∧ upd G x (.ins C dx (hf l 0)) l = none ∧ Sep R (upd (upd G x (.ins C dx (hf l 0))) l (.lst (iv ns))) H' := by
  have nx2 : upd H dx (.own x) x = none := by
    rw [upd_ne (Ne.symm ne)]
    exact nx
  have s1 := (s.on (same_new (o := .own x) ndx)).new nx2 (.ins C dx [])
  have gx := s.free nx
  have nlx : l ≠ x := fun e => by
    rw [e, upd_same] at nl
    cases nl
  have gl := s1.free nl
  have s2 := Sep.add s1 nl (s1.but upd_same bt hx) hl
  rw [upd_upd] at s2
  exact ⟨gx, by rw [upd_ne nlx] at gl ⊢; exact gl, s2⟩
abbrev s_law_right : Stmt := topS 28
theorem sc_law_right : FnScope ["pool", "far", "kept", "passed", "secrets", "counts_here", "turn", "which", "long", "due", "bad", "wrong", "one"] ["pool"] (defScope s_law_right) := ⟨rfl, rfl, rfl, by decide +kernel, rfl, by decide +kernel, by decide +kernel⟩

def spRight : Sp := fun vs H Q _ => ∃ (r : Addr) (N : Int) (G : Hp), vs = [.ref r] ∧ Sep (rg3 r N) G H ∧ Keep (N < 2 ^ 57) ∧ ∀ H', Sep (rg3 r (N + 1000)) G H' → Q (.bl true) H'
theorem cal_right {C : Addr} (D : DefAt K mg "_law_right" s_law_right ["pool"]) (B : Bt mg) (c_law_draw : Cal P w K mg base 1 "_law_draw" spDraw3 []) (c_law_list : Cal P w K mg base 2 "_law_list" spList3 [])
    (c_HiddenList : Mak P w K mg base 4 "HiddenList" C (spHInit K C)) (c_HiddenListK : MakK P w K mg base 4 "HiddenList" C ["replacements"] (spHInit K C)) (c_questions : Prp P w K mg base 1 C "questions" (spHQ C)) (c_ask : Met P w K mg base 5 C "ask" (spHAskC C))
    (c_law_long : Cal P w K mg base 2 "_law_long" spLong []) (c_law_after : Cal P w K mg base 1 "_law_after" (spAfter K) []) (c_law_asked : Cal P w K mg base 6 "_law_asked" (spAsked C) []) (c_greatest_origin : Cal P w K mg base 4 "greatest_origin" (spGOrigin K) [])
    (c_law_bad_list : Cal P w K mg base 2 "_law_bad_list" (spBadList K) []) (c_law_made : Cal P w K mg base 6 "_law_made" (spMade K) []) : Cal P w K mg base 7 "_law_right" spRight [] := by
  refine D.cal sc_law_right (fun vs H Q E h => ?_) (fun f cdv A outer s H vs Q E hr h => ?_)
  · obtain ⟨r, N, G, rfl, _⟩ := h
    rfl
  · obtain ⟨r, N, G, rfl, hS, ⟨hN⟩, q⟩ := h
    refine ⟨_, (pss_cons (ps_set (i := 1) sc_law_right.nd rfl (Or.inl rfl) (pe_ix (ix_listK (K := K)) (pe_lst (pa_cons pe_int (pa_cons (pe_op op_powW pe_int pe_int) pa_nil))) (pe_c c_law_draw hr (by first | decide | omega) (by rfl) (pa_cons (pv 0) (pa_cons pe_int pa_nil))) (fun _ _ => rfl)))
  (pss_cons (ps_set (i := 2) sc_law_right.nd rfl (Or.inl rfl) (pe_lst (pa_cons (pe_c c_law_list hr (by first | decide | omega) (by rfl) (pa_cons (pv 0) (pa_cons pe_int (pa_cons (pv 1) pa_nil)))) (pa_cons (pe_c c_law_list hr (by first | decide | omega) (by rfl) (pa_cons (pv 0) (pa_cons pe_int (pa_cons (pv 1) pa_nil)))) pa_nil))))
  (pss_cons (ps_setLc (i := 3) (own := [("one", 12)]) (g := gName 12) (by rfl) sc_law_right.nd rfl rfl (sw_true rfl rfl rfl (by decide +kernel)) (pi_listK (K := K) (pv 2)) (blkOk_by (own := [("one", 12)]) (N := ["pool", "far", "kept", "passed", "secrets", "counts_here", "turn", "which", "long", "due", "bad", "wrong", "one"]) (sc := defScope s_law_right) (by decide +kernel)) (fun _ _ _ _ _ => (pg_name (i := 12) sc_law_right.nd rfl (Or.inl rfl))) (fun _ _ _ _ _ => pts_nil) (fun _ _ _ _ _ => (pe_callTy (list_ofK (K := K)) (by rfl) B.list (by decide +kernel) (pa_cons (pv 12) pa_nil))))
  (pss_cons (ps_set (i := 4) sc_law_right.nd rfl (Or.inl rfl) (pe_lst (pa_cons (pe_mk c_HiddenList hr (by first | decide | omega) (by rfl) (pa_cons (pe_ix (ix_listK (K := K)) (pv 3) pe_int (fun _ _ => rfl)) pa_nil)) (pa_cons (pe_mkk c_HiddenListK hr (by first | decide | omega) (by rfl) (pk_cons (pe_ix (ix_listK (K := K)) (pv 3) pe_int (fun _ _ => rfl)) pk_nil)) pa_nil))))
  (pss_cons (ps_if (pt_cmpR (op_neDK (K := K) hr.units) (pv 3) (pv 2) (nomark _)) (pss_one (ps_ret pe_bl)) pss_nil)
  (pss_cons (ps_expr (pe_bm0 PySem.F.plainAttrs_list PySem.F.slot_list_clear PySem.F.type_list_clear mt_clear (pe_ix (ix_listK (K := K)) (pv 3) pe_int (fun _ _ => rfl))))
  (pss_cons (ps_expr (pe_bm PySem.F.plainAttrs_list PySem.F.slot_list_append PySem.F.type_list_append mt_append (pe_ix (ix_listK (K := K)) (pv 3) pe_int (fun _ _ => rfl)) (pa_cons pe_int pa_nil)))
  (pss_cons (ps_set (i := 5) sc_law_right.nd rfl (Or.inl rfl) (pe_lst (pa_cons pe_int (pa_cons pe_int pa_nil))))
  (pss_cons (ps_for PassesOwn.never rfl (pi_range1 (by rfl) B.range (pa_cons (pe_c c_law_draw hr (by first | decide | omega) (by rfl) (pa_cons (pv 0) (pa_cons pe_int pa_nil))) pa_nil)) (pg_name (i := 6) sc_law_right.nd rfl (Or.inl rfl))
   (pss_cons (ps_set (i := 7) sc_law_right.nd rfl (Or.inl rfl) (pe_c c_law_draw hr (by first | decide | omega) (by rfl) (pa_cons (pv 0) (pa_cons pe_int pa_nil))))
  (pss_cons (ps_set (i := 8) sc_law_right.nd rfl (Or.inl rfl) (pe_c c_law_long hr (by first | decide | omega) (by rfl) (pa_cons (pv 0) (pa_cons (pe_ix (ix_listK (K := K)) (pv 2) (pv 7) (fun _ _ => rfl)) pa_nil))))
  (pss_cons (ps_if (pt_cmpR op_eq (pe_c c_law_draw hr (by first | decide | omega) (by rfl) (pa_cons (pv 0) (pa_cons pe_int pa_nil))) pe_int (nomark _)) (pss_one (ps_set (i := 8) sc_law_right.nd rfl (Or.inl rfl) (pe_op op_sub (pe_un un_neg pe_int) (pe_ix (ix_listK (K := K)) (pe_lst (pa_cons pe_int (pa_cons (pe_c c_law_draw hr (by first | decide | omega) (by rfl) (pa_cons (pv 0) (pa_cons (pe_op op_powW pe_int pe_int) pa_nil))) pa_nil))) (pe_c c_law_draw hr (by first | decide | omega) (by rfl) (pa_cons (pv 0) (pa_cons pe_int pa_nil))) (fun _ _ => rfl))))) pss_nil)
  (pss_cons (ps_set (i := 9) sc_law_right.nd rfl (Or.inl rfl) (pe_lst (pa_cons pe_str (pa_cons (pv 8) pa_nil))))
  (pss_cons (ps_if (pt_cmpR op_ge (pv 8) pe_int (nomark _)) (pss_cons (ps_set (i := 9) sc_law_right.nd rfl (Or.inl rfl) (pe_lst (pa_cons (pe_c c_law_after hr (by first | decide | omega) (by rfl) (pa_cons (pv 8) (pa_cons (pe_ix (ix_listK (K := K)) (pv 2) (pv 7) (fun _ _ => rfl)) pa_nil))) pa_nil)))
  (pss_one (ps_asg (pe_op op_add (pe_ix (ix_listK (K := K)) (pv 5) (pv 7) (fun _ _ => rfl)) pe_int) (pg_sub (pv 5) (pv 7) set_list)))) pss_nil)
  (pss_cons (ps_if (pt_cmpR (op_neDK (K := K) hr.units) (pe_c c_law_asked hr (by first | decide | omega) (by rfl) (pa_cons (pe_ix (ix_listK (K := K)) (pv 4) (pv 7) (fun _ _ => rfl)) (pa_cons (pv 8) (pa_cons (pe_cmpR op_eq (pe_c c_law_draw hr (by first | decide | omega) (by rfl) (pa_cons (pv 0) (pa_cons pe_int pa_nil))) pe_int (nomark _)) pa_nil)))) (pv 9) (nomark _)) (pss_one (ps_ret pe_bl)) pss_nil)
  (pss_one (ps_if (pt_cmpR (op_neDK (K := K) hr.units) (pe_lc (own := [("one", 12)]) (g := gName 12) (by rfl) sc_law_right.nd (pi_listK (K := K) (pv 4)) (blkOk_by (own := [("one", 12)]) (N := ["pool", "far", "kept", "passed", "secrets", "counts_here", "turn", "which", "long", "due", "bad", "wrong", "one"]) (sc := defScope s_law_right) (by decide +kernel)) (fun _ _ _ _ _ => (pg_name (i := 12) sc_law_right.nd rfl (Or.inl rfl))) (fun _ _ _ _ _ => pts_nil) (fun _ _ _ _ _ => (pe_p c_questions hr (by first | decide | omega) (pv 12)))) (pv 5) (nomark _)) (pss_one (ps_ret pe_bl)) pss_nil)))))))))
  (pss_cons (ps_set (i := 8) sc_law_right.nd rfl (Or.inl rfl) (pe_op op_add (pe_op op_powW pe_int pe_int) (pe_c c_law_draw hr (by first | decide | omega) (by rfl) (pa_cons (pv 0) (pa_cons pe_int pa_nil)))))
  (pss_cons (ps_if (pt_cmpR op_ne (pe_m c_ask hr (by first | decide | omega) (pe_ix (ix_listK (K := K)) (pv 4) pe_int (fun _ _ => rfl)) (pa_cons (pe_c c_greatest_origin hr (by first | decide | omega) (by rfl) (pa_cons (pv 8) (pa_cons (pe_ix (ix_listK (K := K)) (pv 2) pe_int (fun _ _ => rfl)) pa_nil))) pa_nil)) (pv 8) (nomark _)) (pss_one (ps_ret pe_bl)) pss_nil)
  (pss_cons (ps_asg (pe_c c_law_bad_list hr (by first | decide | omega) (by rfl) (pa_cons (pv 0) (pa_cons (pe_ix (ix_listK (K := K)) (pv 2) pe_int (fun _ _ => rfl)) pa_nil))) (pg_lstK (K := K) (n := 2) rfl (pgs_cons (pg_name (i := 10) sc_law_right.nd rfl (Or.inl rfl)) (pgs_cons (pg_name (i := 11) sc_law_right.nd rfl (Or.inl rfl)) pgs_nil))))
  (pss_one (ps_ret (pe_and (pe_cmpR (op_eqDK (K := K) hr.units) (pe_c c_law_made hr (by first | decide | omega) (by rfl) (pa_cons (pv 10) pa_nil)) (pe_lst (pa_cons pe_str (pa_cons (pv 11) pa_nil))) (nomark _)) (pe_one (pe_cmpR (op_eqDK (K := K) hr.units) (pe_c c_law_made hr (by first | decide | omega) (by rfl) (pa_cons (pe_ix (ix_listK (K := K)) (pv 2) pe_int (fun _ _ => rfl)) pa_nil)) (pe_lst (pa_cons pe_str (pa_cons pe_non pa_nil))) (nomark _)))))))))))))))))), ?_⟩
    walk_at "sq go"
    intro e0 n0
    have g0 := hS.free n0
    have hS1 := hS.new n0 (.lst [.int 9, .int (10 ^ (6 : Int).toNat)])
    walk_at "sq go"
    refine ⟨⟨by decide, by decide, by omega⟩, fun fw H1 f0 f1 hS2 => ?_⟩
    have ge0 : H1 e0 = some (.lst [.int 9, .int (10 ^ (6 : Int).toNat)]) := hS2.get upd_same
    obtain ⟨far, ef, far2, far6⟩ : ∃ v, atI [V.int 9, V.int (10 ^ (6 : Int).toNat)] fw = some (.int v) ∧ 2 ≤ v ∧ v ≤ 10 ^ 6 := by
      obtain ⟨v, e, z⟩ := pick2 (a := V.int 9) (b := V.int (10 ^ (6 : Int).toNat)) f0 f1
      rcases z with rfl | rfl
      · exact ⟨9, e, by decide, by decide⟩
      · exact ⟨_, e, by decide, by decide⟩
    have hS3 := hS2.weak (same_new (o := .lst [.int 9, .int (10 ^ (6 : Int).toNat)]) g0)
    walk_at "sq go"
    refine ⟨⟨by decide, by decide, by omega, by omega, by omega⟩, fun p0 ns0 H2 gp0 len0 row0 hS4 => ?_⟩
    walk_at "sq go"
    refine ⟨⟨by decide, by decide, by omega, by omega, by omega⟩, fun p1 ns1 H3 gp1 len1 row1 hS5 => ?_⟩
    walk_at "sq go"
    intro k nk
    have gk := hS5.free nk
    have hS6 := hS5.new nk (.lst [.ref p0, .ref p1])
    walk_at "sq go"
    intro D nD
    have gD := hS6.free nD
    generalize hG1 : upd (upd (upd G p0 (.lst (iv ns0))) p1 (.lst (iv ns1))) k (.lst [.ref p0, .ref p1]) = G1 at hS6 gD
    have G1k : G1 k = some (.lst [.ref p0, .ref p1]) := by rw [← hG1, upd_same]
    have G11 : G1 p1 = some (.lst (iv ns1)) := by rw [← hG1]; exact upd_keep gk upd_same
    have G10 : G1 p0 = some (.lst (iv ns0)) := by rw [← hG1]; exact upd_keep gk (upd_keep gp1 upd_same)
    have sG1 : Same G G1 := by rw [← hG1]; exact (same_new gp0).trans ((same_new gp1).trans (same_new gk))
    clear hG1
    have hS6 := Sep3.mono (N' := N + 100) hS6 (by omega)
    refine lc_list (K := K) (a := k) (xs := [.ref p0, .ref p1]) (fun i H' => Keep (Cop (rg3 r (N + 100)) G1 D ns0 ns1 i H')) ⟨_, hS6.new nD (.lst []), same_new gD, upd_same⟩ (fun i H' _ h => ?_) (fun i x H' hx h => ?_) (fun H' h => ?_)
    · obtain ⟨G', hs, sg, _⟩ := h.o
      exact seqL_of (hs.get (sg _ _ G1k))
    · obtain ⟨G', hs, sg, z⟩ := h.o
      match i, hx, z with
      | 0, hx, z =>
        cases hx
        have hp := hs.get (sg _ _ G10)
        walk_at "sq go"
        intro l nl
        have gl := hs.free nl
        have hs2 := hs.new nl (.lst (iv ns0))
        have z2 := upd_keep (o := .lst (iv ns0)) gl z
        have hD := hs2.get z2
        walk_at "sq go"
        refine ⟨⟨_, hs2.put z2 (.lst [.ref l]), fun b u e => ?_, l, sg.free gl, nn gl z, upd_same, upd_off (nn gl z) upd_same⟩⟩
        rw [upd_ne (nn gD e).symm, upd_ne (nn (sg.free gl) e).symm]
        exact sg _ _ e
      | 1, hx, z =>
        cases hx
        obtain ⟨q0, gq, q0D, z, zq⟩ := z
        have hp := hs.get (sg _ _ G11)
        walk_at "sq go"
        intro l nl
        have gl := hs.free nl
        have hs2 := hs.new nl (.lst (iv ns1))
        have z2 := upd_keep (o := .lst (iv ns1)) gl z
        have hD := hs2.get z2
        walk_at "sq go"
        refine ⟨⟨_, hs2.put z2 (.lst [.ref q0, .ref l]), fun b u e => ?_, q0, l, gq, sg.free gl, (nn gl zq).symm, q0D, nn gl z, upd_same, upd_off q0D (upd_keep gl zq), upd_off (nn gl z) upd_same⟩⟩
        rw [upd_ne (nn gD e).symm, upd_ne (nn (sg.free gl) e).symm]
        exact sg _ _ e
    · obtain ⟨G2, hS7, sG2, q0, q1, gq0, gq1, q01, q0D, q1D, zD, zq0, zq1⟩ := h.o
      have hD7 := hS7.get zD
      have hq07 := hS7.get zq0
      walk_at "sq go"
      intro o0 d0 nx ndx ne
      have so0 := seqL_of (K := K) (new_keep (v := .own o0) (z := .ins C d0 []) nx ndx ne hq07)
      have hx0 : upd (upd H' d0 (.own o0)) o0 (.ins C d0 []) o0 = some (.ins C d0 []) := upd_same
      walk_at "sq go"
      refine ⟨⟨row0.two⟩, fun l0 H8 nl bt hl hx => ?_⟩
      obtain ⟨go0, gl0, hS8⟩ := made18 hS7 nx ndx ne nl bt hl hx
      have s78 := (same_new (o := .ins C d0 (hf l0 0)) go0).trans (same_new (o := .lst (iv ns0)) gl0)
      have hD8 := hS8.get (s78 _ _ zD)
      have hq18 := hS8.get (s78 _ _ zq1)
      walk_at "sq go"
      intro o1 d1 nx1 ndx1 ne1
      have so1 := seqL_of (K := K) (new_keep (v := .own o1) (z := .ins C d1 []) nx1 ndx1 ne1 hq18)
      have hx1 : upd (upd H8 d1 (.own o1)) o1 (.ins C d1 []) o1 = some (.ins C d1 []) := upd_same
      walk_at "sq go"
      refine ⟨⟨row1.two⟩, fun l1 H9 nl2 bt2 hl2 hx2 => ?_⟩
      obtain ⟨go1, gl1, hS9⟩ := made18 hS8 nx1 ndx1 ne1 nl2 bt2 hl2 hx2
      have s89 := (same_new (o := .ins C d1 (hf l1 0)) go1).trans (same_new (o := .lst (iv ns1)) gl1)
      walk_at "sq go"
      intro sc nsc
      have gsc := hS9.free nsc
      have hS10 := hS9.new nsc (.lst [.ref o0, .ref o1])
      have s910 := same_new (o := .lst [.ref o0, .ref o1]) gsc
      have s710 := (s78.trans s89).trans s910
      have hD10 := hS10.get (s710 _ _ zD)
      have hk10 := hS10.get (s710 _ _ (sG2 _ _ G1k))
      have hq010 := hS10.get (s710 _ _ zq0)
      have hq110 := hS10.get (s710 _ _ zq1)
      walk_at "sq go"
      refine r_neDD (d := dII ns0 ns1) (dp_II hD10 hq010 hq110) (dp_II hk10 (hS10.get (s710 _ _ (sG2 _ _ G10))) (hS10.get (s710 _ _ (sG2 _ _ G11)))) (shaped_II _ _) (eqv_II _ _) ?_
      walk_at "sq go"
      intro cn ncn
      have hS11 := (hS10.put (s710 _ _ zq0) (.lst [])).put (upd_off q01.symm (s710 _ _ zq1)) (.lst (iv ns1 ++ [.int 7]))
      have gcn := hS11.free ncn
      have e0q := upd_keep (o := .ins C d0 (hf l0 0)) go0 zq0
      have e1q := upd_keep (o := .ins C d0 (hf l0 0)) go0 zq1
      have e8o : upd (upd G2 o0 (.ins C d0 (hf l0 0))) l0 (.lst (iv ns0)) o0 = some (.ins C d0 (hf l0 0)) := upd_keep gl0 upd_same
      have sG := sG1.trans fun b u e => put2 (u := .lst []) (v := .lst (iv ns1 ++ [.int 7])) (nn gq0 e).symm (nn gq1 e).symm (s710 _ _ (sG2 _ _ e))
      have hS12 := hS11.new ncn (.lst [.int 0, .int 0])
      have S := (⟨sG.trans (same_new gcn), upd_keep gcn (put2 (nn gq0 G1k).symm (nn gq1 G1k).symm (s710 _ _ (sG2 _ _ G1k))), upd_keep gcn (put2 (nn gq0 G10).symm (nn gq1 G10).symm (s710 _ _ (sG2 _ _ G10))), upd_keep gcn (put2 (nn gq0 G11).symm (nn gq1 G11).symm (s710 _ _ (sG2 _ _ G11))), upd_keep gcn (put2 (b := sc) (nn gsc ((s78.trans s89) _ _ zq0)) (nn gsc ((s78.trans s89) _ _ zq1)) upd_same), upd_keep gcn (put2 (nn go0 zq0) (nn go0 zq1) ((s89.trans s910) _ _ e8o)), upd_keep gcn (put2 (b := o1) (nn go1 (s78 _ _ zq0)) (nn go1 (s78 _ _ zq1)) (s910 _ _ (upd_keep gl1 upd_same))), upd_keep gcn (put2 (b := l0) (nn gl0 e0q) (nn gl0 e1q) ((s89.trans s910) _ _ upd_same)), upd_keep gcn (put2 (b := l1) (nn gl1 (upd_keep go1 (s78 _ _ zq0))) (nn gl1 (upd_keep go1 (s78 _ _ zq1))) (s910 _ _ upd_same)), upd_same, (sG1.trans sG2).free go0, (sG1.trans (sG2.trans s78)).free go1, sG.free gcn, (nn go1 e8o).symm, by
        simp only [List.mem_cons, List.mem_nil_iff, or_false, forall_eq_or_imp, forall_eq]
        exact ⟨(nn gcn (put2 (nn gq0 G1k).symm (nn gq1 G1k).symm (s710 _ _ (sG2 _ _ G1k)))).symm, (nn gcn (put2 (nn gq0 G10).symm (nn gq1 G10).symm (s710 _ _ (sG2 _ _ G10)))).symm, (nn gcn (put2 (nn gq0 G11).symm (nn gq1 G11).symm (s710 _ _ (sG2 _ _ G11)))).symm, (nn gcn (put2 (b := sc) (nn gsc ((s78.trans s89) _ _ zq0)) (nn gsc ((s78.trans s89) _ _ zq1)) upd_same)).symm, (nn gcn (put2 (b := l0) (nn gl0 e0q) (nn gl0 e1q) ((s89.trans s910) _ _ upd_same))).symm, (nn gcn (put2 (b := l1) (nn gl1 (upd_keep go1 (s78 _ _ zq0))) (nn gl1 (upd_keep go1 (s78 _ _ zq1))) (s910 _ _ upd_same))).symm⟩⟩ : S18 G C k p0 p1 sc o0 o1 d0 d1 l0 l1 cn ns0 ns1 0 0 _)
      obtain ⟨G3, hS13, S13⟩ : ∃ G', Sep (rg3 r (N + 100)) G' _ ∧ S18 G C k p0 p1 sc o0 o1 d0 d1 l0 l1 cn ns0 ns1 0 0 G' := ⟨_, hS12, S⟩
      clear S hS12 hS11 hS10 hS9 hS8 hS7 hS6 hS5 hS4 hS3 hS2 hS1
      walk_at "sq go"
      refine ⟨⟨by decide, by decide, by omega⟩, fun tn H4 t0 t1 hS14 => ?_⟩
      walk_at "sq go"
      refine for_range (lo := 0) (n := tn.toNat) (fun i σ H' => Keep (∃ m0 m1 G' x6 x7 x8 x9, σ = [some (.ref r), some (.int far), some (.ref k), some (.ref D), some (.ref sc), some (.ref cn), x6, x7, x8, x9, none, none, none] ∧ Sep (rg3 r (N + 101 + 20 * i)) G' H' ∧ S18 G C k p0 p1 sc o0 o1 d0 d1 l0 l1 cn ns0 ns1 m0 m1 G'))
        ⟨0, 0, G3, _, _, _, _, rfl, Sep3.mono hS14 (by omega), S13⟩ (fun i σ H' hi h => ?_) (fun σ H' h => ?_)
      · obtain ⟨m0, m1, G', x6, x7, x8, x9, rfl, hs, S⟩ := h.o
        clear hS13 S13 hS14
        walk_at "sq go"
        refine ⟨⟨by decide, by decide, by omega⟩, fun w' H1 w0 w1 hs1 => ?_⟩
        obtain ⟨p, ns, o, d, l, j, ep, eo, ⟨row, len⟩, ej, pk⟩ := S18.pick G C k p0 p1 sc o0 o1 d0 d1 l0 l1 cn (w := w') (by omega) ⟨row0, len0⟩ ⟨row1, Nat.le_trans len1 (by decide)⟩
        -- DEVCUT
        have row6 : Row ns (10 ^ 6) := row.mono far6
        have mid : Mid ns := row6.mid (by decide)
        have hk1 := hs1.get S.gk
        obtain ⟨m, gp, _⟩ := pk _ _ _ S
        walk_at "sq go"
        refine ⟨⟨row6, len, by omega⟩, fun n H2 n0 n1 hs2 => ?_⟩
        walk_at "sq go"
        refine ⟨⟨by decide, by decide, by omega⟩, fun b H3 b0 b1 hs3 => ?_⟩
        walk_at "sq go"
        refine ifI (fun eb => ?_) (fun nb => ?_)
        · walk_at "sq go"
          refine ⟨⟨by decide, by decide, by omega⟩, fun v H4 v0 v1 hs4 => ?_⟩
          walk_at "sq go"
          intro e1 ne1
          have ge1 := hs4.free ne1
          have hs5 := hs4.new ne1 (.lst [.int 0, .int v])
          walk_at "sq go"
          refine ⟨⟨by decide, by decide, by omega⟩, fun y H5 y0 y1 hs6 => ?_⟩
          have he1 : H5 e1 = some (.lst [.int 0, .int v]) := hs6.get upd_same
          obtain ⟨u, eu, u0⟩ : ∃ u, atI [V.int 0, V.int v] y = some (.int u) ∧ 0 ≤ u := by
            obtain ⟨u, e, z⟩ := pick2 (a := V.int 0) (b := V.int v) y0 y1
            rcases z with rfl | rfl
            · exact ⟨0, e, by decide⟩
            · exact ⟨v, e, v0⟩
          have hs7 := hs6.weak (same_new (o := .lst [.int 0, .int v]) ge1)
          walk_at "sq go"
          intro e2 ne2
          have ge2 := hs7.free ne2
          have hs8 := hs7.new ne2 (.lst [.str "number", .int (-1 - u)])
          have S2 := S.new ge2 (.lst [.str "number", .int (-1 - u)])
          obtain ⟨m2, gp2, go2, gl2, _⟩ := pk _ _ _ S2
          walk_at "sq go"
          refine ifD (fun c => absurd c (by omega)) (fun c => ?_)
          have hsc := hs8.get S2.gs
          walk_at "sq go"
          refine ⟨⟨by decide, by decide, by omega⟩, fun z H6 z0 z1 hs9 => ?_⟩
          have ho9 := hs9.get go2
          have hl9 := hs9.get gl2
          walk_at "sq go"
          refine ⟨⟨mid, fun h0 => absurd h0 (by omega), fun _ t H7 s7 nt ht => ?_⟩⟩
          have he2 : H7 e2 = some (.lst [.str "number", .int (-1 - u)]) := s7 _ _ (hs9.get upd_same)
          walk_at "sq go"
          refine r_neDD (d := dW "number" (-1 - u)) (dp_W ht) (dp_W he2) (shaped_W (by decide +kernel)) (eqv_W _ _) ?_
          walk_at "sq go"
          obtain ⟨GT, a0, a1, hT, ST⟩ : ∃ GT a0 a1, Sep (rg3 r _) GT H7 ∧ S18 G C k p0 p1 sc o0 o1 d0 d1 l0 l1 cn ns0 ns1 a0 a1 GT := ⟨_, _, _, hs9.on s7, S2⟩
          have hTs := hT.get ST.gs
          walk_at "sq go"
          intro D2 nD2
          have gD2 := hT.free nD2
          have gT0 := fun (u : HO) => upd_keep (o := u) gD2 ST.h0
          have gT1 := fun (u : HO) => upd_keep (o := u) gD2 ST.h1
          have gTs := fun (u : HO) => upd_keep (o := u) gD2 ST.gs
          have gTc := fun (u : HO) => upd_keep (o := u) gD2 ST.c
          refine lc_list (K := K) (a := sc) (xs := [.ref o0, .ref o1]) (fun i2 H' => Keep (Sep (rg3 r (N + 101 + 20 * i + 19)) (upd GT D2 (.lst (iv (([a0, a1] : List Int).take i2)))) H')) ⟨Sep3.mono (hT.new nD2 (.lst [])) (by omega)⟩ (fun i2 H' _ h => ?_) (fun i2 x H' hx h => ?_) (fun H' h => ?_)
          · exact seqL_of (h.o.get (gTs _))
          · have hv := h.o
            match i2, hx, hv with
            | 0, hx, hv =>
              cases hx
              have ho := hv.get (gT0 _)
              have hDv := hv.get upd_same
              walk_at "sq go"
              refine ⟨?_⟩
              have hv2 := hv.put upd_same (.lst [.int a0])
              rw [upd_upd] at hv2
              exact hv2
            | 1, hx, hv =>
              cases hx
              have ho := hv.get (gT1 _)
              have hDv := hv.get upd_same
              walk_at "sq go"
              refine ⟨?_⟩
              have hv2 := hv.put upd_same (.lst [.int a0, .int a1])
              rw [upd_upd] at hv2
              exact hv2
          · have hv := h.o
            have hcn := hv.get (gTc _)
            walk_at "sq go"
            refine r_neI (xs := [a0, a1]) (ys := [a0, a1]) (seqL_of (hv.get upd_same)) (seqL_of hcn) ?_
            walk_at "sq go"
            refine ifN (fun c => absurd rfl c) (fun _ => ?_)
            walk_at "sq go"
            exact ⟨a0, a1, GT, _, _, _, _, rfl, Sep3.mono (hv.weak (same_new gD2)) (by omega), ST⟩
        · walk_at "sq go"
          intro e2 ne2
          have ge2 := hs3.free ne2
          have hs4 := hs3.new ne2 (.lst [.str "number", .int n])
          have S2 := S.new ge2 (.lst [.str "number", .int n])
          obtain ⟨m2, gp2, go2, gl2, em2, _⟩ := pk _ _ _ S2
          have hk4 := hs4.get S2.gk
          have hp4 := seqL_of (K := K) (hs4.get gp2)
          walk_at "sq go"
          refine ifD (fun c => ?_) (fun c => absurd n0 c)
          walk_at "sq go"
          refine ⟨⟨mid⟩, ?_⟩
          walk_at "sq go"
          intro e3 ne3
          have ge3 := hs4.free ne3
          have hs5 := hs4.new ne3 (.lst [.int (sqz n ns)])
          have S3 := S2.new ge3 (.lst [.int (sqz n ns)])
          obtain ⟨m3, gp3, go3, gl3, em3, npc, noc, nlc, m0', m1', eset, S4⟩ := pk _ _ _ S3
          have hcn5 := hs5.get S3.c
          have ej' := ej m0 m1
          have hs6 := hs5.put S3.c (.lst ([V.int m0, V.int m1].set j (.int (m3 + 1))))
          have hsc6 := hs6.get (upd_off (S3.cf sc (by simp)) S3.gs)
          walk_at "sq go"
          rw [eset] at hs6 hsc6 ⊢
          refine ⟨⟨by decide, by decide, by omega⟩, fun z H6 z0 z1 hs7 => ?_⟩
          have ho7 := hs7.get (upd_off noc go3)
          have hl7 := hs7.get (upd_off nlc gl3)
          walk_at "sq go"
          refine ⟨⟨mid, fun _ t H7 b7 nt hx7 ht => ?_, fun h0 => absurd h0 (by omega)⟩⟩
          have he3c : e3 ≠ cn := nn ge3 S2.c
          have he3o : e3 ≠ o := nn ge3 go2
          have he3 : H7 e3 = some (.lst [.int (sqz n ns)]) := b7 _ _ he3o (hs7.get (upd_off he3c upd_same))
          walk_at "sq go"
          refine r_neI (xs := [sqz n ns]) (ys := [sqz n ns]) (seqL_of ht) (seqL_of he3) ?_
          walk_at "sq go"
          refine ifN (fun c => absurd rfl c) (fun _ => ?_)
          obtain ⟨GT, a0, a1, hT, ST⟩ : ∃ GT a0 a1, Sep (rg3 r _) GT H7 ∧ S18 G C k p0 p1 sc o0 o1 d0 d1 l0 l1 cn ns0 ns1 a0 a1 GT := ⟨_, _, _, hs7.but (upd_off noc go3) b7 hx7, S4⟩
          have hTs := hT.get ST.gs
          walk_at "sq go"
          intro D2 nD2
          have gD2 := hT.free nD2
          have gT0 := fun (u : HO) => upd_keep (o := u) gD2 ST.h0
          have gT1 := fun (u : HO) => upd_keep (o := u) gD2 ST.h1
          have gTs := fun (u : HO) => upd_keep (o := u) gD2 ST.gs
          have gTc := fun (u : HO) => upd_keep (o := u) gD2 ST.c
          refine lc_list (K := K) (a := sc) (xs := [.ref o0, .ref o1]) (fun i2 H' => Keep (Sep (rg3 r (N + 101 + 20 * i + 19)) (upd GT D2 (.lst (iv (([a0, a1] : List Int).take i2)))) H')) ⟨Sep3.mono (hT.new nD2 (.lst [])) (by omega)⟩ (fun i2 H' _ h => ?_) (fun i2 x H' hx h => ?_) (fun H' h => ?_)
          · exact seqL_of (h.o.get (gTs _))
          · have hv := h.o
            match i2, hx, hv with
            | 0, hx, hv =>
              cases hx
              have ho := hv.get (gT0 _)
              have hDv := hv.get upd_same
              walk_at "sq go"
              refine ⟨?_⟩
              have hv2 := hv.put upd_same (.lst [.int a0])
              rw [upd_upd] at hv2
              exact hv2
            | 1, hx, hv =>
              cases hx
              have ho := hv.get (gT1 _)
              have hDv := hv.get upd_same
              walk_at "sq go"
              refine ⟨?_⟩
              have hv2 := hv.put upd_same (.lst [.int a0, .int a1])
              rw [upd_upd] at hv2
              exact hv2
          · have hv := h.o
            have hcn := hv.get (gTc _)
            walk_at "sq go"
            refine r_neI (xs := [a0, a1]) (ys := [a0, a1]) (seqL_of (hv.get upd_same)) (seqL_of hcn) ?_
            walk_at "sq go"
            refine ifN (fun c => absurd rfl c) (fun _ => ?_)
            walk_at "sq go"
            exact ⟨a0, a1, GT, _, _, _, _, rfl, Sep3.mono (hv.weak (same_new gD2)) (by omega), ST⟩
        -- DEVEND
      · obtain ⟨m0, m1, G', x6, x7, x8, x9, rfl, hs, S⟩ := h.o
        clear hS13 S13 hS14
        walk_at "sq go"
        refine ⟨⟨by decide, by decide, by omega⟩, fun b H1 b0 b1 hs1 => ?_⟩
        have hk1 := hs1.get S.gk
        have hsc1 := hs1.get S.gs
        have hp1 := seqL_of (K := K) (hs1.get S.g0)
        have ho1 := hs1.get S.h0
        have big : (0 : Int) ≤ 10 ^ (29 : Int).toNat + b ∧ 10 ^ (29 : Int).toNat + b < 2 ^ 120 := by
          rw [show ((10 : Int) ^ Int.toNat 29) = 10 ^ 29 from rfl]
          omega
        have row06 : Row ns0 (10 ^ 6) := row0.mono far6
        have mid0 : Mid ns0 := row06.mid (by decide)
        walk_at "sq go"
        refine ⟨⟨big.1, row06.two, row_fit row06 len0 big.1 big.2⟩, fun H2 s2 => ?_⟩
        have hs2 := hs1.on s2
        have ho2 := hs2.get S.h0
        have hl2 := hs2.get S.i0
        have pos := prodL_pos row06.two
        walk_at "sq go"
        refine ⟨⟨mid0, Int.mul_nonneg big.1 (by omega), fun H3 b3 hx3 => ?_⟩⟩
        have hs3 := hs2.but S.h0 b3 hx3
        rw [sqz_mul row06.two]
        walk_at "sq go"
        refine ifN (fun c => absurd rfl c) (fun _ => ?_)
        have no : ∀ {b : Addr} {xs : List V}, G' b = some (.lst xs) → b ≠ o0 := fun h => ne_obj h S.h0 (fun z => by cases z)
        have fk := upd_off (o := .ins C d0 (hf l0 (m0 + 1))) (no S.gk) S.gk
        have f0 := upd_off (o := .ins C d0 (hf l0 (m0 + 1))) (no S.g0) S.g0
        have f1 := upd_off (o := .ins C d0 (hf l0 (m0 + 1))) (no S.g1) S.g1
        have hk3 := hs3.get fk
        have hp3 := seqL_of (K := K) (hs3.get f1)
        have sGB : Same G (upd G' o0 (.ins C d0 (hf l0 (m0 + 1)))) := fun c u e => by
          rw [upd_ne (nn S.n0 e).symm]
          exact S.same c u e
        walk_at "sq go"
        refine ⟨⟨by omega, by omega⟩, fun a t ms i H4 ga gt nat badi hs4 => ?_⟩
        have ht4 := seqL_of (K := K) (hs4.get upd_same)
        have ha4 := seqL_of (K := K) (hs4.get (upd_off nat upd_same))
        walk_at "sq go"
        refine ⟨⟨fun e => (nomatch e.symm.trans badi), fun i' e t2 H5 s5 nt2 ht2 => ?_⟩⟩
        rw [badi] at e
        cases e
        walk_at "sq go"
        intro t3 nt3
        refine r_eqDD (d := dW "list" (i : Nat)) (dp_W (upd_keep nt3 ht2)) (dp_W upd_same) (shaped_W (by decide +kernel)) (eqv_W _ _) ?_
        have s6 := s5.trans (same_new (o := .lst [.str "list", .int (i : Nat)]) nt3)
        have gtk : upd (upd G' o0 (.ins C d0 (hf l0 (m0 + 1)))) a (.lst (iv ms)) t = none := by
          rw [upd_ne nat.symm]
          exact gt
        have hs6 := (hs4.weak ((same_new ga).trans (same_new gtk))).on s6
        have hk6 := hs6.get fk
        have hp6 := seqL_of (K := K) (hs6.get f0)
        walk_at "sq go"
        refine ⟨⟨fun _ t4 H7 s7 nt4 ht4 => ?_, fun i' e => by
          rw [bad_none.mpr row06.two] at e
          cases e⟩⟩
        walk_at "sq go"
        intro t5 nt5
        refine r_eqDD (d := dN "none") (dp_N (upd_keep nt5 ht4)) (dp_N upd_same) (shaped_N (by decide +kernel)) (eqv_N _) ?_
        exact q _ (Sep3.mono (((hs6.on s7).on (same_new nt5)).weak sGB) (by omega))

abbrev s_law : Stmt := topS 29
theorem sc_law : FnScope ["script", "at", "pool", "turn"] ["script"] (defScope s_law) := ⟨rfl, rfl, rfl, by decide +kernel, rfl, by decide +kernel, by decide +kernel⟩

def spLaw (K : PySem.W.Frag) : Sp := fun vs H Q _ => ∃ (a : Addr) (ns : List Int), vs = [.ref a] ∧ SqL K H a (iv ns) ∧ ns.length ≤ 63 ∧ ∀ H', Q (.bl true) H'
local macro_rules | `(tactic| walk_at "sq side") => `(tactic| first
  | ((with_reducible show List.lookup _ _ = _); first | exact hf_hidden _ _ | exact hf_asked _ _ | exact hf_ask _ _))
theorem ok_law {C : Addr} {f : Addr} {fd : FuncData} (F : Fun K "law" "law" s_law f fd) (B : Bt mg) (c_law_pool : Cal P w K mg base 1 "_law_pool" (spPool K) []) (c_law_right : Cal P w K mg base 7 "_law_right" spRight [])
    (c_HiddenList : Mak P w K mg base 4 "HiddenList" C (spHInit K C)) (c_ask : Met P w K mg base 5 C "ask" (spHAskC C)) : FnG P w K mg base CX0 8 f fd ["script"] (spLaw K) := by
  refine okG F sc_law (fun vs H Q E h => ?_) (fun cdv A outer s H vs Q E hG hr h => ?_)
  · obtain ⟨a, ns, rfl, _⟩ := h
    rfl
  · obtain ⟨p0, ns0, rfl, hP, hl, q⟩ := h
    refine ⟨_, (pss_cons (ps_for PassesOwn.never rfl (pi_range1 (by rfl) B.range (pa_cons (pe_callB (call_max2 rfl) (by rfl) B.max (by decide +kernel) (pa_cons pe_int (pa_cons (pe_callB (call_min2 rfl) (by rfl) B.min (by decide +kernel) (pa_cons pe_int (pa_cons (pe_callB (len_seqK (K := K)) (by rfl) B.len boot_len (pa_cons (pv 0) pa_nil)) pa_nil))) pa_nil))) pa_nil)) (pg_name (i := 1) sc_law.nd rfl (Or.inl rfl))
   (pss_cons (ps_set (i := 2) sc_law.nd rfl (Or.inl rfl) (pe_c c_law_pool hr (by first | decide | omega) (by rfl) (pa_cons (pv 0) (pa_cons (pv 1) pa_nil))))
  (pss_one (ps_for PassesOwn.never rfl (pi_range1 (by rfl) B.range (pa_cons pe_int pa_nil)) (pg_name (i := 3) sc_law.nd rfl (Or.inl rfl))
   (pss_one (ps_if (pt_not (pt_val (pe_c c_law_right hr (by first | decide | omega) (by rfl) (pa_cons (pv 2) pa_nil)))) (pss_one (ps_ret pe_bl)) pss_nil))))))
  (pss_one (ps_ret (pe_and (pe_cmpR op_eq (pe_m c_ask hr (by first | decide | omega) (pe_mk c_HiddenList hr (by first | decide | omega) (by rfl) (pa_cons (pe_lst pa_nil) pa_nil)) (pa_cons (pe_op op_powW pe_int pe_int) pa_nil)) (pe_op op_powW pe_int pe_int) (nomark _)) (pe_one (pe_cmpR op_eq (pe_m c_ask hr (by first | decide | omega) (pe_mk c_HiddenList hr (by first | decide | omega) (by rfl) (pa_cons (pe_lst (pa_cons pe_int (pa_cons pe_int pa_nil))) pa_nil)) (pa_cons pe_int pa_nil)) pe_int (nomark _))))))), ?_⟩
    have el : (iv ns0).length = ns0.length := iv_len _
    walk_at "sq go"
    refine for_range (lo := 0) (n := _) (fun i σ H' => Keep (∃ a1 a2 a3, σ = [some (.ref p0), a1, a2, a3] ∧ Same H H' ∧ i ≤ 8)) ⟨_, _, _, rfl, .refl H, by omega⟩ (fun i σ H' hi h => ?_) (fun σ H' h => ?_)
    · obtain ⟨a1, a2, a3, rfl, s1, hi6⟩ := h.o
      have hP1 := s1.seq hP
      walk_at "sq go"
      refine ⟨⟨by omega, by omega⟩, fun r H2 s2 hS => ?_⟩
      walk_at "sq go"
      refine for_range (lo := 0) (n := _) (fun j σ H4 => Keep (∃ a3, σ = [some (.ref p0), some (.int (0 + (i : Int))), some (.ref r), a3] ∧ Sep (rg3 r (1000 * j)) H' H4)) ⟨_, rfl, Sep3.mono hS (by omega)⟩ (fun j σ H4 hj h => ?_) (fun σ H4 h => ?_)
      · obtain ⟨a3, rfl, hs⟩ := h.o
        have hj4 : j < 2 := hj
        walk_at "sq go"
        refine ⟨⟨by omega⟩, fun H5 hs5 => ?_⟩
        walk_at "sq go"
        exact ⟨_, rfl, Sep3.mono hs5 (by omega)⟩
      · obtain ⟨a3, rfl, hs⟩ := h.o
        refine ⟨_, _, _, rfl, s1.trans hs.same, ?_⟩
        (repeat' split at hi) <;> omega
    · obtain ⟨a1, a2, a3, rfl, s1, hi6⟩ := h.o
      walk_at "sq go"
      intro e1 ne1
      walk_at "sq go"
      intro x1 dx1 nx ndx ne
      have so1 := seqL_of (K := K) (a := e1) (H := upd (upd (upd H' e1 (.lst [])) dx1 (.own x1)) x1 (.ins C dx1 [])) (xs := iv []) (new_keep nx ndx ne (by rw [upd_same]; rfl))
      have hx1 : upd (upd (upd H' e1 (.lst [])) dx1 (.own x1)) x1 (.ins C dx1 []) x1 = some (.ins C dx1 []) := upd_same
      walk_at "sq go"
      refine ⟨⟨by decide⟩, fun l1 K1 nl bt hl hx => ?_⟩
      walk_at "sq go"
      refine ⟨⟨fun _ z => (nomatch z), by decide, fun H2 b2 hx2 => ?_⟩⟩
      walk_at "sq go"
      intro e2 ne2
      walk_at "sq go"
      intro x2 dx2 nx2 ndx2 nex2
      have so2 := seqL_of (K := K) (a := e2) (H := upd (upd (upd H2 e2 (.lst [.int 3, .int 2])) dx2 (.own x2)) x2 (.ins C dx2 [])) (xs := iv [3, 2]) (new_keep nx2 ndx2 nex2 (by rw [upd_same]; rfl))
      have hx22 : upd (upd (upd H2 e2 (.lst [.int 3, .int 2])) dx2 (.own x2)) x2 (.ins C dx2 []) x2 = some (.ins C dx2 []) := upd_same
      walk_at "sq go"
      refine ⟨⟨by decide⟩, fun l2 K2 nl2 bt2 hl2 hx3 => ?_⟩
      walk_at "sq go"
      refine ⟨⟨(fun k hk => (by
        rcases List.mem_cons.mp hk with rfl | hk
        · exact ⟨by decide, by decide⟩
        · rcases List.mem_cons.mp hk with rfl | hk
          · exact ⟨by decide, by decide⟩
          · cases hk)), by decide, fun H3 b3 hx4 => ?_⟩⟩
      walk_at "sq go"
      exact q _
end
end Sq
open PySem PySem.W PyProof.Rows in
set_option maxRecDepth 100000 in
set_option maxHeartbeats 0 in
theorem PySem.Challenge.cw_squeezelists_k18_hidden_lists_answer_holds : PySem.Challenge.rw_squeezelists_k18_hidden_lists_answer.Holds := by
  w_on; o_law; k_head; (case hw => w_witness2)
  k_fill
  refine Sq.walk_ofG (l := PySem.Challenge.rw_squeezelists_k18_hidden_lists_answer) (n := 63) (k := 8) (x := "script") (sp := Sq.spLaw) rfl (by decide) rfl ⟨rfl, by decide, by decide⟩ (fun w h Y => PySem.W.kIn_of Y) ?F (fun K H a ns hl hS => ⟨a, ns, rfl, hS, hl, fun _ => rfl⟩)
  case F =>
    intro w mg fa h KX G hmg
    have B : Sq.Bt mg := by
      refine' ⟨PySem.W.mg_none_of KX G ?z0, PySem.W.mg_none_of KX G ?z1, PySem.W.mg_none_of KX G ?z2, PySem.W.mg_none_of KX G ?z3, PySem.W.mg_none_of KX G ?z4, PySem.W.mg_none_of KX G ?z5, PySem.W.mg_none_of KX G ?z6, PySem.W.mg_none_of KX G ?z7, PySem.W.mg_none_of KX G ?z8⟩
      (case z0 => k_is)
      (case z1 => k_is)
      (case z2 => k_is)
      (case z3 => k_is)
      (case z4 => k_is)
      (case z5 => k_is)
      (case z6 => k_is)
      (case z7 => k_is)
      (case z8 => k_is)
    refine' Sq.cutD (Sq.DefAt.mk1 (x := "check_list") (st := Sq.s_check_list) (ps := ["replacements"]) KX G ?a_check_list ?l_check_list ?c_check_list ?k_check_list (fun _ _ _ _ _ _ us hl => match us, hl with | [_], _ => rfl)) ?_
    (case a_check_list => k_is); (case l_check_list => k_is); (case c_check_list => k_is); (case k_check_list => k_is)
    intro D_check_list
    refine' Sq.cutD (Sq.DefAt.mk1 (x := "check_length") (st := Sq.s_check_length) (ps := ["length"]) KX G ?a_check_length ?l_check_length ?c_check_length ?k_check_length (fun _ _ _ _ _ _ us hl => match us, hl with | [_], _ => rfl)) ?_
    (case a_check_length => k_is); (case l_check_length => k_is); (case c_check_length => k_is); (case k_check_length => k_is)
    intro D_check_length
    refine' Sq.cutD (Sq.DefAt.mk1 (x := "squeezed_once") (st := Sq.s_squeezed_once) (ps := ["length", "replacement"]) KX G ?a_squeezed_once ?l_squeezed_once ?c_squeezed_once ?k_squeezed_once (fun _ _ _ _ _ _ us hl => match us, hl with | [_, _], _ => rfl)) ?_
    (case a_squeezed_once => k_is); (case l_squeezed_once => k_is); (case c_squeezed_once => k_is); (case k_squeezed_once => k_is)
    intro D_squeezed_once
    refine' Sq.cutD (Sq.DefAt.mk1 (x := "squeezed_by") (st := Sq.s_squeezed_by) (ps := ["length", "replacements"]) KX G ?a_squeezed_by ?l_squeezed_by ?c_squeezed_by ?k_squeezed_by (fun _ _ _ _ _ _ us hl => match us, hl with | [_, _], _ => rfl)) ?_
    (case a_squeezed_by => k_is); (case l_squeezed_by => k_is); (case c_squeezed_by => k_is); (case k_squeezed_by => k_is)
    intro D_squeezed_by
    refine' Sq.cutD (Sq.DefAt.mk1 (x := "squeezed") (st := Sq.s_squeezed) (ps := ["length", "replacements"]) KX G ?a_squeezed ?l_squeezed ?c_squeezed ?k_squeezed (fun _ _ _ _ _ _ us hl => match us, hl with | [_, _], _ => rfl)) ?_
    (case a_squeezed => k_is); (case l_squeezed => k_is); (case c_squeezed => k_is); (case k_squeezed => k_is)
    intro D_squeezed
    refine' Sq.cutD (Sq.DefAt.mk1 (x := "greatest_origin_of") (st := Sq.s_greatest_origin_of) (ps := ["length", "replacements"]) KX G ?a_greatest_origin_of ?l_greatest_origin_of ?c_greatest_origin_of ?k_greatest_origin_of (fun _ _ _ _ _ _ us hl => match us, hl with | [_, _], _ => rfl)) ?_
    (case a_greatest_origin_of => k_is); (case l_greatest_origin_of => k_is); (case c_greatest_origin_of => k_is); (case k_greatest_origin_of => k_is)
    intro D_greatest_origin_of
    refine' Sq.cutD (Sq.DefAt.mk1 (x := "greatest_origin") (st := Sq.s_greatest_origin) (ps := ["length", "replacements"]) KX G ?a_greatest_origin ?l_greatest_origin ?c_greatest_origin ?k_greatest_origin (fun _ _ _ _ _ _ us hl => match us, hl with | [_, _], _ => rfl)) ?_
    (case a_greatest_origin => k_is); (case l_greatest_origin => k_is); (case c_greatest_origin => k_is); (case k_greatest_origin => k_is)
    intro D_greatest_origin
    refine' Sq.cutD (Sq.DefAt.mk1 (x := "_law_pool") (st := Sq.s_law_pool) (ps := ["script", "at"]) KX G ?a_law_pool ?l_law_pool ?c_law_pool ?k_law_pool (fun _ _ _ _ _ _ us hl => match us, hl with | [_, _], _ => rfl)) ?_
    (case a_law_pool => k_is); (case l_law_pool => k_is); (case c_law_pool => k_is); (case k_law_pool => k_is)
    intro D_law_pool
    refine' Sq.cutD (Sq.DefAt.mk1 (x := "_law_draw") (st := Sq.s_law_draw) (ps := ["pool", "many"]) KX G ?a_law_draw ?l_law_draw ?c_law_draw ?k_law_draw (fun _ _ _ _ _ _ us hl => match us, hl with | [_, _], _ => rfl)) ?_
    (case a_law_draw => k_is); (case l_law_draw => k_is); (case c_law_draw => k_is); (case k_law_draw => k_is)
    intro D_law_draw
    refine' Sq.cutD (Sq.DefAt.mk1 (x := "_law_list") (st := Sq.s_law_list) (ps := ["pool", "most", "far"]) KX G ?a_law_list ?l_law_list ?c_law_list ?k_law_list (fun _ _ _ _ _ _ us hl => match us, hl with | [_, _, _], _ => rfl)) ?_
    (case a_law_list => k_is); (case l_law_list => k_is); (case c_law_list => k_is); (case k_law_list => k_is)
    intro D_law_list
    refine' Sq.cutD (Sq.DefAt.mk1 (x := "_law_after") (st := Sq.s_law_after) (ps := ["long", "numbers"]) KX G ?a_law_after ?l_law_after ?c_law_after ?k_law_after (fun _ _ _ _ _ _ us hl => match us, hl with | [_, _], _ => rfl)) ?_
    (case a_law_after => k_is); (case l_law_after => k_is); (case c_law_after => k_is); (case k_law_after => k_is)
    intro D_law_after
    refine' Sq.cutD (Sq.DefAt.mk1 (x := "_law_kind") (st := Sq.s_law_kind) (ps := ["caught"]) KX G ?a_law_kind ?l_law_kind ?c_law_kind ?k_law_kind (fun _ _ _ _ _ _ us hl => match us, hl with | [_], _ => rfl)) ?_
    (case a_law_kind => k_is); (case l_law_kind => k_is); (case c_law_kind => k_is); (case k_law_kind => k_is)
    intro D_law_kind
    refine' Sq.cutD (Sq.DefAt.mk1 (x := "_law_bad_list") (st := Sq.s_law_bad_list) (ps := ["pool", "numbers"]) KX G ?a_law_bad_list ?l_law_bad_list ?c_law_bad_list ?k_law_bad_list (fun _ _ _ _ _ _ us hl => match us, hl with | [_, _], _ => rfl)) ?_
    (case a_law_bad_list => k_is); (case l_law_bad_list => k_is); (case c_law_bad_list => k_is); (case k_law_bad_list => k_is)
    intro D_law_bad_list
    refine' Sq.cutD (Sq.DefAt.mk1 (x := "_law_made") (st := Sq.s_law_made) (ps := ["numbers"]) KX G ?a_law_made ?l_law_made ?c_law_made ?k_law_made (fun _ _ _ _ _ _ us hl => match us, hl with | [_], _ => rfl)) ?_
    (case a_law_made => k_is); (case l_law_made => k_is); (case c_law_made => k_is); (case k_law_made => k_is)
    intro D_law_made
    refine' Sq.cutD (Sq.DefAt.mk1 (x := "_law_asked") (st := Sq.s_law_asked) (ps := ["secret", "long", "by_name"]) KX G ?a_law_asked ?l_law_asked ?c_law_asked ?k_law_asked (fun _ _ _ _ _ _ us hl => match us, hl with | [_, _, _], _ => rfl)) ?_
    (case a_law_asked => k_is); (case l_law_asked => k_is); (case c_law_asked => k_is); (case k_law_asked => k_is)
    intro D_law_asked
    refine' Sq.cutD (Sq.DefAt.mk1 (x := "_law_long") (st := Sq.s_law_long) (ps := ["pool", "numbers"]) KX G ?a_law_long ?l_law_long ?c_law_long ?k_law_long (fun _ _ _ _ _ _ us hl => match us, hl with | [_, _], _ => rfl)) ?_
    (case a_law_long => k_is); (case l_law_long => k_is); (case c_law_long => k_is); (case k_law_long => k_is)
    intro D_law_long
    refine' Sq.cutD (Sq.DefAt.mk1 (x := "_law_right") (st := Sq.s_law_right) (ps := ["pool"]) KX G ?a_law_right ?l_law_right ?c_law_right ?k_law_right (fun _ _ _ _ _ _ us hl => match us, hl with | [_], _ => rfl)) ?_
    (case a_law_right => k_is); (case l_law_right => k_is); (case c_law_right => k_is); (case k_law_right => k_is)
    intro D_law_right
    refine' Sq.cutD (Sq.DefAt.mk1 (x := "law") (st := Sq.s_law) (ps := ["script"]) KX G ?a_law ?l_law ?c_law ?k_law (fun _ _ _ _ _ _ us hl => match us, hl with | [_], _ => rfl)) ?_
    (case a_law => k_is); (case l_law => k_is); (case c_law => k_is); (case k_law => k_is)
    intro D_law
    refine' Sq.cutD (Sq.glob_mk (x := "HiddenList") KX G ?aC_HiddenList) ?_
    (case aC_HiddenList => k_is)
    intro C_HiddenList
    refine' Sq.cutD (Sq.cls_mk KX C_HiddenList ?pg_HiddenList ?hd_HiddenList ?po_HiddenList ?sa_HiddenList) ?_
    (case pg_HiddenList => k_is); (case hd_HiddenList => k_is); (case po_HiddenList => k_is); (case sa_HiddenList => k_is)
    intro K_HiddenList
    refine' Sq.cutD (Sq.noat_mk (m := "hidden") KX C_HiddenList ?n_HiddenList_hidden) ?_
    (case n_HiddenList_hidden => k_is)
    intro N_HiddenList_hidden
    refine' Sq.cutD (Sq.noat_mk (m := "asked") KX C_HiddenList ?n_HiddenList_asked) ?_
    (case n_HiddenList_asked => k_is)
    intro N_HiddenList_asked
    refine' Sq.cutD (Sq.IniAt.mk1 (x := "HiddenList") (qual := "HiddenList.__init__") (st := Sq.s_HiddenList___init__) (ps := ["self", "replacements"]) KX C_HiddenList ?a_HiddenList___init__ ?l_HiddenList___init__ ?c_HiddenList___init__ ?k_HiddenList___init__ ?mk_HiddenList___init__ ?i_HiddenList___init__ ?kc_HiddenList___init__ (fun _ _ _ _ _ _ us hl => match us, hl with | [_, _], _ => rfl)) ?_
    (case a_HiddenList___init__ => k_is); (case l_HiddenList___init__ => k_is); (case c_HiddenList___init__ => k_is); (case k_HiddenList___init__ => k_is); (case mk_HiddenList___init__ => k_is); (case i_HiddenList___init__ => k_is); (case kc_HiddenList___init__ => k_is)
    intro D_HiddenList___init__
    refine' Sq.cutD (Sq.MetAt.mk1 (m := "ask") (qual := "HiddenList.ask") (st := Sq.s_HiddenList_ask) (ps := ["self", "length"]) KX C_HiddenList ?a_HiddenList_ask ?l_HiddenList_ask ?c_HiddenList_ask ?k_HiddenList_ask ?i_HiddenList_ask (fun _ _ _ _ _ _ us hl => match us, hl with | [_, _], _ => rfl)) ?_
    (case a_HiddenList_ask => k_is); (case l_HiddenList_ask => k_is); (case c_HiddenList_ask => k_is); (case k_HiddenList_ask => k_is); (case i_HiddenList_ask => k_is)
    intro D_HiddenList_ask
    refine' Sq.cutD (Sq.PrpAt.mk1 (m := "questions") (qual := "HiddenList.questions") (st := Sq.s_HiddenList_questions) (ps := ["self"]) KX C_HiddenList ?a_HiddenList_questions ?g_HiddenList_questions ?t_HiddenList_questions ?r_HiddenList_questions ?l_HiddenList_questions ?c_HiddenList_questions ?k_HiddenList_questions (fun _ _ _ _ _ _ us hl => match us, hl with | [_], _ => rfl)) ?_
    (case a_HiddenList_questions => k_is); (case g_HiddenList_questions => k_is); (case t_HiddenList_questions => k_is); (case r_HiddenList_questions => k_is); (case l_HiddenList_questions => k_is); (case c_HiddenList_questions => k_is); (case k_HiddenList_questions => k_is)
    intro D_HiddenList_questions
    refine' Sq.cutD (Sq.glob_mk (x := "InvalidList") KX G ?aC_InvalidList) ?_
    (case aC_InvalidList => k_is)
    intro C_InvalidList
    refine' Sq.cutD (Sq.glob_mk (x := "InvalidNumber") KX G ?aC_InvalidNumber) ?_
    (case aC_InvalidNumber => k_is)
    intro C_InvalidNumber
    refine' Sq.cutD (Sq.glob_mk (x := "InvalidCharacter") KX G ?aC_InvalidCharacter) ?_
    (case aC_InvalidCharacter => k_is)
    intro C_InvalidCharacter
    refine' Sq.cutD (Sq.glob_mk (x := "NothingToUndo") KX G ?aC_NothingToUndo) ?_
    (case aC_NothingToUndo => k_is)
    intro C_NothingToUndo
    refine' Sq.cutD (Sq.glob_mk (x := "Unreadable") KX G ?aC_Unreadable) ?_
    (case aC_Unreadable => k_is)
    intro C_Unreadable
    refine' Sq.cutD (Sq.glob_mk (x := "SqueezeError") KX G ?aC_SqueezeError) ?_
    (case aC_SqueezeError => k_is)
    intro C_SqueezeError
    refine' Sq.cutD (Sq.knd_mk KX C_InvalidList C_InvalidList C_InvalidNumber C_InvalidCharacter C_NothingToUndo C_Unreadable C_SqueezeError ?hg_InvalidList ?hk_InvalidList ?hs_InvalidList ?hd_InvalidList ?ha_InvalidList ?hn_InvalidList ?ht_InvalidList ?hm_InvalidList ?nv_InvalidList ?k1_InvalidList ?k2_InvalidList ?k3_InvalidList ?k4_InvalidList ?k5_InvalidList ?kS_InvalidList ?kV_InvalidList ?x1_InvalidList ?x2_InvalidList ?x3_InvalidList ?x4_InvalidList) ?_
    (case hg_InvalidList => k_is)
    (case hk_InvalidList => k_is)
    (case hs_InvalidList => k_is)
    (case hd_InvalidList => k_is)
    (case ha_InvalidList => k_is)
    (case hn_InvalidList => k_is)
    (case ht_InvalidList => k_is)
    (case hm_InvalidList => k_is)
    (case nv_InvalidList => k_is)
    (case k1_InvalidList => kit_is)
    (case k2_InvalidList => kit_is)
    (case k3_InvalidList => kit_is)
    (case k4_InvalidList => kit_is)
    (case k5_InvalidList => kit_is)
    (case kS_InvalidList => kit_is)
    (case kV_InvalidList => kit_is)
    (case x1_InvalidList => k_is)
    (case x2_InvalidList => k_is)
    (case x3_InvalidList => k_is)
    (case x4_InvalidList => k_is)
    intro N_InvalidList
    refine' Sq.cutD (Sq.knd_mk KX C_InvalidNumber C_InvalidList C_InvalidNumber C_InvalidCharacter C_NothingToUndo C_Unreadable C_SqueezeError ?hg_InvalidNumber ?hk_InvalidNumber ?hs_InvalidNumber ?hd_InvalidNumber ?ha_InvalidNumber ?hn_InvalidNumber ?ht_InvalidNumber ?hm_InvalidNumber ?nv_InvalidNumber ?k1_InvalidNumber ?k2_InvalidNumber ?k3_InvalidNumber ?k4_InvalidNumber ?k5_InvalidNumber ?kS_InvalidNumber ?kV_InvalidNumber ?x1_InvalidNumber ?x2_InvalidNumber ?x3_InvalidNumber ?x4_InvalidNumber) ?_
    (case hg_InvalidNumber => k_is)
    (case hk_InvalidNumber => k_is)
    (case hs_InvalidNumber => k_is)
    (case hd_InvalidNumber => k_is)
    (case ha_InvalidNumber => k_is)
    (case hn_InvalidNumber => k_is)
    (case ht_InvalidNumber => k_is)
    (case hm_InvalidNumber => k_is)
    (case nv_InvalidNumber => k_is)
    (case k1_InvalidNumber => kit_is)
    (case k2_InvalidNumber => kit_is)
    (case k3_InvalidNumber => kit_is)
    (case k4_InvalidNumber => kit_is)
    (case k5_InvalidNumber => kit_is)
    (case kS_InvalidNumber => kit_is)
    (case kV_InvalidNumber => kit_is)
    (case x1_InvalidNumber => k_is)
    (case x2_InvalidNumber => k_is)
    (case x3_InvalidNumber => k_is)
    (case x4_InvalidNumber => k_is)
    intro N_InvalidNumber
    have hi : Sq.Hid _ _ := ⟨K_HiddenList, N_HiddenList_hidden, N_HiddenList_asked⟩
    have c6 : Sq.Cls6 mg _ _ _ _ _ _ := ⟨C_InvalidList, C_InvalidNumber, C_InvalidCharacter, C_NothingToUndo, C_Unreadable, C_SqueezeError⟩
    have kn : Sq.Knds _ _ _ _ _ _ _ := ⟨N_InvalidList, N_InvalidNumber⟩
    obtain ⟨fd, F, hb⟩ := D_law.law hmg (fun _ _ _ _ _ _ us hl => match us, hl with | [_], _ => rfl)
    refine ⟨fd, hb, fun base _ _ => ?_⟩
    refine' Sq.cutD (Sq.rai_mk (P := PySem.Challenge.rw_squeezelists_k18_hidden_lists_answer.prog) (w := w) (base := base) KX G C_InvalidList ?lC_InvalidList ?rC_InvalidList ?sa_InvalidList ?ex_InvalidList ?ty_InvalidList ?kc_InvalidList ?ini_InvalidList ?tyf_InvalidList ?l_InvalidList ?co_InvalidList ?cell_InvalidList ?rec__InvalidList ?v2_InvalidList ?fl_InvalidList ?top_InvalidList ?opq_InvalidList ?sup_InvalidList ?veb_InvalidList ?slf_InvalidList ?val_InvalidList ?ms_InvalidList ?he_InvalidList ?hb_InvalidList) ?_
    (case lC_InvalidList => k_is)
    (case rC_InvalidList => decide +kernel)
    (case sa_InvalidList => k_is)
    (case ex_InvalidList => k_is)
    (case ty_InvalidList => k_is)
    (case kc_InvalidList => k_is)
    (case ini_InvalidList => k_is)
    (case tyf_InvalidList => k_is)
    (case l_InvalidList => k_is)
    (case co_InvalidList => k_is)
    (case cell_InvalidList => k_is)
    (case rec__InvalidList => k_is)
    (case v2_InvalidList => rfl)
    (case fl_InvalidList => rfl)
    (case top_InvalidList => rfl)
    (case opq_InvalidList => k_is)
    (case sup_InvalidList => ks_is)
    (case veb_InvalidList => k_is)
    (case slf_InvalidList => k_is)
    (case val_InvalidList => k_is)
    (case ms_InvalidList => k_is)
    (case he_InvalidList => exact fun _ => rfl)
    (case hb_InvalidList => exact fun us hl => match us, hl with | [_, _], _ => rfl)
    intro R_InvalidList
    refine' Sq.cutD (Sq.rai_mk (P := PySem.Challenge.rw_squeezelists_k18_hidden_lists_answer.prog) (w := w) (base := base) KX G C_InvalidNumber ?lC_InvalidNumber ?rC_InvalidNumber ?sa_InvalidNumber ?ex_InvalidNumber ?ty_InvalidNumber ?kc_InvalidNumber ?ini_InvalidNumber ?tyf_InvalidNumber ?l_InvalidNumber ?co_InvalidNumber ?cell_InvalidNumber ?rec__InvalidNumber ?v2_InvalidNumber ?fl_InvalidNumber ?top_InvalidNumber ?opq_InvalidNumber ?sup_InvalidNumber ?veb_InvalidNumber ?slf_InvalidNumber ?val_InvalidNumber ?ms_InvalidNumber ?he_InvalidNumber ?hb_InvalidNumber) ?_
    (case lC_InvalidNumber => k_is)
    (case rC_InvalidNumber => decide +kernel)
    (case sa_InvalidNumber => k_is)
    (case ex_InvalidNumber => k_is)
    (case ty_InvalidNumber => k_is)
    (case kc_InvalidNumber => k_is)
    (case ini_InvalidNumber => k_is)
    (case tyf_InvalidNumber => k_is)
    (case l_InvalidNumber => k_is)
    (case co_InvalidNumber => k_is)
    (case cell_InvalidNumber => k_is)
    (case rec__InvalidNumber => k_is)
    (case v2_InvalidNumber => rfl)
    (case fl_InvalidNumber => rfl)
    (case top_InvalidNumber => rfl)
    (case opq_InvalidNumber => k_is)
    (case sup_InvalidNumber => ks_is)
    (case veb_InvalidNumber => k_is)
    (case slf_InvalidNumber => k_is)
    (case val_InvalidNumber => k_is)
    (case ms_InvalidNumber => k_is)
    (case he_InvalidNumber => exact fun _ => rfl)
    (case hb_InvalidNumber => exact fun us hl => match us, hl with | [_, _], _ => rfl)
    intro R_InvalidNumber
    have cclx := Sq.cal_check_listX (P := PySem.Challenge.rw_squeezelists_k18_hidden_lists_answer.prog) (w := w) (base := base) D_check_list B R_InvalidList
    have clnx := Sq.cal_check_lengthX (P := PySem.Challenge.rw_squeezelists_k18_hidden_lists_answer.prog) (w := w) (base := base) D_check_length B R_InvalidNumber
    have ccl := Sq.calm_list cclx
    have cln := Sq.calm_length clnx
    have csq := Sq.cal_squeezed_p D_squeezed B cln ccl (Sq.cal_squeezed_by D_squeezed_by B (Sq.cal_squeezed_once D_squeezed_once B))
    have ask := Sq.met_askX D_HiddenList_ask hi B clnx csq
    have mk := Sq.mak_hiddenX D_HiddenList___init__ hi B cclx
    have mk0 : Sq.Mak _ _ _ _ _ _ _ _ (Sq.spHInit _ _) := mk.1.calm fun vs H Q E h => Sq.hinit_calm h
    have ask0 : Sq.Met _ _ _ _ _ _ _ _ (Sq.spHAskC _) := ask.1.calm fun vs H Q E h => Sq.hask_calm h
    have cd := Sq.cal_draw (P := PySem.Challenge.rw_squeezelists_k18_hidden_lists_answer.prog) (w := w) (base := base) D_law_draw B
    have kd := Sq.cal_kind (P := PySem.Challenge.rw_squeezelists_k18_hidden_lists_answer.prog) (w := w) (base := base) D_law_kind B c6
    refine Sq.ok_law F B (Sq.cal_pool D_law_pool B) (Sq.cal_right D_law_right B cd (Sq.cal_list D_law_list B cd) mk0 mk.2 (Sq.prp_questions D_HiddenList_questions hi B) ask0 (Sq.cal_long D_law_long B cd) (Sq.cal_after D_law_after B)
      (Sq.cal_asked D_law_asked B c6 kn ask.1 ask.2 (Sq.kind_num kd kn)) (Sq.cal_greatest_origin D_greatest_origin B cln ccl (Sq.cal_greatest_origin_of D_greatest_origin_of B)) (Sq.cal_bad_list D_law_bad_list B cd) (Sq.cal_made D_law_made B c6 kn mk.1 (Sq.kind_list kd kn))) mk0 ask0
