import PyProof.Rows.All
import Wide.All
import OpenK.AllK
import Wide.FinOn
import HandS.ForMost
import HandS.Wide
import HandS.Style
import HandS.SortInts
import HandS.Deep
import HandS.Defaults
import HandS.Flow
import HandS.IsInst
import HandS.Codes
import HandS.NoneIn
import HandS.Property
import HandS.RaiseMore
import PyProof.ReprRoads
import PyProof.LongRange
import HandS.Exc
import HandS.ExcInit
import HandS.NestedK
import KE.KExcSuper
import HandS.ExcIs
import HandS.ExcField
import KE.KExcIs
import HandS.WordsExc
import HandS.MakeKwOnly
import HandS.SetFor
import KE.RegKIsAll
import HandS.Walk
import HandS.Star
import KE.KUnpackStar
import KE.IntTextText
import PySem.Challenge.RW_squeezelists_k41_texts_read
set_option Elab.async false
set_option linter.all false
set_option maxRecDepth 100000
set_option maxHeartbeats 4000000
namespace Sq
open PySem PySem.Spec PyProof.Rows L2
/-! ## operators -/
/-- a power whose base has at most 100000 bits -/
def CPowW (i j : Int) : Prop := 0 ≤ j ∧ j ≤ 1000 ∧ i.natAbs.log2 < 100000
theorem bitsOf_le (i : Int) : Builtin.Int.intBits i ≤ i.natAbs.log2 + 1 := by
  unfold Builtin.Int.intBits
  split <;> omega
theorem op_powW {X : Cx} : OpR X (binaryOp .Pow) (rI CPowW fun i j => .int (i ^ j.toNat)) := opI fun i j _ _ _ _ _ hc q => by
  obtain ⟨h1, h2, h3⟩ := hc
  refine pow_int h1 ?_ q
  have hb := bitsOf_le i
  have h4 : ((Builtin.Int.intBits i : Nat) : Int) ≤ 100000 := by omega
  have h5 := Int.mul_le_mul h4 h2 h1 (by decide : (0 : Int) ≤ 100000)
  exact Int.le_trans h5 (by decide)
def ipIC (C : Int → Int → Prop) (f : Int → Int → Int) : TIp := fun x y H Q => ∃ i j, x = .int i ∧ y = .int j ∧ C i j ∧ Q (.int (f i j)) H
section
variable {X : Cx}
theorem ip_mulW : PIp X .Mult (ipIC CMulW fun i j => i * j) := by
  intro pins s σ H x y v u Q I r1 r2 h
  obtain ⟨i, j, e1, e2, c, q⟩ := h
  subst e1; subst e2
  obtain ⟨t, rfl⟩ := r1
  obtain ⟨t', rfl⟩ := r2
  exact imul_int ⟨.int _, H, I.tok _, ⟨_, rfl⟩, q⟩ c.ok
theorem ip_fdivW : PIp X .FloorDiv (ipIC CDivW fun i j => i / j) := by
  intro pins s σ H x y v u Q I r1 r2 h
  obtain ⟨i, j, e1, e2, c, q⟩ := h
  subst e1; subst e2
  obtain ⟨t, rfl⟩ := r1
  obtain ⟨t', rfl⟩ := r2
  have h1 : (0 : Int) < j := c.1
  refine ifloordiv_int (by omega) ?_ (.inl (PyProof.noPylong_of_log2 c.2))
  rw [Int.fdiv_eq_ediv_of_nonneg i (by omega)]
  exact ⟨.int _, H, I.tok _, ⟨_, rfl⟩, q⟩
end
/-- numbers below 2 ^ n have a small log2 -/
theorem lg_lt {i : Int} {n : Nat} (h : i.natAbs < 2 ^ n) (h0 : 0 < n) : i.natAbs.log2 < n := PySem.Flt.log2_lt_of h0 h

/-! ## sizes -/
/-- at most b bits -/
def Sm (b : Nat) (i : Int) : Prop := i.natAbs < 2 ^ b
theorem Sm.mono {a b : Nat} {i : Int} (h : Sm a i) (hab : a ≤ b) : Sm b i := Nat.lt_of_lt_of_le h (Nat.pow_le_pow_right (by decide) hab)
theorem Sm.lg {b : Nat} {i : Int} (h : Sm b i) (h0 : 0 < b) : i.natAbs.log2 < b := PySem.Flt.log2_lt_of h0 h
theorem Sm.add {b : Nat} {i j : Int} (h : Sm b i) (h' : Sm b j) : Sm (b + 1) (i + j) := by
  have e : 2 ^ (b + 1) = 2 ^ b + 2 ^ b := by rw [Nat.pow_succ]; omega
  unfold Sm at *
  omega
theorem Sm.neg {b : Nat} {i : Int} (h : Sm b i) : Sm b (-i) := by
  unfold Sm at *
  rw [Int.natAbs_neg]
  exact h
theorem Sm.sub {b : Nat} {i j : Int} (h : Sm b i) (h' : Sm b j) : Sm (b + 1) (i - j) := by
  rw [Int.sub_eq_add_neg]
  exact h.add h'.neg
theorem Sm.mul {a b : Nat} {i j : Int} (h : Sm a i) (h' : Sm b j) : Sm (a + b) (i * j) := by
  unfold Sm at *
  rw [Int.natAbs_mul, Nat.pow_add]
  exact Nat.mul_lt_mul'' h h'
theorem Sm.le {b : Nat} {i j : Int} (h : Sm b j) (h0 : 0 ≤ i) (hij : i ≤ j) : Sm b i := by
  unfold Sm at *
  omega
theorem Sm.wide {a b : Nat} {i j : Int} (h : Sm a i) (h' : Sm b j) (ha : 0 < a) (hb : 0 < b) (hab : a + b ≤ 1000000) : CMulW i j := by
  have h1 := h.lg ha
  have h2 := h'.lg hb
  unfold CMulW
  omega
/-- a small number -/
theorem Sm.of {b : Nat} {i : Int} (h : i.natAbs < 2 ^ 10) (hb : 10 ≤ b) : Sm b i := Sm.mono (a := 10) h hb
theorem div_ok {i k : Int} (h : 0 < k) (h2 : k < 2 ^ 240) : CDivW i k := ⟨h, Nat.lt_trans ((show Sm 240 k by unfold Sm; omega).lg (by decide)) (by decide)⟩
theorem pow_ok {b : Nat} {i j : Int} (h : Sm b i) (h0 : 0 < b) (hb : b ≤ 100000) (j0 : 0 ≤ j) (j1 : j ≤ 1000) : CPowW i j := ⟨j0, j1, Nat.lt_of_lt_of_le (h.lg h0) hb⟩
/-! ## rules whose reading speaks of the written part K itself (a comprehension's block has it too) -/
section
variable {X : Cx} {K : PySem.W.Frag}
theorem ix_listK (h : X.K = K := by rfl) : IxR X (rIxL K) := by subst h; exact ix_list
theorem ix_tupK (h : X.K = K := by rfl) : IxR X (rIxT K) := by subst h; exact ix_tup
theorem sl_listK (h : X.K = K := by rfl) : SlR X (rSlL K) := by subst h; exact sl_list
theorem sl_tupK (h : X.K = K := by rfl) : SlR X (rSlT K) := by subst h; exact sl_tup
def rLenQ (K : PySem.W.Frag) : List V → Hp → VK → Prop := fun xs H Q => ∃ p ys, xs = [.ref p] ∧ SqL K H p ys ∧ Q (.int ys.length) H
theorem len_seqK (h : X.K = K := by rfl) : CallR X (.builtin "len") (rLenQ K) := by
  subst h
  intro pins s σ H xs us Q I r q
  obtain ⟨p, ys, e, hs, q⟩ := q
  exact call_len_seq pins s σ H xs us Q I r ⟨p, ys, e, .inl hs, q⟩
/-- readings that are not to be opened by themselves -/
@[irreducible] def rEqQ (K : PySem.W.Frag) : R2 := rEqD K
@[irreducible] def rNeQ (K : PySem.W.Frag) : R2 := rNeD K
@[irreducible] def rInQ (K : PySem.W.Frag) : R2 := rInD K
@[irreducible] def rNotInQ (K : PySem.W.Frag) : R2 := rNotInD K
theorem rEqQ_of {H : Hp} {x y : V} {Q : VK} (h : rEqD K x y H Q) : rEqQ K x y H Q := by unfold rEqQ; exact h
theorem rNeQ_of {H : Hp} {x y : V} {Q : VK} (h : rNeD K x y H Q) : rNeQ K x y H Q := by unfold rNeQ; exact h
theorem rInQ_of {H : Hp} {x y : V} {Q : VK} (h : rInD K x y H Q) : rInQ K x y H Q := by unfold rInQ; exact h
theorem rNotInQ_of {H : Hp} {x y : V} {Q : VK} (h : rNotInD K x y H Q) : rNotInQ K x y H Q := by unfold rNotInQ; exact h
theorem op_eqDK (hu : X.A.units + 64 < cLine) (h : X.K = K := by rfl) : OpR X (compareOp .Eq) (rEqQ K) := by subst h; unfold rEqQ; exact op_eqD hu
theorem op_neDK (hu : X.A.units + 64 < cLine) (h : X.K = K := by rfl) : OpR X (compareOp .NotEq) (rNeQ K) := by subst h; unfold rNeQ; exact op_neD hu
theorem op_inDK (hu : X.A.units + 65 < cLine) (h : X.K = K := by rfl) : OpR X (compareOp .In) (rInQ K) := by subst h; unfold rInQ; exact op_inD hu
theorem op_notInDK (hu : X.A.units + 65 < cLine) (h : X.K = K := by rfl) : OpR X (compareOp .NotIn) (rNotInQ K) := by subst h; unfold rNotInQ; exact op_notInD hu
theorem isiK (h : X.K = K := by rfl) : CallR X (.builtin "isinstance") (rIsi K) := by subst h; exact call_isi
def rListOf (K : PySem.W.Frag) : List V → Hp → VK → Prop := fun xs H Q => ∃ p ys, xs = [.ref p] ∧ SqL K H p ys ∧ ∀ l, H l = none → Q (.ref l) (upd H l (.lst ys))
theorem list_ofK (h : X.K = K := by rfl) : CallR X (.type "list") (rListOf K) := by
  subst h
  intro pins s σ H xs us Q I r q
  obtain ⟨p, ys, e, hs, q⟩ := q
  exact call_list_of pins s σ H xs us Q I r ⟨p, ys, e, .inl hs, q⟩
theorem cr_sumK (hc : X.calm = true) (h : X.K = K := by rfl) : CallR X (.builtin "sum") (rSum K) := by subst h; exact cr_sum hc
theorem cr_maxK (hc : X.calm = true) (h : X.K = K := by rfl) : CallR X (.builtin "max") (rMax K) := by subst h; exact cr_max hc
theorem cr_minK (hc : X.calm = true) (h : X.K = K := by rfl) : CallR X (.builtin "min") (rMin K) := by subst h; exact cr_min hc
theorem cr_allK (hc : X.calm = true) (h : X.K = K := by rfl) : CallR X (.builtin "all") (rAll K) := by subst h; exact cr_all hc
theorem cr_anyK (hc : X.calm = true) (h : X.K = K := by rfl) : CallR X (.builtin "any") (rAny K) := by subst h; exact cr_any hc
theorem cr_sortedIK (h : X.K = K := by rfl) : CallR X (.builtin "sorted") (rSortedI K) := by subst h; exact cr_sortedI
variable {e a b : Expr} {te ta tb : TE} {es : List Expr} {t : TA} {tgs : TGs} {tg : Expr} {pos p q : Pos} {n : Nat}
theorem pi_listK (he : PE X e te) (h : X.K = K := by rfl) : PI X tg e (iList K te) := by subst h; exact pi_list he
theorem pg_tupK {k : Nat} (hc : X.calm = true) (hg : PGs X es tgs) (hn : (assignEach es X.env).length = n := by rfl) (hst : (assignEach es X.env).findIdx? (·.1) = none := by rfl) (h : X.K = K := by rfl) : PG X (.Tuple es k pos) (gTup K n tgs) := by
  subst h
  exact pg_tup hc hg hn hst
theorem pg_lstK {k : Nat} (hc : X.calm = true) (hg : PGs X es tgs) (hn : (assignEach es X.env).length = n := by rfl) (hst : (assignEach es X.env).findIdx? (·.1) = none := by rfl) (h : X.K = K := by rfl) : PG X (.Tuple es k pos) (gUnl K n tgs) := by
  subst h
  exact pg_unl hc hg hn hst
theorem pi_enumK {elts : List Expr} {kk : Nat} (hg : Gl X "enumerate") (hm : X.mg "enumerate" = none) (ha : PA X [e] t) (hs : starEach [e] X.env = [(false, eval e X.env)] := by rfl) (h : X.K = K := by rfl) :
    PI X (.Tuple elts kk p) (.Call (.Name "enumerate" q) [e] [] pos) (iEnum K t) := by
  subst h
  exact pi_enum hg hm ha hs
theorem pi_zipK {elts : List Expr} {kk : Nat} (hg : Gl X "zip") (hm : X.mg "zip" = none) (ha : PA X [a, b] t) (hs : starEach [a, b] X.env = (false, eval a X.env) :: starEach [b] X.env := by rfl)
    (hpl : (backTo pos (starEach [b] X.env)).any (·.1) = false := by rfl) (h : X.K = K := by rfl) : PI X (.Tuple elts kk p) (.Call (.Name "zip" q) [a, b] [] pos) (iZip K t) := by
  subst h
  exact pi_zip hg hm ha hs hpl
theorem pe_revLK {k : Nat} {p1 p2 p3 : Pos} (he : PE X e te) (h : X.K = K := by rfl) : PE X (.Subscript e (.Slice none none (some (.UnaryOp .USub (.Constant (.int 1) k p1) p2)) p3) pos) (tRevL K te) := by
  subst h
  exact pe_revL he
theorem pe_fldK {f : Str} (he : PE X e te) (hb : attributeBase e f X.env (eval e X.env) = eval e X.env := by rfl) (h : X.K = K := by rfl) : PE X (.Attribute e f pos) (tFld K te f) := by
  subst h
  exact pe_fld he hb
end

/-! ## heaps -/
/-- what holds between the turns of a loop (a wrapper: it is not taken apart by itself) -/
structure Keep (P : Prop) : Prop where
  o : P

theorem Same.get {H H' : Hp} {a : Addr} {o : HO} (s : Same H H') (h : H a = some o) : H' a = some o := s a o h
theorem same_new {H : Hp} {p : Addr} {o : HO} (h : H p = none) : Same H (upd H p o) := fun b u e => by
  rw [upd_ne (ne_of_none e h)]
  exact e
theorem upd_keep {H : Hp} {p a : Addr} {o u : HO} (n : H p = none) (h : H a = some u) : upd H p o a = some u := same_new n a u h
theorem upd_off {H : Hp} {p a : Addr} {o u : HO} (n : a ≠ p) (h : H a = some u) : upd H p o a = some u := by
  rw [upd_ne n]
  exact h
/-- a source of draws: what is true of it, where it stands -/
structure Rg where
  I : Hp → Prop
  S : Addr → Prop
  loc : ∀ H H' : Hp, (∀ a, S a → H' a = H a) → I H → I H'
  has : ∀ (H : Hp) (a : Addr), I H → S a → H a ≠ none
/-- the heap H is the quiet part G and the source -/
structure Sep (R : Rg) (G H : Hp) : Prop where
  inv : R.I H
  same : Same G H
  off : ∀ a, R.S a → G a = none
section
variable {R : Rg} {G G' H H' : Hp} {p a : Addr} {o u : HO}
theorem Sep.get (s : Sep R G H) (h : G a = some o) : H a = some o := s.same a o h
theorem Sep.free (s : Sep R G H) (h : H p = none) : G p = none := s.same.free h
theorem Sep.weak (s : Sep R G H) (h : Same G' G) : Sep R G' H := ⟨s.inv, h.trans s.same, fun a ha => by
  cases q : G' a with
  | none => rfl
  | some o =>
    have z := h a o q
    rw [s.off a ha] at z
    cases z⟩
theorem Sep.new (s : Sep R G H) (h : H p = none) (o : HO) : Sep R (upd G p o) (upd H p o) := by
  have np : ∀ a, R.S a → a ≠ p := fun a ha e => R.has H a s.inv ha (by rw [e]; exact h)
  refine ⟨R.loc H _ (fun a ha => upd_ne (np a ha)) s.inv, fun b x e => ?_, fun a ha => by rw [upd_ne (np a ha)]; exact s.off a ha⟩
  by_cases hb : b = p
  · rw [hb, upd_same] at e
    rw [hb, upd_same]
    exact e
  · rw [upd_ne hb] at e
    rw [upd_ne hb]
    exact s.same b x e
/-- a store into an object of the quiet part -/
theorem Sep.put (s : Sep R G H) (h : G p = some u) (o : HO) : Sep R (upd G p o) (upd H p o) := by
  have np : ∀ a, R.S a → a ≠ p := fun a ha e => by
    have z := s.off a ha
    rw [e, h] at z
    cases z
  refine ⟨R.loc H _ (fun a ha => upd_ne (np a ha)) s.inv, fun b x e => ?_, fun a ha => by rw [upd_ne (np a ha)]; exact s.off a ha⟩
  by_cases hb : b = p
  · rw [hb, upd_same] at e
    rw [hb, upd_same]
    exact e
  · rw [upd_ne hb] at e
    rw [upd_ne hb]
    exact s.same b x e
/-- behind something that only makes new things -/
theorem Sep.on (s : Sep R G H) (h : Same H H') : Sep R G H' := by
  refine ⟨R.loc H _ (fun a ha => ?_) s.inv, s.same.trans h, s.off⟩
  cases q : H a with
  | none => exact absurd q (R.has H a s.inv ha)
  | some o => exact h a o q
theorem Sep.grow (s : Sep R G H) (h : Same H H') (n : H p = none) (e : H' p = some o) : Sep R (upd G p o) H' := by
  have s' := s.on h
  have np : ∀ a, R.S a → a ≠ p := fun a ha z => R.has H a s.inv ha (by rw [z]; exact n)
  refine ⟨s'.inv, fun b x q => ?_, fun a ha => by rw [upd_ne (np a ha)]; exact s.off a ha⟩
  by_cases hb : b = p
  · rw [hb, upd_same] at q
    rw [hb, e]
    exact q
  · rw [upd_ne hb] at q
    exact s'.same b x q
end
/-- a source of draws that is a list of three ints: digits, a mix, a count that is at most N -/
def R3 (r : Addr) (N a b c : Int) (H : Hp) : Prop := H r = some (.lst [.int a, .int b, .int c]) ∧ 0 ≤ a ∧ 0 ≤ b ∧ b < 2 ^ 100 ∧ 0 ≤ c ∧ c ≤ N
def rg3 (r : Addr) (N : Int) : Rg where
  I := fun H => ∃ a b c, R3 r N a b c H
  S := fun x => x = r
  loc := fun H H' e ⟨a, b, c, h1, h2⟩ => ⟨a, b, c, (e r rfl).trans h1, h2⟩
  has := fun H x ⟨a, b, c, h1, _⟩ hx => by
    subst hx
    rw [h1]
    exact fun z => nomatch z
theorem Sep3.redo {r : Addr} {N N' : Int} {G H : Hp} {o : HO} (s : Sep (rg3 r N) G H) (h : ∃ a b c, R3 r N' a b c (upd H r o)) : Sep (rg3 r N') G (upd H r o) := by
  refine ⟨h, fun b u q => ?_, s.off⟩
  have nr : b ≠ r := fun z => by
    have := s.off b z
    rw [q] at this
    cases this
  rw [upd_ne nr]
  exact s.same b u q
theorem Sep3.mono {r : Addr} {N N' : Int} {G H : Hp} (s : Sep (rg3 r N) G H) (h : N ≤ N') : Sep (rg3 r N') G H := by
  obtain ⟨a, b, c, h1, h2, h3, h4, h5, h6⟩ := s.inv
  exact ⟨⟨a, b, c, h1, h2, h3, h4, h5, by omega⟩, s.same, s.off⟩
/-- a draw from it -/
def spDraw3 : Sp := fun vs H Q _ => ∃ (r : Addr) (m N : Int) (G : Hp), vs = [.ref r, .int m] ∧ Sep (rg3 r N) G H ∧ Keep (0 < m ∧ m < 2 ^ 240 ∧ N < 2 ^ 60) ∧ ∀ v H', 0 ≤ v → v < m → Sep (rg3 r (N + 1)) G H' → Q (.int v) H'
theorem seqL_of {K : PySem.W.Frag} {H : Hp} {a : Addr} {xs : List V} (h : H a = some (.lst xs)) : SqL K H a xs := .inl (.inl h)
/-- ints as values -/
abbrev iv (ns : List Int) : List V := ns.map V.int
theorem iv_app (ns : List Int) (x : Int) : iv ns ++ [V.int x] = iv (ns ++ [x]) := by simp
theorem iv_len (ns : List Int) : (iv ns).length = ns.length := List.length_map _
theorem iv_get {ns : List Int} {i : Nat} {x : V} (h : (iv ns)[i]? = some x) : ∃ n, ns[i]? = some n ∧ x = .int n := by
  rw [List.getElem?_map] at h
  cases e : ns[i]? with
  | none =>
    rw [e] at h
    cases h
  | some n =>
    rw [e] at h
    exact ⟨n, rfl, (Option.some.inj h).symm⟩

theorem atI_iv {ns : List Int} {i : Int} (h0 : 0 ≤ i) (h1 : i < ns.length) : ∃ n, atI (iv ns) i = some (.int n) := by
  obtain ⟨j, rfl⟩ := Int.eq_ofNat_of_zero_le h0
  have hj : j < ns.length := by omega
  exact ⟨ns[j], atI_nat (by rw [List.getElem?_map, List.getElem?_eq_getElem hj]; rfl)⟩
theorem seqIx0 {n : Nat} (h : 0 < n) : seqIndex? 0 n = some 0 := by
  unfold seqIndex?
  simp
  omega
theorem lit_len {n : Nat} (h : n ≤ 1000) : n ≤ sizeLine := Nat.le_of_lt (small1000 h)
/-- for i, x in enumerate(xs) -/
theorem for_enum {K : PySem.W.Frag} {a : Addr} {xs : List V} {g : TG} {tb : TS} {D : Ends} {σ : L2.St} {H : Hp} (Pv : Nat → L2.St → Hp → Prop) (h0 : Pv 0 σ H) (hq : ∀ i σ H, Pv i σ H → SqL K H a xs)
    (hs : ∀ (i : Nat) (x : V) (T : Addr) (σ : L2.St) (H : Hp), xs[i]? = some x → Pv i σ H → H T = none → g (.ref T) σ (upd H T (.tup [.int (i : Nat), x])) fun σ2 H2 => tb { D with nx := Pv (i + 1), ct := Pv (i + 1), bk := D.nx } σ2 H2) (hd : ∀ σ H, Pv xs.length σ H → D.nx σ H) :
    ∃ W : Nat → Nat → L2.St → Hp → Prop, (∃ m, W 0 m σ H) ∧ ∀ i m σ H, W i m σ H → ((Ite K a).stop i H ∧ D.nx σ H) ∨
      ((Ite K a).go i H ∧ ∃ N : L2.St → Hp → Prop, (∀ σ' H', N σ' H' → ∃ m', m' < m ∧ W (i + 1) m' σ' H') ∧ ∀ v H', (Ite K a).yld i H v H' → g v σ H' fun σ2 H2 => tb { D with nx := N, ct := N, bk := D.nx } σ2 H2) := by
  refine ⟨fun i m σ H => m + i = xs.length ∧ Pv i σ H, ⟨xs.length, rfl, h0⟩, fun i m σ H hW => ?_⟩
  obtain ⟨em, p⟩ := hW
  have q := hq i σ H p
  by_cases lt : i < xs.length
  · have ex : xs[i]? = some xs[i] := List.getElem?_eq_getElem lt
    refine .inr ⟨⟨xs, _, q, ex⟩, Pv (i + 1), fun σ' H' p' => ⟨m - 1, by omega, by omega, p'⟩, fun v H' hy => ?_⟩
    obtain ⟨T, x, rfl, nT, rfl, f⟩ := hy
    exact hs i x T σ H (f xs q) p nT
  · have ei : i = xs.length := by omega
    subst ei
    exact .inl ⟨⟨xs, q, Nat.le_refl _⟩, hd σ H p⟩

/-! ## repr of data, where no repr is under way -/
@[irreducible] def rReprD (K : PySem.W.Frag) : List V → Hp → VK → Prop := fun xs H Q => ∃ (a : Addr) (d : PyData), xs = [.ref a] ∧ Dp K H (.ref a) d ∧ d.showable = true ∧ d.hasDict = false ∧ d.depth ≤ 30 ∧ d.shown.length ≤ sizeLine ∧ Q (.str d.shown) H
theorem call_reprDK {X : Cx} {K : PySem.W.Frag} (hG : X.A.guards = some []) (hu : X.A.units + 64 < cLine) (h : X.K = K := by rfl) : CallR X (.builtin "repr") (rReprD K) := by
  subst h
  intro pins s σ H xs us Q I r h
  unfold rReprD at h
  obtain ⟨a, d, rfl, hd, hs, hn, hdp, hz, q⟩ := h
  obtain ⟨v, rfl, rv⟩ := vals1 r
  cases rv
  obtain ⟨as, rd⟩ := Dp.reads I d _ _ hd rfl
  refine repr_of_reads' rd hs (PyData.noDict_hsm hn) hG (by omega) (fun b o e => e) (fun h' t tk hk => ?_) hz
  exact ⟨.str d.shown, H, I.kept hk, ⟨_, rfl⟩, q⟩
/-! ## lists of ints as data -/
def dI (ns : List Int) : PyData := .list (ns.map .int)
theorem dpall_iv {K : PySem.W.Frag} {H : Hp} : ∀ ns : List Int, DpAll K H (iv ns) (ns.map .int)
  | [] => .nil
  | n :: r => .cons (.int n) (dpall_iv r)
theorem dp_iv {K : PySem.W.Frag} {H : Hp} {a : Addr} {ns : List Int} (h : SqL K H a (iv ns)) : Dp K H (.ref a) (dI ns) := .lst h (dpall_iv ns)
theorem can_ints : ∀ ns : List Int, PyData.canLayAll0 (ns.map .int) = true
  | [] => by simp [PyData.canLayAll0]
  | n :: r => by simp [PyData.canLayAll0, PyData.canLay0, can_ints r]
theorem dep_ints : ∀ ns : List Int, PyData.depthAll (ns.map .int) = 0
  | [] => by simp [PyData.depthAll]
  | n :: r => by simp [PyData.depthAll, PyData.depth, dep_ints r]
theorem eqv_ints : ∀ xs ys : List Int, PyData.eqvAll (xs.map .int) (ys.map .int) = decide (xs = ys)
  | [], [] => by simp [PyData.eqvAll]
  | [], _ :: _ => by simp [PyData.eqvAll]
  | _ :: _, [] => by simp [PyData.eqvAll]
  | x :: r, y :: t => by
    have ih := eqv_ints r t
    simp only [List.map_cons, PyData.eqvAll, PyData.eqv, ih, List.cons.injEq]
    by_cases e : x = y <;> by_cases e2 : r = t <;> simp [e, e2]
theorem shaped_dI (ns : List Int) : SeqAt.shaped (dI ns) = true := by
  unfold SeqAt.shaped dI
  simp only [PyData.canLay0, can_ints, PyData.depth, dep_ints]
  decide
theorem eqv_dI (xs ys : List Int) : PyData.eqv (dI xs) (dI ys) = decide (xs = ys) := by
  unfold dI
  simp only [PyData.eqv, eqv_ints]
theorem shown_ints_len : ∀ ns : List Int, (∀ n ∈ ns, n.natAbs.log2 < 1920) → ((PyData.shownAll (ns.map .int)).map (·.length)).sum ≤ 2000 * ns.length ∧ (PyData.shownAll (ns.map .int)).length = ns.length
  | [], _ => by simp [PyData.shownAll]
  | n :: r, h => by
    obtain ⟨h1, h2⟩ := shown_ints_len r fun m hm => h m (List.mem_cons_of_mem _ hm)
    have e := int_text_length_le (k := 1920) (by decide) (h n (List.mem_cons_self ..))
    have e2 : (PyData.shown (.int n)).length ≤ 2000 := by
      show (Str.ofString (toString n)).length ≤ 2000
      rw [PySem.ofString_length]
      omega
    simp only [List.map_cons, PyData.shownAll, List.sum_cons, List.length_cons]
    omega
theorem show_ints : ∀ ns : List Int, (∀ n ∈ ns, n.natAbs.log2 < 1920) → PyData.showableAll (ns.map .int) = true
  | [], _ => by simp [PyData.showableAll]
  | n :: r, h => by simp [PyData.showableAll, PyData.showable, h n (List.mem_cons_self ..), show_ints r fun m hm => h m (List.mem_cons_of_mem _ hm)]
theorem nod_ints : ∀ ns : List Int, PyData.hasDictAll (ns.map .int) = false
  | [] => by simp [PyData.hasDictAll]
  | n :: r => by simp [PyData.hasDictAll, PyData.hasDict, nod_ints r]
theorem r_eqI {K : PySem.W.Frag} {H : Hp} {a b : Addr} {xs ys : List Int} {Q : VK} (h1 : SqL K H a (iv xs)) (h2 : SqL K H b (iv ys)) (q : Q (.bl (decide (xs = ys))) H) : rEqQ K (.ref a) (.ref b) H Q :=
  rEqQ_of ⟨dI xs, dI ys, dp_iv h1, dp_iv h2, shaped_dI xs, shaped_dI ys, by rw [eqv_dI]; exact q⟩
theorem r_neI {K : PySem.W.Frag} {H : Hp} {a b : Addr} {xs ys : List Int} {Q : VK} (h1 : SqL K H a (iv xs)) (h2 : SqL K H b (iv ys)) (q : Q (.bl (!decide (xs = ys))) H) : rNeQ K (.ref a) (.ref b) H Q :=
  rNeQ_of ⟨dI xs, dI ys, dp_iv h1, dp_iv h2, shaped_dI xs, shaped_dI ys, by rw [eqv_dI]; exact q⟩
theorem r_repr {K : PySem.W.Frag} {H : Hp} {a : Addr} {ns : List Int} {Q : VK} (h1 : SqL K H a (iv ns)) (hl : ns.length ≤ 5000) (hz : ∀ n ∈ ns, n.natAbs.log2 < 1920) (q : Q (.str (dI ns).shown) H) : rReprD K [.ref a] H Q := by
  unfold rReprD
  refine ⟨a, dI ns, rfl, dp_iv h1, ?_, ?_, ?_, ?_, q⟩
  · simp only [dI, PyData.showable]
    exact show_ints ns hz
  · simp only [dI, PyData.hasDict]
    exact nod_ints ns
  · simp only [dI, PyData.depth, dep_ints]
    decide
  · obtain ⟨e1, e2⟩ := shown_ints_len ns hz
    have e3 := listText_len_le (PyData.shownAll (ns.map .int))
    simp only [dI, PyData.shown]
    rw [sizeLine_eq]
    omega
mutual
theorem dp_same {K : PySem.W.Frag} {H H' : Hp} (s : Same H H') : ∀ (d : PyData) (x : V), Dp K H x d → Dp K H' x d
  | .none, _, h => by cases h; exact .non
  | .bool _, _, h => by cases h; exact .bl _
  | .int _, _, h => by cases h; exact .int _
  | .str _, _, h => by cases h; exact .str _
  | .list ds, _, h => by
    cases h with
    | lst a b => exact .lst (s.seq a) (dpall_same s ds _ b)
  | .tuple ds, _, h => by
    cases h with
    | tup a b =>
      refine .tup ?_ (dpall_same s ds _ b)
      rcases a with (a | ⟨o, a⟩) | a
      · exact .inl (.inl (s _ _ a))
      · exact .inl (.inr ⟨o, s _ _ a⟩)
      · exact .inr a
  | .dict _, _, h => nomatch h
theorem dpall_same {K : PySem.W.Frag} {H H' : Hp} (s : Same H H') : ∀ (ds : List PyData) (xs : List V), DpAll K H xs ds → DpAll K H' xs ds
  | [], _, h => by cases h; exact .nil
  | d :: ds, _, h => by
    cases h with
    | cons a b => exact .cons (dp_same s d _ a) (dpall_same s ds _ b)
end
theorem dpall_len {K : PySem.W.Frag} {H : Hp} : ∀ (ds : List PyData) (xs : List V), DpAll K H xs ds → xs.length = ds.length
  | [], _, h => by cases h; rfl
  | d :: ds, _, h => by
    cases h with
    | cons a b => rw [List.length_cons, List.length_cons, dpall_len ds _ b]
theorem dpall_get {K : PySem.W.Frag} {H : Hp} : ∀ (ds : List PyData) (xs : List V), DpAll K H xs ds → ∀ (i : Nat) (d : PyData), ds[i]? = some d → ∃ x, xs[i]? = some x ∧ Dp K H x d
  | [], _, _, _, _, e => by simp at e
  | d :: ds, _, h, i, d', e => by
    cases h with
    | cons a b =>
      cases i with
      | zero =>
        have z : d = d' := by simpa using e
        subst z
        exact ⟨_, rfl, a⟩
      | succ i => exact dpall_get ds _ b i d' (by simpa using e)
theorem tyx_lst {K : PySem.W.Frag} {H : Hp} {a : Addr} {xs : List V} (h : SqL K H a xs) : TyX K H (.ref a) (.type "list") := by
  rcases h with (h | ⟨o, h⟩) | ⟨o, its, n, h1, h2, _⟩
  · exact .base (.lst h)
  · exact .base (.frz h)
  · exact .kList h1 h2
theorem tyx_tup {K : PySem.W.Frag} {H : Hp} {a : Addr} {xs : List V} (h : SqT K H a xs) : TyX K H (.ref a) (.type "tuple") := by
  rcases h with (h | ⟨o, h⟩) | ⟨o, its, n, h1, h2, _⟩
  · exact .base (.tup h)
  · exact .fTuple h
  · exact .kTuple h1 h2
theorem kit_no {K : PySem.W.Frag} : PySem.W.kitOne K (.type "int") (.type "bool") = some false ∧ PySem.W.kitOne K (.type "str") (.type "bool") = some false ∧ PySem.W.kitOne K (.type "list") (.type "bool") = some false ∧
    PySem.W.kitOne K (.type "bool") (.type "int") = some true ∧ PySem.W.kitOne K (.type "int") (.type "int") = some true := ⟨rfl, rfl, rfl, rfl, rfl⟩
/-! ## tests -/
theorem ifD {p A B : Prop} [Decidable p] (h1 : p → A) (h2 : ¬ p → B) : if decide p = true then A else B := by
  by_cases h : p
  · rw [decide_eq_true h]; exact iteT (h1 h)
  · rw [decide_eq_false h]; exact iteF (h2 h)
theorem ifN {p A B : Prop} [Decidable p] (h1 : ¬ p → A) (h2 : p → B) : if (!decide p) = true then A else B := by
  by_cases h : p
  · rw [decide_eq_true h]; exact iteF (h2 h)
  · rw [decide_eq_false h]; exact iteT (h1 h)
theorem ifI {i j : Int} {A B : Prop} (h1 : i = j → A) (h2 : i ≠ j → B) : if decide (V.int i = V.int j) = true then A else B :=
  ifD (fun e => h1 (V.int.inj e)) fun e => h2 fun z => e (congrArg V.int z)
theorem ifIN {i j : Int} {A B : Prop} (h1 : i ≠ j → A) (h2 : i = j → B) : if (!decide (V.int i = V.int j)) = true then A else B :=
  ifN (fun e => h1 fun z => e (congrArg V.int z)) fun e => h2 (V.int.inj e)
/-! ## defs that may ask for repr: called where no repr is under way -/
structure FnG (P : Program) (w : World) (K : PySem.W.Frag) (mg : Str → Option Value) (base : Heap) (CX : CXT) (k : Nat) (f : Addr) (fd : FuncData) (ps : List Str) (sp : Sp) : Prop where
  len : ∀ vs H Q E, sp vs H Q E → vs.length = ps.length
  run : ∀ (A : Around) (outer : List Env) (s : Shared) (H : Hp) (args : Args) (us : List Value) (vs : List V) (Q : VK) (E : XK), Room k A → A.guards = some [] →
    Env0 P w K mg base A outer s H → BindsTo s fd args (ps.zip us) → Vals vs us → sp vs H Q E → codeAny (model P w) A (.call (.ref f) args) (CR CX outer P w H s Q E) s
section
variable {P : Program} {w : World} {K : PySem.W.Frag} {mg : Str → Option Value} {base : Heap} {CX : CXT}
theorem FnG.of {k : Nat} {f : Addr} {fd : FuncData} {ps : List Str} {sp : Sp} (F : FnOk P w K mg base CX k f fd ps sp) : FnG P w K mg base CX k f fd ps sp :=
  ⟨F.len, fun A outer s H args us vs Q E hr _ => F.run A outer s H args us vs Q E hr⟩
theorem fnG_of {k : Nat} {f : Addr} {nm qual : Str} {pms : Arguments} {body : List Stmt} {sc : Scope} {dV kV dc pm cdv ct oc : Value} {an od : Option Addr} {sl : Array (Option Value)} {N ps : List Str} {sp : Sp}
    (lk : K.lookup f = some ⟨oc, od, .func (PySem.W.fnOf nm qual pms body sc dV kV dc pm an cdv ct), sl⟩) (hcd : PySem.W.codeIn K cdv qual = true) (S : FnScope N ps sc) (len : ∀ vs H Q E, sp vs H Q E → vs.length = ps.length)
    (hb : ∀ (A : Around) (outer : List Env) (s : Shared) (H : Hp) (vs : List V) (Q : VK) (E : XK), A.guards = some [] → Room k (A.deeper (envOfC qual sc s.heap.objs.size f cdv)) → sp vs H Q E →
      ∃ t, PSs (cxOf CX P w K mg base N qual sc f cdv A outer s H E) body t ∧ t { nx := fun _ H' => Q .non H', rt := Q } (start N vs) H) :
    FnG P w K mg base CX (k + 1) f (PySem.W.fnOf nm qual pms body sc dV kV dc pm an cdv ct) ps sp := by
  refine ⟨len, ?_⟩
  intro A out s H args us vs Q E room hG env bnd rel pre
  have ln := len _ _ _ _ pre
  have kin : K.In s.heap := env.mod.kin.keeps fun b o e => (env.bs b o e).1
  have nl : s.heap.NoLimit := env.mod.nolimit.keeps fun b o e => (env.bs b o e).1
  have kinds : ∀ y ∈ ps.zip us, sc.names.lookup y.1 = some .local ∨ (sc.names.lookup y.1 = some .cell ∧ ((cellsFrom (s.heap.objs.size + 1) sc.names []).lookup y.1).isSome = true) := by
    rintro ⟨x, v⟩ hy
    rcases S.par x (List.of_mem_zip hy).1 with z | z
    · exact .inl z
    · exact .inr ⟨z, PySem.W.cellsFrom_some _ _ _ (.inl z)⟩
  refine codeAny_call_function room.depth (kin _ _ lk) rfl S.co S.gen rfl (PySem.W.codeRec_of kin hcd) (bnd _ _ _ _ ?_)
  refine wpAny_newFunctionEnv_cells S.kind kinds fun en hen s1 x1 => ?_
  cases hen
  refine ⟨nl.keeps x1.toInCall.keep, codeAny_func ?_⟩
  obtain ⟨t, ht, hq⟩ := hb A out s H vs Q E hG (room.deeper _) pre
  have J0 : Inv (cxOf CX P w K mg base N qual sc f cdv A out s H E) [] (start N vs) H s1 := inv_start S room.hd env ln rel x1
  refine wpAny_mono (ht.run [] s1 (start N vs) H _ J0 hq) (fun fl s2 hs => ?_) fun e s2 hs => hs
  cases fl with
  | ret u =>
    obtain ⟨v, τ, H2, J, rv, q⟩ := hs
    exact ⟨v, H2, J.os, J.bare, J.base, J.hok, rv, q⟩
  | next =>
    obtain ⟨τ, H2, J, q⟩ := hs
    exact ⟨V.non, H2, J.os, J.bare, J.base, J.hok, rfl, q⟩
  | brk =>
    obtain ⟨_, _, _, q⟩ := hs
    cases q
  | cont =>
    obtain ⟨_, _, _, q⟩ := hs
    cases q
end
/-! ## a def of the text: where it stands; its promise -/
structure DefAt (K : PySem.W.Frag) (mg : Str → Option Value) (x : Str) (st : Stmt) (ps : List Str) : Prop where
  ex : ∃ (f : Addr) (fd : FuncData), Fun K x x st f fd ∧ mg x = some (.ref f) ∧ Binds K fd ps []
/-- a def that may be called by its name; dvs: the defaults that fill up -/
structure Cal (P : Program) (w : World) (K : PySem.W.Frag) (mg : Str → Option Value) (base : Heap) (k : Nat) (x : Str) (sp : Sp) (dvs : List V) : Prop where
  ex : ∃ (f : Addr) (fd : FuncData) (ps : List Str) (ds : List Value), FnOk P w K mg base CX0 k f fd ps sp ∧ mg x = some (.ref f) ∧ PySem.W.keepIn K (.ref f) = true ∧ L2.Binds K fd ps ds ∧ Vals dvs ds
/-- a def that may be called by its name; it may ask for repr -/
structure CalG (P : Program) (w : World) (K : PySem.W.Frag) (mg : Str → Option Value) (base : Heap) (k : Nat) (x : Str) (sp : Sp) : Prop where
  ex : ∃ (f : Addr) (fd : FuncData) (ps : List Str), FnG P w K mg base CX0 k f fd ps sp ∧ mg x = some (.ref f) ∧ PySem.W.keepIn K (.ref f) = true ∧ Binds K fd ps []
section
variable {P : Program} {w : World} {K : PySem.W.Frag} {mg : Str → Option Value} {base : Heap}
theorem DefAt.cal {x : Str} {st : Stmt} {ps N : List Str} {k : Nat} {sp : Sp} (D : DefAt K mg x st ps) (S : FnScope N ps (defScope st)) (len : ∀ vs H Q E, sp vs H Q E → vs.length = ps.length)
    (hb : ∀ (f : Addr) (cdv : Value) (A : Around) (outer : List Env) (s : Shared) (H : Hp) (vs : List V) (Q : VK) (E : XK), Room k (A.deeper (envOfC x (defScope st) s.heap.objs.size f cdv)) → sp vs H Q E →
      ∃ t, PSs (cxOf CX0 P w K mg base N x (defScope st) f cdv A outer s H E).nox (defBody st) t ∧ t { nx := fun _ H' => Q .non H', rt := Q } (start N vs) H) : Cal P w K mg base (k + 1) x sp [] := by
  obtain ⟨f, fd, F, hm, b⟩ := D.ex
  exact ⟨f, fd, ps, [], F.ok S len fun cdv A outer s H vs Q E => hb f cdv A outer s H vs Q E, hm, F.kp, b, .nil⟩
theorem DefAt.calG {x : Str} {st : Stmt} {ps N : List Str} {k : Nat} {sp : Sp} (D : DefAt K mg x st ps) (S : FnScope N ps (defScope st)) (len : ∀ vs H Q E, sp vs H Q E → vs.length = ps.length)
    (hb : ∀ (f : Addr) (cdv : Value) (A : Around) (outer : List Env) (s : Shared) (H : Hp) (vs : List V) (Q : VK) (E : XK), A.guards = some [] → Room k (A.deeper (envOfC x (defScope st) s.heap.objs.size f cdv)) → sp vs H Q E →
      ∃ t, PSs (cxOf CX0 P w K mg base N x (defScope st) f cdv A outer s H E).nox (defBody st) t ∧ t { nx := fun _ H' => Q .non H', rt := Q } (start N vs) H) : CalG P w K mg base (k + 1) x sp := by
  obtain ⟨f, fd, ⟨⟨oc, od, kV, doc, pm, an, cdv, ct, osl, rfl, lk, hcd⟩, kp⟩, hm, b⟩ := D.ex
  refine ⟨f, _, ps, fnG_of lk hcd S len fun A outer s H vs Q E hG hr hsp => ?_, hm, kp, b⟩
  obtain ⟨t, h, q⟩ := hb f cdv A outer s H vs Q E hG hr hsp
  exact ⟨t, h.nox, q⟩
theorem okG {x qual : Str} {st : Stmt} {f : Addr} {fd : FuncData} {N ps : List Str} {k : Nat} {sp : Sp} (F : Fun K x qual st f fd) (S : FnScope N ps (defScope st)) (len : ∀ vs H Q E, sp vs H Q E → vs.length = ps.length)
    (hb : ∀ (cdv : Value) (A : Around) (outer : List Env) (s : Shared) (H : Hp) (vs : List V) (Q : VK) (E : XK), A.guards = some [] → Room k (A.deeper (envOfC qual (defScope st) s.heap.objs.size f cdv)) → sp vs H Q E →
      ∃ t, PSs (cxOf CX0 P w K mg base N qual (defScope st) f cdv A outer s H E).nox (defBody st) t ∧ t { nx := fun _ H' => Q .non H', rt := Q } (start N vs) H) : FnG P w K mg base CX0 (k + 1) f fd ps sp := by
  obtain ⟨⟨oc, od, kV, doc, pm, an, cdv, ct, osl, rfl, lk, hcd⟩, kp⟩ := F
  refine fnG_of lk hcd S len fun A outer s H vs Q E hG hr hsp => ?_
  obtain ⟨t, h, q⟩ := hb cdv A outer s H vs Q E hG hr hsp
  exact ⟨t, h.nox, q⟩
theorem calG_of {x : Str} {k : Nat} {sp : Sp} (c : Cal P w K mg base k x sp []) : CalG P w K mg base k x sp := by
  obtain ⟨f, fd, ps, ds, F, hm, kp, b, d⟩ := c.ex
  cases d
  exact ⟨f, fd, ps, FnG.of F, hm, kp, b⟩
theorem Cal.imp {x : Str} {k j : Nat} {sp sp' : Sp} {dvs : List V} (c : Cal P w K mg base k x sp dvs) (hk : k ≤ j) (h : ∀ vs H Q E, sp' vs H Q E → sp vs H Q E) : Cal P w K mg base j x sp' dvs := by
  obtain ⟨f, fd, ps, ds, F, hm, kp, b, d⟩ := c.ex
  exact ⟨f, fd, ps, ds, (F.mono hk).imp h, hm, kp, b, d⟩
end
section
variable {X : Cx} {k j : Nat} {x : Str} {sp : Sp} {p pos : Pos} {e : Expr} {es : List Expr} {t : TA}
theorem pe_c {dvs : List V} (c : Cal X.prog X.w X.K X.mg X.base k x sp dvs) (hr : Room j X.A) (hk : k ≤ j) (hg : Gl X x) (ha : PA X (e :: es) t)
    (hdb : (x == ("__debug__" : Str)) = false := by decide) (he : starEach (e :: es) X.env = (false, eval e X.env) :: starEach es X.env := by rfl) (hpl : (backTo pos (starEach es X.env)).any (·.1) = false := by rfl) :
    PE X (.Call (.Name x p) (e :: es) [] pos) (tCall sp dvs E0 t) := by
  obtain ⟨f, fd, ps, ds, F, hm, kp, bd, vd⟩ := c.ex
  exact L2.pe_call F (hr.mono hk) hg hm kp bd vd pass0 ha hdb he hpl
/-- a call of a def that may ask for repr -/
theorem pe_cG (c : CalG X.prog X.w X.K X.mg X.base k x sp) (hG : X.A.guards = some []) (hr : Room j X.A) (hk : k ≤ j) (hg : Gl X x) (ha : PA X (e :: es) t)
    (hdb : (x == ("__debug__" : Str)) = false := by decide) (he : starEach (e :: es) X.env = (false, eval e X.env) :: starEach es X.env := by rfl) (hpl : (backTo pos (starEach es X.env)).any (·.1) = false := by rfl) :
    PE X (.Call (.Name x p) (e :: es) [] pos) (tCall sp [] E0 t) := by
  obtain ⟨f, fd, ps, F, hm, kp, b⟩ := c.ex
  refine ⟨fun pins s σ H Q I h => wpAny_Call_Name_kw (ld_glob I hg hm ?_ hdb)⟩
  refine PySem.W.callWith_K (h₀ := X.base) I.ok.mod.kin kp (thn (ha.run pos pins s σ H _ I h) fun us s1 hx => ?_) he hpl
  obtain ⟨vs, H1, I1, r, q⟩ := hx
  rw [List.append_nil] at q
  have ln : us.length = ps.length := by rw [← r.length]; exact F.len _ _ _ _ q
  have bb : BindsTo s1 fd ⟨us, []⟩ (ps.zip us) := by
    have z := b s1 us I1.kIn (by rw [List.append_nil]; exact ln)
    rw [List.append_nil] at z
    exact z
  refine ⟨I1.kIn, wpAny_call (codeAny_mono (F.run X.A X.stack s1 H1 ⟨us, []⟩ us vs Q E0 (hr.mono hk) hG I1.env0 bb r q) fun r s' hq => ?_)⟩
  cases r with
  | error e => exact False.elim hq
  | ok fl =>
    cases fl with
    | ret u => exact I1.after hq
    | next => exact False.elim hq
    | brk => exact False.elim hq
    | cont => exact False.elim hq
end
/-! ## methods, properties, new objects -/
structure Met (P : Program) (w : World) (K : PySem.W.Frag) (mg : Str → Option Value) (base : Heap) (k : Nat) (C : Addr) (m : Str) (sp : Sp) : Prop where
  ex : ∃ (f : Addr) (fd : FuncData) (ps : List Str), Cls K C ∧ Meth K C m f ∧ FnOk P w K mg base CX0 k f fd ps sp ∧ L2.Binds K fd ps []
structure Prp (P : Program) (w : World) (K : PySem.W.Frag) (mg : Str → Option Value) (base : Heap) (k : Nat) (C : Addr) (m : Str) (sp : Sp) : Prop where
  ex : ∃ (f p : Addr) (fd : FuncData) (ps : List Str), Cls K C ∧ PropOf K C m p f ∧ FnOk P w K mg base CX0 k f fd ps sp ∧ L2.Binds K fd ps []
structure Mak (P : Program) (w : World) (K : PySem.W.Frag) (mg : Str → Option Value) (base : Heap) (k : Nat) (x : Str) (C : Addr) (sp : Sp) : Prop where
  ex : ∃ (f : Addr) (fd : FuncData) (ps : List Str), Mk K C f ∧ FnOk P w K mg base CX0 k f fd ps sp ∧ mg x = some (.ref C) ∧ L2.Binds K fd ps []
section
variable {X : Cx} {k j : Nat} {C : Addr} {x m : Str} {sp : Sp} {p pos apos : Pos} {e o : Expr} {es : List Expr} {ta : TE} {t : TA}
theorem pe_m {pl : Sem Bool} (c : Met X.prog X.w X.K X.mg X.base k C m sp) (hr : Room j X.A) (hk : k ≤ j) (he : PE X o ta) (ha : PA X (e :: es) t)
    (ht : eval (.Call (.Attribute o m apos) (e :: es) [] pos) X.env = (do
      let ov ← eval o X.env
      standAt apos.atName
      let (f, first) ← holding [ov] (getMethod ov m pl)
      callWith pos f first (backTo pos (starEach (e :: es) X.env)) (backToKw pos (keywordEach [] X.env))) := by rfl)
    (hst : starEach (e :: es) X.env = (false, eval e X.env) :: starEach es X.env := by rfl) (hpl : (backTo pos (starEach es X.env)).any (·.1) = false := by rfl) : PE X (.Call (.Attribute o m apos) (e :: es) [] pos) (tMeth C m sp [] E0 ta t) := by
  obtain ⟨f, fd, ps, c1, c2, F, b⟩ := c.ex
  exact L2.pe_meth (pl := pl) he c1 c2 F (hr.mono hk) b .nil pass0 ha hst hpl ht
theorem pe_mk (c : Mak X.prog X.w X.K X.mg X.base k x C sp) (hr : Room j X.A) (hk : k + 1 ≤ j) (hg : Gl X x) (ha : PA X (e :: es) t)
    (hdb : (x == ("__debug__" : Str)) = false := by decide) (he : starEach (e :: es) X.env = (false, eval e X.env) :: starEach es X.env := by rfl) (hpl : (backTo pos (starEach es X.env)).any (·.1) = false := by rfl) :
    PE X (.Call (.Name x p) (e :: es) [] pos) (tMake C sp [] E0 t) := by
  obtain ⟨f, fd, ps, M, F, hm, b⟩ := c.ex
  exact L2.pe_make M F (hr.mono hk) hg hm b .nil pass0 ha hdb he hpl
theorem pe_p (c : Prp X.prog X.w X.K X.mg X.base k C m sp) (hr : Room j X.A) (hk : k + 1 ≤ j) (he : PE X e ta) (hab : attributeBase e m X.env (eval e X.env) = eval e X.env := by rfl) : PE X (.Attribute e m pos) (tProp C sp [] E0 ta) := by
  obtain ⟨f, q, fd, ps, c1, c2, F, b⟩ := c.ex
  exact L2.pe_prop he c1 c2 F (hr.mono hk) b .nil pass0 hab
end
section
variable {X : Cx} {K : PySem.W.Frag} {C : Addr} {k j : Nat} {m f : Str} {sp : Sp} {ta tv : TE} {o value : Expr} {pos pos' apos tpos : Pos}
theorem pe_m0 {pl : Sem Bool} (c : Met X.prog X.w X.K X.mg X.base k C m sp) (hr : Room j X.A) (hk : k ≤ j) (he : PE X o ta)
    (ht : eval (.Call (.Attribute o m apos) [] [] pos) X.env = (do
      let ov ← eval o X.env
      standAt apos.atName
      let (f, first) ← holding [ov] (getMethod ov m pl)
      callWith pos f first (backTo pos (starEach [] X.env)) (backToKw pos (keywordEach [] X.env))) := by rfl) : PE X (.Call (.Attribute o m apos) [] [] pos) (tMeth C m sp [] E0 ta tNil) := by
  obtain ⟨f, fd, ps, c1, c2, F, b⟩ := c.ex
  exact L2.pe_meth0 (pl := pl) he c1 c2 F (hr.mono hk) b .nil pass0 ht
theorem ps_fldK (ha : PE X o ta) (hv : PE X value tv) (hs : swapsWith value (some (.Attribute o f pos')) pos.line X.env = pure false) (h : X.K = K := by rfl) : PS X (.Assign [.Attribute o f pos'] value pos) (sFld K ta tv f) := by
  subst h
  exact ps_fld ha hv hs
theorem ps_fldaugK {op : Operator} {rd : V → V → Hp → VK → Prop} (ha : PE X o ta) (hv : PE X value tv) (hop : InOp X op rd) (h : X.K = K := by rfl) : PS X (.AugAssign (.Attribute o f tpos) op value pos) (sFldAug K ta tv rd f) := by
  subst h
  exact ps_fldaug ha hv hop
end
/-- a method of the text -/
structure MetAt (K : PySem.W.Frag) (C : Addr) (m qual : Str) (st : Stmt) (ps : List Str) : Prop where
  ex : ∃ (f : Addr) (fd : FuncData), Fun K m qual st f fd ∧ Meth K C m f ∧ L2.Binds K fd ps []
section
variable {P : Program} {w : World} {K : PySem.W.Frag} {mg : Str → Option Value} {base : Heap} {C : Addr} {m x qual : Str} {st : Stmt} {ps N : List Str} {k : Nat} {sp : Sp}
theorem MetAt.met (D : MetAt K C m qual st ps) (cl : Cls K C) (S : FnScope N ps (defScope st)) (len : ∀ vs H Q E, sp vs H Q E → vs.length = ps.length)
    (hb : ∀ (f : Addr) (cdv : Value) (A : Around) (outer : List Env) (s : Shared) (H : Hp) (vs : List V) (Q : VK) (E : XK), Room k (A.deeper (envOfC qual (defScope st) s.heap.objs.size f cdv)) → sp vs H Q E →
      ∃ t, PSs (cxOf CX0 P w K mg base N qual (defScope st) f cdv A outer s H E).nox (defBody st) t ∧ t { nx := fun _ H' => Q .non H', rt := Q } (start N vs) H) : Met P w K mg base (k + 1) C m sp := by
  obtain ⟨f, fd, F, hm, b⟩ := D.ex
  exact ⟨f, fd, ps, cl, hm, F.ok S len fun cdv A outer s H vs Q E => hb f cdv A outer s H vs Q E, b⟩
end
/-- a class's __init__ of the text -/
structure IniAt (K : PySem.W.Frag) (mg : Str → Option Value) (C : Addr) (x qual : Str) (st : Stmt) (ps : List Str) : Prop where
  ex : ∃ (f : Addr) (fd : FuncData), Fun K "__init__" qual st f fd ∧ Mk K C f ∧ mg x = some (.ref C) ∧ L2.Binds K fd ps []
/-- a property of the text -/
structure PrpAt (K : PySem.W.Frag) (C : Addr) (m qual : Str) (st : Stmt) (ps : List Str) : Prop where
  ex : ∃ (f p : Addr) (fd : FuncData), Fun K m qual st f fd ∧ PropOf K C m p f ∧ L2.Binds K fd ps []
section
variable {P : Program} {w : World} {K : PySem.W.Frag} {mg : Str → Option Value} {base : Heap} {C : Addr} {m x qual : Str} {st : Stmt} {ps N : List Str} {k : Nat} {sp : Sp}
theorem IniAt.mak (D : IniAt K mg C x qual st ps) (S : FnScope N ps (defScope st)) (len : ∀ vs H Q E, sp vs H Q E → vs.length = ps.length)
    (hb : ∀ (f : Addr) (cdv : Value) (A : Around) (outer : List Env) (s : Shared) (H : Hp) (vs : List V) (Q : VK) (E : XK), Room k (A.deeper (envOfC qual (defScope st) s.heap.objs.size f cdv)) → sp vs H Q E →
      ∃ t, PSs (cxOf CX0 P w K mg base N qual (defScope st) f cdv A outer s H E).nox (defBody st) t ∧ t { nx := fun _ H' => Q .non H', rt := Q } (start N vs) H) : Mak P w K mg base (k + 1) x C sp := by
  obtain ⟨f, fd, F, hm, hg, b⟩ := D.ex
  exact ⟨f, fd, ps, hm, F.ok S len fun cdv A outer s H vs Q E => hb f cdv A outer s H vs Q E, hg, b⟩
theorem PrpAt.prp (D : PrpAt K C m qual st ps) (cl : Cls K C) (S : FnScope N ps (defScope st)) (len : ∀ vs H Q E, sp vs H Q E → vs.length = ps.length)
    (hb : ∀ (f : Addr) (cdv : Value) (A : Around) (outer : List Env) (s : Shared) (H : Hp) (vs : List V) (Q : VK) (E : XK), Room k (A.deeper (envOfC qual (defScope st) s.heap.objs.size f cdv)) → sp vs H Q E →
      ∃ t, PSs (cxOf CX0 P w K mg base N qual (defScope st) f cdv A outer s H E).nox (defBody st) t ∧ t { nx := fun _ H' => Q .non H', rt := Q } (start N vs) H) : Prp P w K mg base (k + 1) C m sp := by
  obtain ⟨f, p, fd, F, hm, b⟩ := D.ex
  exact ⟨f, p, fd, ps, cl, hm, F.ok S len fun cdv A outer s H vs Q E => hb f cdv A outer s H vs Q E, b⟩
end
/-- all but o stands -/
def But (o : Addr) (H H' : Hp) : Prop := ∀ b u, b ≠ o → H b = some u → H' b = some u
theorem But.refl (o : Addr) (H : Hp) : But o H H := fun _ _ _ h => h
theorem But.trans {o : Addr} {H H1 H2 : Hp} (a : But o H H1) (b : But o H1 H2) : But o H H2 := fun c u n h => b c u n (a c u n h)
theorem But.of {o : Addr} {H H1 : Hp} (s : Same H H1) : But o H H1 := fun b u _ h => s b u h
theorem But.put {o : Addr} {H : Hp} {u : HO} : But o H (upd H o u) := fun b x n h => by
  rw [upd_ne n]
  exact h
theorem But.seq {K : PySem.W.Frag} {o a : Addr} {H H' : Hp} {xs : List V} (b : But o H H') (n : a ≠ o) (h : H a = some (.lst xs)) : SqL K H' a xs := seqL_of (b a _ n h)
theorem Sep.but {R : Rg} {G H H' : Hp} {o : Addr} {u u' : HO} (s : Sep R G H) (h : G o = some u) (b : But o H H') (e : H' o = some u') : Sep R (upd G o u') H' := by
  have no : ∀ a, R.S a → a ≠ o := fun a ha z => by
    have q := s.off a ha
    rw [z, h] at q
    cases q
  refine ⟨R.loc H _ (fun a ha => ?_) s.inv, fun c x q => ?_, fun a ha => by rw [upd_ne (no a ha)]; exact s.off a ha⟩
  · cases q : H a with
    | none => exact absurd q (R.has H a s.inv ha)
    | some z => exact b a z (no a ha) q
  · by_cases hc : c = o
    · rw [hc, upd_same] at q
      rw [hc, e]
      exact q
    · rw [upd_ne hc] at q
      exact b c x hc (s.same c x q)

theorem Sep.add {R : Rg} {G0 H0 G H : Hp} {l : Addr} {u : HO} (s0 : Sep R G0 H0) (n : H0 l = none) (s : Sep R G H) (e : H l = some u) : Sep R (upd G l u) H := by
  have nl : ∀ a, R.S a → a ≠ l := fun a ha z => R.has H0 a s0.inv ha (by rw [z]; exact n)
  refine ⟨s.inv, fun b x q => ?_, fun a ha => by rw [upd_ne (nl a ha)]; exact s.off a ha⟩
  by_cases hb : b = l
  · rw [hb, upd_same] at q
    rw [hb, e]
    exact q
  · rw [upd_ne hb] at q
    exact s.same b x q

/-! ## calls by keywords alone -/
/-- a def called with the keywords ks alone: sp speaks of their values -/
structure CalK (P : Program) (w : World) (K : PySem.W.Frag) (mg : Str → Option Value) (base : Heap) (k : Nat) (x : Str) (ks : List Str) (sp : Sp) : Prop where
  ex : ∃ (f : Addr) (fd : FuncData) (ps : List Str) (spf : Sp) (g : List Value → List Value → List Value) (gV : List V → List V → List V),
    FnOk P w K mg base CX0 k f fd ps spf ∧ mg x = some (.ref f) ∧ PySem.W.keepIn K (.ref f) = true ∧ KBn K fd ps 0 ks g gV ∧ ∀ zs H Q E, sp zs H Q E → zs.length = ks.length ∧ spf (gV [] zs) H Q E
def tCk (sp : Sp) (tk : TA) : TE := fun σ H Q => tk σ H fun zs H1 => sp zs H1 Q E0
section
variable {X : Cx} {k j : Nat} {x : Str} {ks : List Str} {sp : Sp} {p pos : Pos} {kws : List Keyword} {tk : TA}
theorem pe_ck (c : CalK X.prog X.w X.K X.mg X.base k x ks sp) (hr : Room j X.A) (hk : k ≤ j) (hg : Gl X x) (hkw : PK X kws tk)
    (hall : (backToKw pos (keywordEach kws X.env)).all (·.1.isSome) = true := by rfl) (hks : (backToKw pos (keywordEach kws X.env)).filterMap (·.1) = ks := by rfl) (hdb : (x == ("__debug__" : Str)) = false := by decide)
    (hpl : ((backTo pos (starEach [] X.env)).any (·.1) || (backToKw pos (keywordEach kws X.env)).any (·.1.isNone)) = false := by rfl) : PE X (.Call (.Name x p) [] kws pos) (tCk sp tk) := by
  obtain ⟨f, fd, ps, spf, g, gV, F, hm, kp, hb, hs⟩ := c.ex
  refine ⟨fun pins s σ H Q I h => wpAny_Call_Name_kw (ld_glob I hg hm ?_ hdb)⟩
  refine PySem.W.callWith_KW0 (h₀ := X.base) I.ok.mod.kin kp hall (thn (hkw.run pos pins s σ H _ I h) fun ws s1 hx => ?_) hpl
  obtain ⟨zs, H1, I1, rz, q⟩ := hx
  obtain ⟨lz, q⟩ := hs _ _ _ _ q
  refine ⟨I1.kIn, ?_⟩
  rw [hks]
  exact run_fnN F (hr.mono hk) hb pass0 I1 .nil rz rfl lz q
end

/-! ## a def with defaults, called by place or by keywords -/
section
variable {P : Program} {w : World} {K : PySem.W.Frag} {mg : Str → Option Value} {base : Heap} {x qual : Str} {pms : Arguments} {body : List Stmt} {sc : Scope} {dvs : List V} {f : Addr} {fd : FuncData} {ps ks : List Str}
/-- all parameters by keywords; g brings the values in the parameters' order -/
theorem kbn_dflt (F : FunD K x qual pms body sc dvs [] f fd) (hd : dvs ≠ []) (g : {α : Type} → List α → List α) (hg : ∀ {vs : List V} {us : List Value}, Vals vs us → Vals (g vs) (g us))
    (h : ∀ (T : Addr) (kV doc pm : Value) (an : Option Addr) (cdv ct : Value) (ws its : List Value), ws.length = ks.length → its.length = dvs.length →
      ∃ k, bindArgs (PySem.W.fnOf x qual pms body sc (.ref T) kV doc pm an cdv ct) ⟨[], ks.zip ws⟩ = seqItems? (.ref T) >>= k ∧ k (some its.toArray) = pure (ps.zip (g ws))) : KBn K fd ps 0 ks (fun _ ws => g ws) (fun _ zs => g zs) := by
  obtain ⟨oc, od, dV, kV, doc, pm, an, cdv, ct, osl, rfl, lk, hcd, hD, hK⟩ := F.ex
  rcases hD with ⟨e, _⟩ | ⟨_, T, o, its, m, rfl, lT, oT, rT⟩
  · exact absurd e hd
  · refine ⟨fun s us ws X l1 l2 => ?_, fun r1 r2 => hg r2⟩
    cases us with
    | cons u us => cases l1
    | nil =>
      obtain ⟨k, e1, e2⟩ := h T kV doc pm an cdv ct ws its l2 rT.length.symm
      refine BindsTo.of_looks fun M => ?_
      rw [e1]
      exact looks_items X lT oT (.of_pure e2)
/-- .. of a def without defaults -/
theorem kbn_plain {st : Stmt} (F : Fun K x qual st f fd) (g : {α : Type} → List α → List α) (hg : ∀ {vs : List V} {us : List Value}, Vals vs us → Vals (g vs) (g us))
    (h : ∀ (kV doc pm : Value) (an : Option Addr) (cdv ct : Value) (ws : List Value), ws.length = ks.length →
      bindArgs (PySem.W.fnOf x qual (defArgs st) (defBody st) (defScope st) .none kV doc pm an cdv ct) ⟨[], ks.zip ws⟩ = pure (ps.zip (g ws))) : KBn K fd ps 0 ks (fun _ ws => g ws) (fun _ zs => g zs) := by
  obtain ⟨oc, od, kV, doc, pm, an, cdv, ct, osl, rfl, lk, hcd⟩ := F.ex
  refine ⟨fun s us ws X l1 l2 => ?_, fun r1 r2 => hg r2⟩
  cases us with
  | cons u us => cases l1
  | nil => exact .of_eq (h kV doc pm an cdv ct ws l2)
theorem calK_mk {k : Nat} {spf sp : Sp} {g : List Value → List Value → List Value} {gV : List V → List V → List V} (F : FnOk P w K mg base CX0 k f fd ps spf) (hm : mg x = some (.ref f)) (kp : PySem.W.keepIn K (.ref f) = true) (b : KBn K fd ps 0 ks g gV)
    (h : ∀ zs H Q E, sp zs H Q E → zs.length = ks.length ∧ spf (gV [] zs) H Q E) : CalK P w K mg base k x ks sp := ⟨f, fd, ps, spf, g, gV, F, hm, kp, b, h⟩
end
/-- a def without defaults that is called by place and by keywords -/
structure Def2 (P : Program) (w : World) (K : PySem.W.Frag) (mg : Str → Option Value) (base : Heap) (k : Nat) (x : Str) (st : Stmt) (ps : List Str) (sp : Sp) : Prop where
  ex : ∃ (f : Addr) (fd : FuncData), Fun K x x st f fd ∧ mg x = some (.ref f) ∧ Binds K fd ps [] ∧ FnOk P w K mg base CX0 k f fd ps sp
section
variable {P : Program} {w : World} {K : PySem.W.Frag} {mg : Str → Option Value} {base : Heap} {x : Str} {st : Stmt} {ps ks N : List Str} {k : Nat} {sp sp' : Sp}
theorem DefAt.two (D : DefAt K mg x st ps) (S : FnScope N ps (defScope st)) (len : ∀ vs H Q E, sp vs H Q E → vs.length = ps.length)
    (hb : ∀ (f : Addr) (cdv : Value) (A : Around) (outer : List Env) (s : Shared) (H : Hp) (vs : List V) (Q : VK) (E : XK), Room k (A.deeper (envOfC x (defScope st) s.heap.objs.size f cdv)) → sp vs H Q E →
      ∃ t, PSs (cxOf CX0 P w K mg base N x (defScope st) f cdv A outer s H E).nox (defBody st) t ∧ t { nx := fun _ H' => Q .non H', rt := Q } (start N vs) H) : Def2 P w K mg base (k + 1) x st ps sp := by
  obtain ⟨f, fd, F, hm, b⟩ := D.ex
  exact ⟨f, fd, F, hm, b, F.ok S len fun cdv A outer s H vs Q E => hb f cdv A outer s H vs Q E⟩
theorem Def2.cal (D : Def2 P w K mg base k x st ps sp) : Cal P w K mg base k x sp [] := by
  obtain ⟨f, fd, F, hm, b, ok⟩ := D.ex
  exact ⟨f, fd, ps, [], ok, hm, F.kp, b, .nil⟩
theorem Def2.calK (D : Def2 P w K mg base k x st ps sp) (g : {α : Type} → List α → List α) (hg : ∀ {vs : List V} {us : List Value}, Vals vs us → Vals (g vs) (g us))
    (h : ∀ (kV doc pm : Value) (an : Option Addr) (cdv ct : Value) (ws : List Value), ws.length = ks.length →
      bindArgs (PySem.W.fnOf x x (defArgs st) (defBody st) (defScope st) .none kV doc pm an cdv ct) ⟨[], ks.zip ws⟩ = pure (ps.zip (g ws))) (hs : ∀ zs H Q E, sp' zs H Q E → zs.length = ks.length ∧ sp (g zs) H Q E) : CalK P w K mg base k x ks sp' := by
  obtain ⟨f, fd, F, hm, b, ok⟩ := D.ex
  exact calK_mk ok hm F.kp (kbn_plain F g hg h) hs
end
theorem perm_sorted_eq : ∀ {xs ys : List Int}, xs.Perm ys → xs.Pairwise (· ≤ ·) → ys.Pairwise (· ≤ ·) → xs = ys
  | [], ys, p, _, _ => (List.nil_perm.mp p).symm
  | x :: r, [], p, _, _ => absurd (List.perm_nil.mp p) (by simp)
  | x :: r, y :: t, p, h1, h2 => by
    have a1 := (List.pairwise_cons.mp h1).1
    have a2 := (List.pairwise_cons.mp h2).1
    have m1 : x ∈ y :: t := p.mem_iff.mp (List.mem_cons_self ..)
    have m2 : y ∈ x :: r := p.mem_iff.mpr (List.mem_cons_self ..)
    have e : x = y := by
      rcases List.mem_cons.mp m1 with z | z
      · exact z
      · rcases List.mem_cons.mp m2 with z2 | z2
        · exact z2.symm
        · have := a1 y z2
          have := a2 x z
          omega
    subst e
    rw [perm_sorted_eq (List.Perm.cons_inv p) (List.pairwise_cons.mp h1).2 (List.pairwise_cons.mp h2).2]

/-! ## a law's end, of a law that may ask for repr -/
theorem law_endG {P : Program} {w : World} {K : PySem.W.Frag} {mg mb : Str → Option Value} {k : Nat} {fa a : Addr} {fd : FuncData} {x : Str} {sp : Sp} {s₁ : Shared} {vs : List Value} {ns : List Int}
    (KX : K.In s₁.heap) (hns : s₁.heap.Ns mainGlobals mg) (hb : s₁.heap.Ns builtinsNs mb) (hbb : ∀ x : Str, x ≠ "__name__" → mb x = bootBuiltins x) (hlim : s₁.heap.NoLimit) (hg : s₁.gens = #[])
    (ha : s₁.heap.get? a = some { cls := .type "list", data := .seq vs.toArray }) (hi : IntsAre vs ns) (hl : ns.length ≤ sizeLine) (hr : Room k callerA)
    (F : ∀ base : Heap, K.In base → base.Ns mainGlobals mg → FnG P w K mg base CX0 k fa fd [x] sp) (hbind : ∀ (s : Shared) (u : Value), BindsTo s fd ⟨[u], []⟩ [(x, u)])
    (hsp : ∀ H : Hp, Only H → SqL K H a (iv ns) → sp [.ref a] H (fun v _ => v = .bl true) fun _ _ _ => False) :
    codeAny (model P w) callerA (.call (.ref fa) ⟨[.ref a], []⟩) (fun r s' => r = .ok (.ret (.bool true)) ∧ OldK s₁.heap s'.heap ∧ s'.os = s₁.os ∧ AllBare s'.gens) s₁ := by
  have rel := vals_ints hi
  have same : ∀ H : Hp, Only H → SqL K H a (iv ns) → HOk P w H s₁.heap → (∀ b, H b ≠ none → b = a) → (H a ≠ none → K.lookup a = none) →
      codeAny (model P w) callerA (.call (.ref fa) ⟨[.ref a], []⟩) (fun r s' => r = .ok (.ret (.bool true)) ∧ OldK s₁.heap s'.heap ∧ s'.os = s₁.os ∧ AllBare s'.gens) s₁ := by
    intro H only sq hok at_a k_a
    have nonK : ∀ {b : Addr} {o : Obj}, K.lookup b = some o → H b = none := by
      intro b o e
      cases q : H b with
      | none => rfl
      | some u =>
        have z := at_a b (by rw [q]; simp)
        subst z
        rw [k_a (by rw [q]; simp)] at e
        cases e
    have nonD : ∀ {b : Addr} {o : Obj} {es : Array DictEntry} {ep : Nat}, s₁.heap.get? b = some o → o.data = .dict es ep → H b = none := by
      intro b o es ep e d
      cases q : H b with
      | none => rfl
      | some u =>
        have z := at_a b (by rw [q]; simp)
        subst z
        rw [ha] at e
        cases e
        cases d
    have nsB : ∀ {b : Addr} {m : Str → Option Value}, s₁.heap.Ns b m → (hidT s₁.heap H).Ns b m := by
      rintro b m ⟨o, es, ep, e, d, r⟩
      exact ⟨o, es, ep, hidT_get e (nonD e d), d, r⟩
    have kinB : K.In (hidT s₁.heap H) := fun b o e => hidT_get (KX b o e) (nonK e)
    have md : Mod K mg (hidT s₁.heap H) := by
      obtain ⟨mc, h1, h2⟩ := hlim
      exact ⟨kinB, nsB hns, ⟨mb, nsB hb, hbb⟩, ⟨mc, nsB h1, h2⟩⟩
    have noIn : ∀ b : Addr, b ∉ frs [] := fun b z => by cases z
    have env : Env0 P w K mg (hidT s₁.heap H) callerA [] s₁ H := ⟨rfl, md, fun b o e => of_hidT e, Nat.le_of_eq (hidT_size _ _), trivial, fun b z => absurd z (noIn b), hok, .of_eq hg⟩
    refine codeAny_mono ((F _ kinB (nsB hns)).run callerA [] s₁ H ⟨[.ref a], []⟩ [.ref a] [.ref a] _ _ hr rfl env (hbind s₁ (.ref a)) (.cons rfl .nil) (hsp H only sq)) fun r s' h => ?_
    cases r with
    | error e => exact False.elim h
    | ok fl =>
      cases fl with
      | next => exact False.elim h
      | brk => exact False.elim h
      | cont => exact False.elim h
      | ret u =>
        obtain ⟨v, H', os, bare, un, hok', rv, q⟩ := h
        have ev : v = .bl true := q
        subst ev
        have eu : u = Value.bool true := rv
        subst eu
        refine ⟨rfl, OldK.of_keep fun b o e => ?_, os, bare⟩
        cases q : H b with
        | none => exact un.keep b o e q (noIn b) (by simp)
        | some u =>
          rcases only b with z | ⟨ob, xs, z⟩
          · rw [q] at z
            cases z
          · obtain ⟨e1, _⟩ := hok b _ z
            obtain ⟨e2, _⟩ := hok' b _ (un.frzs b ob _ z)
            rw [e] at e1
            cases e1
            exact e2
  cases hk : K.lookup a with
  | some o =>
    have e := KX a o hk
    rw [ha] at e
    cases e
    refine same (fun _ => none) (fun _ => .inl rfl) (.inr ⟨_, vs.toArray, _, hk, rfl, rfl, rfl, ?_, by simpa using rel⟩) (fun b u z => ?_) (fun b z => absurd rfl z) fun z => absurd rfl z
    · rw [List.size_toArray, hi.length]
      exact hl
    · exact nomatch (show (none : Option HO) = some u from z)
  | none =>
    let H0 : Hp := fun b => if b = a then some (.frz { cls := .type "list", data := .seq vs.toArray } (.lst (iv ns))) else none
    have at1 : H0 a = some (.frz { cls := .type "list", data := .seq vs.toArray } (.lst (iv ns))) := if_pos rfl
    have at0 : ∀ b, b ≠ a → H0 b = none := fun b hb => if_neg hb
    refine same H0 (fun b => ?_) (.inl (.inr ⟨_, at1⟩)) (fun b u z => ?_) (fun b z => ?_) fun _ => hk
    · by_cases hb : b = a
      · exact .inr ⟨_, _, by rw [hb]; exact at1⟩
      · exact .inl (at0 b hb)
    · by_cases hb : b = a
      · subst hb
        rw [at1] at z
        cases z
        exact ⟨ha, by rw [iv_len]; exact hl, vs, _, rel, ha⟩
      · rw [at0 b hb] at z
        cases z
    · by_cases hb : b = a
      · exact hb
      · exact absurd (at0 b hb) z
theorem walk_ofG {l : PySem.W.OpenLaw} {n k : Nat} {q : Program} {loose : List Str} {XP : (Str → Option Value) → Heap → Prop} {YP : World → Heap → Prop} {d : DefRec} {K : Params → PySem.W.Frag} {sp : PySem.W.Frag → Sp} {x : Str}
    (hn : l.most = some n) (hn2 : n ≤ sizeLine) (hdf : d.params.defaults = []) (hr : Room k callerA) (hY : ∀ (w : World) (h : Heap), YP w h → (K w.params).In h)
    (F : ∀ (w : World) (mg : Str → Option Value) (fa : Addr) (h : Heap), (K w.params).In h → h.Ns mainGlobals mg → mg d.name = some (.ref fa) →
      ∃ fd : FuncData, (∀ (s : Shared) (u : Value), BindsTo s fd ⟨[u], []⟩ [(x, u)]) ∧
        ∀ base : Heap, (K w.params).In base → base.Ns mainGlobals mg → FnG l.prog w (K w.params) mg base CX0 k fa fd [x] (sp (K w.params)))
    (hsp : ∀ (K : PySem.W.Frag) (H : Hp) (a : Addr) (ns : List Int), ns.length ≤ n → SqL K H a (iv ns) → sp K [.ref a] H (fun v _ => v = .bl true) fun _ _ _ => False) :
    PySem.W.WalkO q loose XP YP l.row.toRowW d [] (fun f vs => PySem.call f vs) := by
  refine Att.attach_call hn hdf fun w s₀ s₁ mg mb fa o pm cd doc a vs ns G Y ho hd hcd hmg hobj hints hlen hg => ?_
  have KX := hY w _ Y
  obtain ⟨fd, hb, hF⟩ := F w mg fa _ KX G.T.g hmg
  exact law_endG KX G.T.g G.T.b G.T.builtins G.T.nolimit hg hobj hints (Nat.le_trans hlen hn2) hr hF hb fun H _ hS => hsp (K w.params) H a ns hlen hS

/-! ## a def of the text, out of what the top has written -/
theorem DefAt.mk1 {K : PySem.W.Frag} {h : Heap} {mg : Str → Option Value} {x : Str} {st : Stmt} {ps : List Str} {f : Addr} {od an : Option Addr} {sl : Array (Option Value)} {oc kV dc pm cd ct : Value} (X : K.In h) (G : h.Ns mainGlobals mg)
    (a : PySem.W.nsIn K mainGlobals x = some (some (.ref f))) (l : K.lookup f = some ⟨oc, od, .func (PySem.W.fnOf x x (defArgs st) (defBody st) (defScope st) .none kV dc pm an cd ct), sl⟩) (c : PySem.W.codeIn K cd x = true) (k : PySem.W.keepIn K (.ref f) = true)
    (hb : ∀ (kV doc pm : Value) (an : Option Addr) (cdv ct : Value) (us : List Value), us.length = ps.length → bindArgs (PySem.W.fnOf x x (defArgs st) (defBody st) (defScope st) .none kV doc pm an cdv ct) ⟨us, []⟩ = pure (ps.zip us)) : DefAt K mg x st ps :=
  ⟨f, _, fun_mk (st := st) l c k, PySem.W.mg_of X G a, (fun_mk (st := st) l c k).binds hb⟩
theorem cutD {p q : Prop} (h : p) (k : p → q) : q := k h
/-- a class: what its facts say -/
theorem cls_mk {K : PySem.W.Frag} {h : Heap} {mg : Str → Option Value} {x : Str} {C : Addr} (X : K.In h) (hC : mg x = some (.ref C)) (pg : PySem.W.plainGet K C Str.empty = true) (hd : PySem.W.hasDictIn K C = true) (po : PySem.W.plainOver K C = true) (sa : PySem.W.findIn K (.ref C) "__setattr__" = some (some (.builtin "object.__setattr__"))) : Cls K C := ⟨pg, hd, po, sa⟩
theorem noat_mk {K : PySem.W.Frag} {h : Heap} {mg : Str → Option Value} {x : Str} {C : Addr} {m : Str} (X : K.In h) (hC : mg x = some (.ref C)) (n : PySem.W.findIn K (.ref C) m = some none) : NoAttr K C m := n
theorem IniAt.mk1 {K : PySem.W.Frag} {h : Heap} {mg : Str → Option Value} {C : Addr} {x qual : Str} {st : Stmt} {ps : List Str} {f : Addr} {od an : Option Addr} {sl : Array (Option Value)} {oc kV dc pm cd ct : Value} (X : K.In h) (hm : mg x = some (.ref C))
    (a : PySem.W.findIn K (.ref C) "__init__" = some (some (.ref f))) (l : K.lookup f = some ⟨oc, od, .func (PySem.W.fnOf "__init__" qual (defArgs st) (defBody st) (defScope st) .none kV dc pm an cd ct), sl⟩) (c : PySem.W.codeIn K cd qual = true) (k : PySem.W.keepIn K (.ref f) = true)
    (mk : PySem.W.makesIn K C = true) (i : PySem.W.isFn K (.ref f) = true) (kc : PySem.W.keepIn K (.ref C) = true)
    (hb : ∀ (kV doc pm : Value) (an : Option Addr) (cdv ct : Value) (us : List Value), us.length = ps.length → bindArgs (PySem.W.fnOf "__init__" qual (defArgs st) (defBody st) (defScope st) .none kV doc pm an cdv ct) ⟨us, []⟩ = pure (ps.zip us)) : IniAt K mg C x qual st ps :=
  ⟨f, _, fun_mk (st := st) l c k, ⟨mk, a, i, kc⟩, hm, (fun_mk (st := st) l c k).binds hb⟩
theorem MetAt.mk1 {K : PySem.W.Frag} {h : Heap} {mg : Str → Option Value} {x : Str} {C : Addr} {m qual : Str} {st : Stmt} {ps : List Str} {f : Addr} {od an : Option Addr} {sl : Array (Option Value)} {oc kV dc pm cd ct : Value} (X : K.In h) (hC : mg x = some (.ref C))
    (a : PySem.W.findIn K (.ref C) m = some (some (.ref f))) (l : K.lookup f = some ⟨oc, od, .func (PySem.W.fnOf m qual (defArgs st) (defBody st) (defScope st) .none kV dc pm an cd ct), sl⟩) (c : PySem.W.codeIn K cd qual = true) (k : PySem.W.keepIn K (.ref f) = true) (i : PySem.W.isFn K (.ref f) = true)
    (hb : ∀ (kV doc pm : Value) (an : Option Addr) (cdv ct : Value) (us : List Value), us.length = ps.length → bindArgs (PySem.W.fnOf m qual (defArgs st) (defBody st) (defScope st) .none kV doc pm an cdv ct) ⟨us, []⟩ = pure (ps.zip us)) : MetAt K C m qual st ps :=
  ⟨f, _, fun_mk (st := st) l c k, ⟨a, i, k⟩, (fun_mk (st := st) l c k).binds hb⟩
theorem PrpAt.mk1 {K : PySem.W.Frag} {h : Heap} {mg : Str → Option Value} {x : Str} {C : Addr} {m qual : Str} {st : Stmt} {ps : List Str} {f p : Addr} {rest : List Value} {od an : Option Addr} {sl : Array (Option Value)} {oc kV dc pm cd ct : Value} (X : K.In h) (hC : mg x = some (.ref C))
    (a : PySem.W.findIn K (.ref C) m = some (some (.ref p))) (g : PySem.W.specialIn K (.ref p) "__get__" = some (some (.builtin "property.__get__"))) (t : PySem.W.takesIn K (.ref p) = some true) (r : PySem.W.recIn K p "property" = some (.ref f :: rest))
    (l : K.lookup f = some ⟨oc, od, .func (PySem.W.fnOf m qual (defArgs st) (defBody st) (defScope st) .none kV dc pm an cd ct), sl⟩) (c : PySem.W.codeIn K cd qual = true) (k : PySem.W.keepIn K (.ref f) = true)
    (hb : ∀ (kV doc pm : Value) (an : Option Addr) (cdv ct : Value) (us : List Value), us.length = ps.length → bindArgs (PySem.W.fnOf m qual (defArgs st) (defBody st) (defScope st) .none kV doc pm an cdv ct) ⟨us, []⟩ = pure (ps.zip us)) : PrpAt K C m qual st ps :=
  ⟨f, p, _, fun_mk (st := st) l c k, ⟨a, g, t, rest, r⟩, (fun_mk (st := st) l c k).binds hb⟩
theorem glob_mk {K : PySem.W.Frag} {h : Heap} {mg : Str → Option Value} {x : Str} {C : Addr} (X : K.In h) (G : h.Ns mainGlobals mg) (a : PySem.W.nsIn K mainGlobals x = some (some (.ref C))) : mg x = some (.ref C) := PySem.W.mg_of X G a
/-- a def with defaults -/
theorem funD_mk {K : PySem.W.Frag} {h : Heap} {mg : Str → Option Value} {x : Str} {st : Stmt} {dvs : List V} {f T : Addr} {o : Obj} {its : List Value} {n : Nat} {od an : Option Addr} {sl : Array (Option Value)} {oc kV dc pm cd ct : Value} (X : K.In h) (G : h.Ns mainGlobals mg)
    (a : PySem.W.nsIn K mainGlobals x = some (some (.ref f))) (l : K.lookup f = some ⟨oc, od, .func (PySem.W.fnOf x x (defArgs st) (defBody st) (defScope st) (.ref T) kV dc pm an cd ct), sl⟩) (c : PySem.W.codeIn K cd x = true) (k : PySem.W.keepIn K (.ref f) = true)
    (t : K.lookup T = some o) (e : o.data = .seq its.toArray n) (hv : Vals dvs its) (hd : dvs ≠ []) : FunD K x x (defArgs st) (defBody st) (defScope st) dvs [] f (PySem.W.fnOf x x (defArgs st) (defBody st) (defScope st) (.ref T) kV dc pm an cd ct) ∧ mg x = some (.ref f) :=
  ⟨⟨⟨oc, od, _, kV, dc, pm, an, cd, ct, sl, rfl, l, c, .inr ⟨hd, T, o, its, n, rfl, t, e, hv⟩, .inl rfl⟩, k⟩, PySem.W.mg_of X G a⟩
/-- the law's own def -/
theorem DefAt.law {K : PySem.W.Frag} {mg : Str → Option Value} {x : Str} {st : Stmt} {fa : Addr} {p : Str} (D : DefAt K mg x st [p]) (hfa : mg x = some (.ref fa))
    (hb : ∀ (kV doc pm : Value) (an : Option Addr) (cdv ct : Value) (us : List Value), us.length = 1 → bindArgs (PySem.W.fnOf x x (defArgs st) (defBody st) (defScope st) .none kV doc pm an cdv ct) ⟨us, []⟩ = pure ([p].zip us)) :
    ∃ fd : FuncData, Fun K x x st fa fd ∧ ∀ (s : Shared) (u : Value), BindsTo s fd ⟨[u], []⟩ [(p, u)] := by
  obtain ⟨f, fd, F, hm, b⟩ := D.ex
  rw [hfa] at hm
  cases hm
  obtain ⟨oc, od, kV, doc, pm, an, cdv, ct, osl, rfl, lk, hcd⟩ := F.ex
  exact ⟨_, F, fun s u => .of_eq (hb kV doc pm an cdv ct [u] rfl)⟩
end Sq

/-! the mathematics of replacements on lengths of runs -/
namespace Sq
def once (n k : Int) : Int := n / k + n % k
def sqz (n : Int) (row : List Int) : Int := row.foldl once n
def rb (R k : Int) : Int := if k > R + 1 then R else (R + 3 - k) * k - 2
def reachOf (row : List Int) (most : Int) : Int := row.foldr (fun k R => rb R k) most
abbrev Two (row : List Int) : Prop := ∀ k ∈ row, (2 : Int) ≤ k
def Mid (ns : List Int) : Prop := ∀ k ∈ ns, (2 : Int) ≤ k ∧ k < 2 ^ 240
theorem Mid.two {ns : List Int} (h : Mid ns) : Two ns := fun k hk => (h k hk).1
theorem sqz_cons (n k : Int) (r : List Int) : sqz n (k :: r) = sqz (once n k) r := rfl
theorem sqz_app (n : Int) (a b : List Int) : sqz n (a ++ b) = sqz (sqz n a) b := by simp [sqz, List.foldl_append]
theorem sqz_snoc (n k : Int) (a : List Int) : sqz n (a ++ [k]) = once (sqz n a) k := by rw [sqz_app]; rfl
theorem sqz_take {row : List Int} {n k : Int} {i : Nat} (h : row[i]? = some k) : sqz n (row.take (i + 1)) = once (sqz n (row.take i)) k := by
  rw [List.take_add_one, h]
  exact sqz_snoc _ _ _
theorem once_nn {n k : Int} (hn : 0 ≤ n) (hk : 2 ≤ k) : 0 ≤ once n k := by
  unfold once
  have h1 := Int.ediv_nonneg hn (by omega : (0 : Int) ≤ k)
  have h2 := Int.emod_nonneg n (by omega : k ≠ 0)
  omega
/-- quotient and rest -/
theorem qr (n : Int) {k : Int} (hk : 2 ≤ k) : ∃ q r, n = q * k + r ∧ 0 ≤ r ∧ r < k ∧ n / k = q ∧ n % k = r :=
  ⟨n / k, n % k, by have := Int.mul_ediv_add_emod n k; rw [Int.mul_comm] at this; omega, Int.emod_nonneg n (by omega), Int.emod_lt_of_pos n (by omega), rfl, rfl⟩
theorem qr_of {q r k : Int} (h0 : 0 ≤ r) (h1 : r < k) : (q * k + r) / k = q ∧ (q * k + r) % k = r := by
  have hk : k ≠ 0 := by omega
  constructor
  · rw [Int.add_comm, Int.add_mul_ediv_right _ _ hk, Int.ediv_eq_zero_of_lt h0 h1]; omega
  · rw [Int.add_comm, Int.add_mul_emod_self_right, Int.emod_eq_of_lt h0 h1]
theorem once_qr {q r k : Int} (h0 : 0 ≤ r) (h1 : r < k) : once (q * k + r) k = q + r := by
  obtain ⟨a, b⟩ := qr_of (q := q) h0 h1
  unfold once
  rw [a, b]
theorem once_le {n k : Int} (hn : 0 ≤ n) (hk : 2 ≤ k) : once n k ≤ n := by
  obtain ⟨q, r, e, h0, h1, e1, e2⟩ := qr n hk
  unfold once
  rw [e1, e2]
  have hq : 0 ≤ q := by rw [← e1]; exact Int.ediv_nonneg hn (by omega)
  have := Int.mul_le_mul_of_nonneg_left (by omega : (1 : Int) ≤ k) hq
  omega
theorem once_small {n k : Int} (hn : 0 ≤ n) (h : n < k) : once n k = n := by
  unfold once
  rw [Int.ediv_eq_zero_of_lt hn h, Int.emod_eq_of_lt hn h]
  omega
theorem once_pos {n k : Int} (hn : 1 ≤ n) (hk : 2 ≤ k) : 1 ≤ once n k := by
  obtain ⟨q, r, e, h0, h1, e1, e2⟩ := qr n hk
  unfold once
  rw [e1, e2]
  have hq : 0 ≤ q := by rw [← e1]; exact Int.ediv_nonneg (by omega) (by omega)
  rcases Int.lt_or_eq_of_le hq with h | h
  · omega
  · subst h; omega
theorem sqz_nn : ∀ {row : List Int} {n : Int}, 0 ≤ n → Two row → 0 ≤ sqz n row
  | [], n, h, _ => h
  | k :: r, n, h, t => sqz_nn (row := r) (once_nn h (t k (List.mem_cons_self ..))) fun j hj => t j (List.mem_cons_of_mem _ hj)
theorem sqz_le : ∀ {row : List Int} {n : Int}, 0 ≤ n → Two row → sqz n row ≤ n
  | [], n, h, _ => Int.le_refl n
  | k :: r, n, h, t => Int.le_trans (sqz_le (row := r) (once_nn h (t k (List.mem_cons_self ..))) fun j hj => t j (List.mem_cons_of_mem _ hj)) (once_le h (t k (List.mem_cons_self ..)))
theorem sqz_pos : ∀ {row : List Int} {n : Int}, 1 ≤ n → Two row → 1 ≤ sqz n row
  | [], n, h, _ => h
  | k :: r, n, h, t => sqz_pos (row := r) (once_pos h (t k (List.mem_cons_self ..))) fun j hj => t j (List.mem_cons_of_mem _ hj)
/-- one step of the reach -/
theorem rb_pos {R k : Int} (hR : 1 ≤ R) (hk : 2 ≤ k) : R ≤ rb R k := by
  unfold rb
  split
  · omega
  · rename_i h
    have e : (R + 3 - k) * k - 2 - R = (R + 1 - k) * (k - 1) + (k - 1) := by
      have e1 : R + 3 - k = (R + 1 - k) + 2 := by omega
      have e2 : k = (k - 1) + 1 := by omega
      rw [e1]
      have e3 : (R + 1 - k) * k = (R + 1 - k) * (k - 1) + (R + 1 - k) := by
        have := Int.mul_sub (R + 1 - k) k 1
        omega
      have e4 : (R + 1 - k + 2) * k = (R + 1 - k) * k + 2 * k := Int.add_mul _ _ _
      omega
    have := Int.mul_nonneg (by omega : (0 : Int) ≤ R + 1 - k) (by omega : (0 : Int) ≤ k - 1)
    omega
theorem rb_all {R k n : Int} (hR : 1 ≤ R) (hk : 2 ≤ k) (h0 : 0 ≤ n) (h : n ≤ rb R k) : once n k ≤ R := by
  unfold rb at h
  split at h
  · rw [once_small h0 (by omega)]; exact h
  · rename_i hh
    obtain ⟨q, r, e, h1, h2, e1, e2⟩ := qr n hk
    unfold once
    rw [e1, e2]
    have e3 : (R + 3 - k) * k = (R + 2 - k) * k + k := by
      have : R + 3 - k = (R + 2 - k) + 1 := by omega
      rw [this, Int.add_mul, Int.one_mul]
    rcases Int.lt_or_le q (R + 2 - k) with hq | hq
    · omega
    · rcases Int.lt_or_eq_of_le hq with hq | hq
      · have := Int.mul_le_mul_of_nonneg_right (by omega : R + 3 - k ≤ q) (by omega : (0 : Int) ≤ k)
        omega
      · subst hq
        omega
theorem rb_next {R k : Int} (hR : 1 ≤ R) (hk : 2 ≤ k) : once (rb R k + 1) k = R + 1 := by
  unfold rb
  split
  · rw [once_small (by omega) (by omega)]
  · have e3 : (R + 3 - k) * k - 2 + 1 = (R + 2 - k) * k + (k - 1) := by
      have : R + 3 - k = (R + 2 - k) + 1 := by omega
      rw [this, Int.add_mul, Int.one_mul]; omega
    rw [e3, once_qr (by omega) (by omega)]
    omega
theorem reach_pos : ∀ {row : List Int} {m : Int}, 1 ≤ m → Two row → m ≤ reachOf row m
  | [], m, _, _ => Int.le_refl m
  | k :: r, m, h, t => by
    have ih := reach_pos (row := r) h fun j hj => t j (List.mem_cons_of_mem _ hj)
    exact Int.le_trans ih (rb_pos (by omega) (t k (List.mem_cons_self ..)))
theorem reach_all : ∀ {row : List Int} {m n : Int}, 1 ≤ m → Two row → 0 ≤ n → n ≤ reachOf row m → sqz n row ≤ m
  | [], m, n, _, _, _, h => h
  | k :: r, m, n, h, t, h0, hn => by
    have t' : Two r := fun j hj => t j (List.mem_cons_of_mem _ hj)
    have hk := t k (List.mem_cons_self ..)
    have p := reach_pos h t'
    exact reach_all (row := r) h t' (once_nn h0 hk) (rb_all (by omega) hk h0 hn)
theorem reach_next : ∀ {row : List Int} {m : Int}, 1 ≤ m → Two row → sqz (reachOf row m + 1) row = m + 1
  | [], m, _, _ => rfl
  | k :: r, m, h, t => by
    have t' : Two r := fun j hj => t j (List.mem_cons_of_mem _ hj)
    have hk := t k (List.mem_cons_self ..)
    have p := reach_pos h t'
    show sqz (once (rb (reachOf r m) k + 1) k) r = m + 1
    rw [rb_next (by omega) hk]
    exact reach_next h t'
/-- the reach is where the first greater one stands -/
theorem reach_is {row : List Int} {m n : Int} (h : 1 ≤ m) (t : Two row) (h0 : 0 ≤ n) (hn : m < sqz n row) (ha : ∀ j, 0 ≤ j → j < n → sqz j row ≤ m) : reachOf row m = n - 1 := by
  have p := reach_pos h t
  rcases Int.lt_or_le (reachOf row m) n with a | a
  · rcases Int.lt_or_le (reachOf row m + 1) n with b | b
    · have := ha _ (by omega) b
      rw [reach_next h t] at this
      omega
    · omega
  · have := reach_all h t h0 a
    omega
theorem reach_mono {row : List Int} {m m' : Int} (h : 1 ≤ m) (hm : m ≤ m') (t : Two row) : reachOf row m ≤ reachOf row m' := by
  rcases Int.lt_or_le (reachOf row m') (reachOf row m) with a | a
  · have p := reach_pos (m := m') (by omega) t
    have := reach_all h t (n := reachOf row m' + 1) (by omega) (by omega)
    rw [reach_next (by omega) t] at this
    omega
  · exact a
end Sq


namespace Sq
open PySem PySem.Spec PyProof.Rows L2
/-! ## ranges of wide ints -/
theorem turn_wide {P : Program} {w : World} {K : PySem.W.Frag} {tg : Expr} (z : Addr) (lo : Int) (n : Nat) : Turn P w K tg (Itr lo n) [z] z (fun i h => IsLongIter h z (lo + (i : Nat) * 1) ((n : Int) - (i : Nat)) 1) := by
  refine ⟨List.mem_singleton.mpr rfl, fun i h st b hb => ?_, fun i h h2 st k => k z (List.mem_singleton.mpr rfl) _ st, ?_, ?_, fun A i s Q E st h => wpAny_pyIter_longiter st h⟩
  · rw [List.mem_singleton.mp hb]
    exact ⟨_, st, fun v c => by cases (show Data.fields _ = Data.cell v from c)⟩
  · rintro X rfl rfl rfl hc i pins s σ H E I hf st hg
    have f := hf z (List.mem_singleton.mpr rfl)
    refine (Walks.longrange (prog := X.prog) (w := X.w) (I.ok.hd hc) z lo 1 n).item i s _ _ hg st fun v h2 tk hv st2 kk => ?_
    obtain ⟨t, rfl⟩ := hv
    have J : Inv X pins σ H { s with heap := h2, toks := tk } := I.turned (fun b o hb e => kk b o (fun m => hb (List.mem_singleton.mp m)) e) f.1 f.2.1 f.2.2.2.1 f.2.2.2.2.1 f.2.2.2.2.2
    refine ⟨_, rfl, go_of (s := { s with heap := h2, toks := tk }) (n := "longrange_iterator") st2 rfl rfl (by decide) ⟨.int (lo + i), H, J, ⟨t, by rw [Int.mul_one]⟩, ⟨rfl, rfl⟩, st2, fun b hb => (hf b hb).1⟩⟩
  · rintro X rfl rfl rfl hc i pins s σ H E I hf st hg
    have f := hf z (List.mem_singleton.mpr rfl)
    have m : n ≤ i := hg
    exact wpAny_pyNext_long_end (I.ok.hd hc) st (by omega) fun h2 k => ⟨rfl, I.turned (t' := s.toks) (fun b o hb e => k b o hb e) f.1 f.2.1 f.2.2.2.1 f.2.2.2.2.1 f.2.2.2.2.2⟩
section
variable {X : Cx} {tg a b : Expr} {t : TA} {p pos : Pos}
theorem rsz (lo hi : Int) : Builtin.Range.rangeSize lo hi 1 = ((hi - lo).toNat : Int) := by
  rw [rangeSize_one]
  split <;> omega
theorem wide_it {pins : List (Addr × Obj)} {σ : L2.St} {H : Hp} {s : Shared} {R : It → Hp → Prop} {E : Value → Shared → Prop} {lo hi : Int} {t u v : Tok} {tk : Nat} (I : Inv X pins σ H s) (q : R (Itr lo (hi - lo).toNat) H) :
    wpAny (model X.prog X.w) X.A (pyIter (.ref s.heap.objs.size)) (PIE X pins σ tg R) E { s with heap := s.heap.push { cls := .type "range", data := .fields #[.int lo t, .int hi u, .int 1 v] }, toks := tk } := by
  have J : Inv X pins σ H { s with heap := s.heap.push { cls := .type "range", data := .fields #[.int lo t, .int hi u, .int 1 v] }, toks := tk } := I.kept fun b o e => Heap.get?_push_of_some _ e
  have z0 : lo + ((0 : Nat) : Int) * 1 = lo := by omega
  have z1 : (((hi - lo).toNat : Nat) : Int) - ((0 : Nat) : Int) = Builtin.Range.rangeSize lo hi 1 := by
    rw [rsz]
    omega
  by_cases sm : Builtin.Range.small lo hi 1 = true
  · refine wpAny_pyIter_range (IsRange.new ..) sm ⟨(s.heap.push { cls := .type "range", data := .fields #[.int lo t, .int hi u, .int 1 v] }).objs.size, [(s.heap.push { cls := .type "range", data := .fields #[.int lo t, .int hi u, .int 1 v] }).objs.size], _, _, H, rfl,
      J.kept (t' := tk) fun b o e => Heap.get?_push_of_some _ e, turn_range _ lo (hi - lo).toNat, ?_, fun b hb => ?_, q⟩
    · show IsRangeIter _ _ (lo + ((0 : Nat) : Int) * 1) ((((hi - lo).toNat : Nat) : Int) - ((0 : Nat) : Int)) 1
      rw [z0, z1]
      exact Heap.get?_push_size _ rfl
    · rw [List.mem_singleton.mp hb]
      exact J.fpOk (Nat.le_refl _) (J.hok.fresh (Nat.le_refl _))
  · refine wpAny_pyIter_longrange (IsRange.new ..) (Bool.not_eq_true _ ▸ sm) ⟨(s.heap.push { cls := .type "range", data := .fields #[.int lo t, .int hi u, .int 1 v] }).objs.size, [(s.heap.push { cls := .type "range", data := .fields #[.int lo t, .int hi u, .int 1 v] }).objs.size], _, _, H, rfl,
      J.kept (t' := tk) fun b o e => Heap.get?_push_of_some _ e, turn_wide _ lo (hi - lo).toNat, ?_, fun b hb => ?_, q⟩
    · show IsLongIter _ _ (lo + ((0 : Nat) : Int) * 1) ((((hi - lo).toNat : Nat) : Int) - ((0 : Nat) : Int)) 1
      rw [z0, z1]
      exact Heap.get?_push_size _ rfl
    · rw [List.mem_singleton.mp hb]
      exact J.fpOk (Nat.le_refl _) (J.hok.fresh (Nat.le_refl _))
def iRngW (t : TA) : TI := fun σ H R => t σ H fun vs H1 => ∃ i j : Int, vs = [.int i, .int j] ∧ R (Itr i (j - i).toNat) H1
theorem pi_range2W (hg : Gl X "range") (hm : X.mg "range" = none) (ha : PA X [a, b] t) (h1 : starEach [a, b] X.env = [(false, eval a X.env), (false, eval b X.env)] := by rfl) (h2 : starEach [b] X.env = [(false, eval b X.env)] := by rfl) :
    PI X tg (.Call (.Name "range" p) [a, b] [] pos) (iRngW t) := by
  refine ⟨fun pins s σ H R I h => Call_ (ld_blt I hg hm boot_range (PyProof.Rows.callWith_type1 (thn (ha.run pos pins s σ H _ I h) fun us s1 hx => ?_) (by rw [h1, h2]) (by rw [h2]; rfl)))⟩
  obtain ⟨vs, H1, J, r, i, j, rfl, q⟩ := hx
  obtain ⟨u, v, rfl, ⟨c, rfl⟩, ⟨d, rfl⟩⟩ : ∃ u v, us = [u, v] ∧ RelV (.int i) u ∧ RelV (.int j) v := by
    cases r with
    | cons r1 r => cases r with
      | cons r2 r => cases r; exact ⟨_, _, rfl, r1, r2⟩
  exact call_range_2 (wide_it J q)
end
/-! ## parts of a list -/
theorem cut_from (xs : List V) (k : Nat) : cutV xs (some (k : Int)) none = xs.drop k := by
  unfold cutV
  rw [HT.sIx_nat, HT.sIx_none]
  rcases Nat.le_total k xs.length with h | h
  · rw [Nat.min_eq_left h]
    exact List.take_of_length_le (by rw [List.length_drop]; omega)
  · rw [Nat.min_eq_right h, List.drop_eq_nil_of_le (Nat.le_refl _), List.drop_eq_nil_of_le h]
    simp
theorem cut_to (xs : List V) (k : Nat) : cutV xs none (some (k : Int)) = xs.take k := by
  unfold cutV
  rw [HT.sIx_nat, HT.sIx_none, List.drop_zero, Nat.sub_zero]
  rcases Nat.le_total k xs.length with h | h
  · rw [Nat.min_eq_left h]
  · rw [Nat.min_eq_right h, List.take_of_length_le (Nat.le_refl _), List.take_of_length_le h]
theorem cut_mid (xs : List V) (j k : Nat) : cutV xs (some (j : Int)) (some (k : Int)) = (xs.drop j).take (k - j) := by
  unfold cutV
  rw [HT.sIx_nat, HT.sIx_nat]
  rcases Nat.le_total j xs.length with h | h
  · rw [Nat.min_eq_left h]
    rcases Nat.le_total k xs.length with h2 | h2
    · rw [Nat.min_eq_left h2]
    · rw [Nat.min_eq_right h2, List.take_of_length_le (by rw [List.length_drop]; omega), List.take_of_length_le (by rw [List.length_drop]; omega)]
  · rw [Nat.min_eq_right h, List.drop_eq_nil_of_le (Nat.le_refl _), List.drop_eq_nil_of_le h]
    simp
theorem iv_drop (ns : List Int) (k : Nat) : (iv ns).drop k = iv (ns.drop k) := by simp
theorem iv_take (ns : List Int) (k : Nat) : (iv ns).take k = iv (ns.take k) := by simp
/-! ## a op b op c op d -/
def tChain3 (r r' r'' : R2) (ta tb tc td : TE) : TE := fun σ H Q => ta σ H fun x H1 => tb σ H1 fun y H2 => r x y H2 fun z H3 => ∃ k, z = .bl k ∧
  (if k = true then tc σ H3 fun v H4 => r' y v H4 fun z' H5 => ∃ k', z' = .bl k' ∧ (if k' = true then td σ H5 fun u H6 => r'' v u H6 Q else Q (.bl false) H5) else Q (.bl false) H3)
section
variable {X : Cx} {a b c d : Expr} {ta tb tc td : TE} {pos : Pos} {op op' op'' : CmpOp} {r r' r'' : R2}
theorem pt_chain3 (h1 : OpR X (compareOp op) r) (h2 : OpR X (compareOp op') r') (h3 : OpR X (compareOp op'') r'') (ha : PE X a ta) (hb : PE X b tb) (hc : PE X c tc) (hd : PE X d td)
    (hm : lastMarks [op, op', op''] [b, c, d] = false := by with_unfolding_all rfl) : PT X (.Compare a [op, op', op''] [b, c, d] pos) (tTest (tChain3 r r' r'' ta tb tc td)) := by
  refine ⟨fun pins s σ H Q I h => isTrue_chain (thn (ha.run pins s σ H _ I h) fun v s1 ⟨x, H1, I1, r1, q1⟩ => test_link (thn (hb.run pins s1 σ H1 _ I1 q1) fun u s2 ⟨y, H2, I2, r2, q2⟩ =>
    thn (h1 pins s2 σ H2 x y v u _ I2 r1 r2 q2) fun e s3 ⟨z, H3, I3, r3, k, ez, q3⟩ => ?_)) hm⟩
  subst ez
  cases r3
  refine wpAny_truthy_bool ?_
  cases k with
  | false =>
    obtain ⟨k2, e2, q2⟩ := q3
    cases e2
    exact ite_ff ⟨H3, I3, q2⟩
  | true =>
    refine ite_tt (test_link (thn (hc.run pins s3 σ H3 _ I3 q3) fun w4 s4 ⟨y4, H4, I4, r4, q4⟩ => thn (h2 pins s4 σ H4 y y4 u w4 _ I4 r2 r4 q4) fun e5 s5 ⟨z5, H5, I5, r5, k5, e5', q5⟩ => ?_))
    subst e5'
    cases r5
    refine wpAny_truthy_bool ?_
    cases k5 with
    | false =>
      obtain ⟨k2, e2, q2⟩ := q5
      cases e2
      exact ite_ff ⟨H5, I5, q2⟩
    | true =>
      refine ite_tt (test_last (thn (hd.run pins s5 σ H5 _ I5 q5) fun w6 s6 ⟨y6, H6, I6, r6, q6⟩ => thn (h3 pins s6 σ H6 y4 y6 w4 w6 _ I6 r4 r6 q6) fun e7 s7 ⟨z7, H7, I7, r7, k7, e7', q7⟩ => ?_))
      subst e7'
      cases r7
      exact wpAny_truthy_bool ⟨H7, I7, q7⟩
end
end Sq


set_option Elab.async false
set_option maxRecDepth 100000
set_option maxHeartbeats 4000000
namespace Sq
open PySem PySem.Spec PyProof.Rows L2
/-! ## an own exception's __init__(self, value): super().__init__(text); self.value = value -/
section
open PySem.W PySem.Calls
variable {prog : Program} {w : World} {A : Around} {E : Value → Shared → Prop} {h : Heap} {g : Array GenState} {d : Drawn} {t : Nat} {os : OsState}
variable {nm q : Str} {C N : Addr} {bs bm : List Value} {hdct : Bool} {sn : List Str} {sub : List Value} {ab : Bool} {col : Option Bool} {dd : Option Addr} {k0 k1 k2 k3 k5 : Option Value}
/-- ValueError.__init__, bound to e, called -/
theorem call_vw {u e t0 : Addr} {rest : List Value} {Q : Value → Shared → Prop}
    (hC : h.get? C = some (excClassObj nm q C N bs bm hdct sn sub ab col dd k0 k1 k2 k3 k5 "ValueError.__new__")) (he : h.get? e = some (HandSPX.excO C t0)) (hu : h.get? u = some (kxs_mw "ValueError.__init__" e)) (hrest : rest.length ≤ sizeLine)
    (hq : ∀ h' t1, (∀ b o, b ≠ e → h.get? b = some o → h'.get? b = some o) → h'.get? e = some (HandSPX.excO C t1) → Q .none ⟨h', g, d, t, os⟩) :
    wpAny (model prog w) A (call (.ref u) rest) Q E ⟨h, g, d, t, os⟩ := by
  refine wpAny_call (codeAny_of_tree ?_)
  show wpAny _ A.in1 (callAny (.ref u) ⟨rest, []⟩) _ _ _
  simp only [callAny]
  refine wpAny_bind (wpAny_load hu ?_)
  simp only [kxs_mw, show (Value.type "method-wrapper" == Value.type "method" || Value.type "method-wrapper" == Value.type "builtin_function_or_method" || Value.type "method-wrapper" == Value.type "method-wrapper") = true by decide, if_true]
  refine W.KFB.if_so (by decide) ?_
  refine wpAny_bind (check_bound_init F.excBase_ValueError.toExcCallFacts hC he rfl ?_)
  refine wpAny_bind (wpAny_pure (wpAny_pure ⟨Code.quiet_builtin _ (by decide +kernel), codeAny_builtin F.excBase_ValueError.initEntry ?_⟩))
  exact exc_init_tree (cls := .ref C) (t0 := t0) (dv := none) (c2 := .none) (c3 := .none) (b4 := .bool false) he hrest fun h' k e' _ => hq h' h.objs.size k e'
end

def spXI (C : Addr) : Sp := fun vs H Q _ => ∃ (a : Addr) (v : V), vs = [.ref a, v] ∧ H a = some (exo a C none) ∧ ∀ dx, H dx = none → dx ≠ a → Q .non (upd (upd H dx (exd dx [("value", v)])) a (exo a C (some dx)))
/-- what the written part says of such an __init__ -/
structure XIn (P : Program) (K : PySem.W.Frag) (C f cc cda : Addr) (qual file : Str) : Prop where
  code : PySem.W.codeIn K (.ref cda) qual = true
  cell : ∃ cl cld csl, K.lookup cc = some ⟨cl, cld, .cell (some (.ref C)), csl⟩
  rec_ : ∃ ccl cdd vs ccs tf, K.lookup cda = some ⟨ccl, cdd, .fields vs, ccs⟩ ∧ vs[2]? = some (.str file tf)
  file : ((P.main.file : Str) == file) = true
  top : (P.main.scope.names.lookup ("super" : Str)).isSome = false
  opq : PySem.W.nsIn K PySem.cStatics "thirdparty.any" = some none
  sup : PySem.W.ks_superIn K C C "__init__" = some (some (.builtin "ValueError.__init__"))
  veb : PySem.W.subIn K (.ref C) (.type "ValueError") = some true
  self : PySem.W.mroIn K C (.ref C) = some true
  val : PySem.W.findIn K (.ref C) "value" = some none
abbrev xiScope : Scope := ⟨.function, [("self", .local), ("value", .local), ("__class__", .free), ("super", .globalImplicit)], false, false, []⟩
abbrev xiArgs (q0 q1 : Pos) : Arguments := { posonlyargs := [], args := [{ arg := "self", annotation := none, pos := q0 }, { arg := "value", annotation := none, pos := q1 }], vararg := none, kwonlyargs := [], kw_defaults := [], kwarg := none, defaults := [] }
abbrev xiBody (m : Str) (p0 p1 p2 p3 p4 p5 p6 p7 p8 p9 : Pos) : List Stmt := [.Expr (.Call (.Attribute (.Call (.Name "super" p0) [] [] p1) "__init__" p2) [.Constant (.str m) 0 p3] [] p4) p5, .Assign [.Attribute (.Name "self" p6) "value" p7] (.Name "value" p8) p9]
theorem xi_S : NdefX.NScope ["self", "value", "__class__"] ["self", "value"] ["__class__"] xiScope := NdefX.nscope_by (by decide +kernel)
/-- how the call of super().__init__ begins (by rfl, once the places are known) -/
def XiCall (qual : Str) (f cc cda : Addr) (m : Str) (p0 p1 p2 p3 p4 : Pos) : Prop := ∀ L : Addr, eval (.Call (.Attribute (.Call (.Name "super" p0) [] [] p1) "__init__" p2) [.Constant (.str m) 0 p3] [] p4) (PySem.W.ksEnv qual xiScope L f (.ref cda) cc) = (do
  let ov ← attributeBase (.Call (.Name "super" p0) [] [] p1) "__init__" (PySem.W.ksEnv qual xiScope L f (.ref cda) cc) (eval (.Call (.Name "super" p0) [] [] p1) (PySem.W.ksEnv qual xiScope L f (.ref cda) cc))
  standAt p2.atName
  let (g, first) ← holding [ov] (getMethod ov "__init__" (do return (← importBound (.Call (.Name "super" p0) [] [] p1) (PySem.W.ksEnv qual xiScope L f (.ref cda) cc)).getD true))
  callWith p4 g first (backTo p4 (starEach [.Constant (.str m) 0 p3] (PySem.W.ksEnv qual xiScope L f (.ref cda) cc))) [])
theorem ok_xi {P : Program} {w : World} {K : PySem.W.Frag} {mg : Str → Option Value} {base : Heap} {CX : CXT} {k : Nat} {C f cc cda : Addr} {qual file : Str} {kV doc pm ct oc : Value} {an od : Option Addr} {osl : Array (Option Value)}
    {p0 p1 p2 p3 p4 p5 p6 p7 p8 p9 q0 q1 : Pos} {m : Str} (T : OexC K C) (XI : XIn P K C f cc cda qual file)
    (lk : K.lookup f = some ⟨oc, od, .func (PySem.W.ksFn "__init__" qual (xiArgs q0 q1) (xiBody m p0 p1 p2 p3 p4 p5 p6 p7 p8 p9) xiScope .none kV doc pm an (.ref cda) ct cc), osl⟩) (hms : mg "super" = none) (he : XiCall qual f cc cda m p0 p1 p2 p3 p4) :
    FnOk P w K mg base CX (k + 1) f (PySem.W.ksFn "__init__" qual (xiArgs q0 q1) (xiBody m p0 p1 p2 p3 p4 p5 p6 p7 p8 p9) xiScope .none kV doc pm an (.ref cda) ct cc) ["self", "value"] (spXI C) := by
  refine ⟨fun vs H Q E h => by obtain ⟨a, v, rfl, _⟩ := h; rfl, fun A outer s H args us vs Q E hr e0 hbind r hsp => ?_⟩
  obtain ⟨a, v, rfl, ha, hq⟩ := hsp
  have KX : K.In s.heap := e0.mod.kin.keeps fun b o e => (e0.bs b o e).1
  have lim : s.heap.NoLimit := e0.mod.nolimit.keeps fun b o e => (e0.bs b o e).1
  obtain ⟨cl, cld, csl, hcell⟩ := XI.cell
  obtain ⟨ccl, cdd, cvs, ccs, tf, hcode, hvs⟩ := XI.rec_
  refine PySem.ks_codeAny_call_defAt (binds := (["self", "value"] : List Str).zip us) hr.depth (KX _ _ lk) rfl lim (PySem.W.codeRec_of KX XI.code) rfl hbind xi_S.nocell (fun ⟨n, _⟩ hy => xi_S.par n (List.of_mem_zip hy).1) (fun h1 hns kp => ?_) xi_S.co xi_S.gen xi_S.kind
  have S := xi_S
  let F : NdefX.NF := ⟨"__init__", qual, xiArgs q0 q1, xiBody m p0 p1 p2 p3 p4 p5 p6 p7 p8 p9, xiScope, [("__class__", cc)], cda⟩
  have cells : NdefX.CellsAt F.cl ["__class__"] [none] s.heap H := by
    have one : ∀ y c, F.cl.lookup y = some c → y = ("__class__" : Str) ∧ c = cc := fun y c e => by
      have e' : ([("__class__", cc)] : List (Str × Addr)).lookup y = some c := e
      by_cases z : y = ("__class__" : Str)
      · subst z
        simp [List.lookup] at e'
        exact ⟨rfl, e'.symm⟩
      · have z2 : (y == ("__class__" : Str)) = false := by simpa using z
        simp [List.lookup, z2] at e'
    refine ⟨rfl, fun y c e => ?_, fun x y c e1 e2 => ?_, fun i y e => ?_⟩
    · rw [(one y c e).2]
      exact ⟨(e0.bs _ _ (e0.mod.kin _ _ hcell)).2, _, ⟨_, KX _ _ hcell, rfl⟩⟩
    · rw [(one x c e1).1, (one y c e2).1]
    · cases i with
      | zero =>
        obtain rfl : ("__class__" : Str) = y := by simpa using e
        exact ⟨cc, by simp [F, List.lookup], fun v h => by simp at h⟩
      | succ i => simp at e
  have I : Inv (NdefX.ncx CX P w K mg base ["self", "value", "__class__"] F f A outer s H E) [] (NdefX.startF ["self", "value", "__class__"] [.ref a, v] [none]) H { s with heap := h1, toks := s.toks + ((["self", "value"] : List Str).zip us).length } :=
    NdefX.inv_startN (F := F) S hr.hd e0 rfl r cells hns kp
  have K1 : K.In h1 := KX.keeps kp
  show PySem.wpAt (model P w) (A.deeper (PySem.W.ksEnv qual xiScope s.heap.objs.size f (.ref cda) cc)) (.func (xiBody m p0 p1 p2 p3 p4 p5 p6 p7 p8 p9) (PySem.W.ksEnv qual xiScope s.heap.objs.size f (.ref cda) cc)) (execs (xiBody m p0 p1 p2 p3 p4 p5 p6 p7 p8 p9) (PySem.W.ksEnv qual xiScope s.heap.objs.size f (.ref cda) cc)) _ _ _
  refine ks_wpAt_execs_cons (ks_wpAt_Expr_any (ks_wpAt_MethodCall ?_ (he _)))
  refine ks_wpAt_super_base (env := NdefX.envF F f s.heap.objs.size) rfl rfl (by decide) rfl (K1 _ _ lk) rfl rfl rfl (K1 _ _ hcode) rfl hvs XI.file XI.top ?_
  obtain ⟨nm, q, N, bs, bm, sn, sub, ab, col, dd, k0, k1, k2, k3, k5, hC, hbm⟩ := T.cls
  have hcl : PySem.W.clsIn K C = some { name := nm, bases := bs, mro := .ref C :: bm, ns := N, qualname := q, hasDict := true, slotNames := sn, subclasses := sub, abstract := ab, collection := col, hasDel := false } := by unfold PySem.W.clsIn; rw [hC] <;> rfl
  obtain ⟨mb, hb1, hb2⟩ := I.mod.blt
  obtain ⟨t1, hoe⟩ := exo_at I.hok ha
  have hself : (((["self", "value"] : List Str).zip us).reverse.lookup ("self" : Str)) = some (Value.ref a) := by
    cases r with
    | cons r1 r => cases r with
      | cons r2 r =>
        cases r
        obtain rfl := r1
        rfl
  refine PySem.W.ks_loadName_global rfl rfl (Calls.loadGlobal_builtin (I.mod.glob.keeps I.bk) hms (hb1.keeps I.bk) ((hb2 _ (by decide)).trans PyProof.Rows.Boot.«super») ⟨rfl, ?_⟩)
  refine wpAny_loadName_free rfl rfl rfl ⟨_, K1 _ _ hcell, rfl⟩ ?_
  refine wpAny_loadName_local rfl rfl hns hself ?_
  refine ks_wpAny_isType_cls (K1 _ _ hC) rfl ⟨rfl, ?_⟩
  refine ks_wpAny_call_super (K1 _ _ hC) rfl hoe rfl (fun c e => by cases e) (PySem.W.looks_mroIn K1 XI.self) (fun h2 e2 kp2 => ?_)
  have I2 := I.kept (t' := s.toks + ((["self", "value"] : List Str).zip us).length) kp2
  have K2 : K.In h2 := K1.keeps kp2
  obtain ⟨t2, hoe2⟩ := exo_at I2.hok ha
  have at2 : PySem.W.InstAt h2 a { cls := .ref C, dict := none, data := .fields #[.ref t2, .none, .none, .none, .bool false, .none] } C none := ⟨hoe2, rfl, rfl, trivial⟩
  have hsup : PySem.W.alongIn K "__init__" (((.ref C :: bm).dropWhile (· != Value.ref C)).drop 1) = some (some (.builtin "ValueError.__init__")) := by
    have z := XI.sup
    unfold PySem.W.ks_superIn at z
    rw [hcl] at z
    exact z
  refine PySem.W.kxs_getMethod PySem.W.kxs_ValueError e2 (PySem.W.looks_opaque K2 XI.opq) (l₀ := .ref C :: bm) ((PySem.W.looks_clsIn K2 hcl).andThen .now) rfl K2 hsup (at2.type.andThen (PySem.W.looks_subIn K2 XI.veb)) (PySem.W.ks_ne K2 at2 hcl) (by decide) ?_
  have I3 := I2.kept (h' := h2.push (PySem.W.kxs_mw "ValueError.__init__" a)) (t' := s.toks + ((["self", "value"] : List Str).zip us).length + 1) fun b o e => Heap.get?_push_of_some _ e
  refine PySem.W.kxs_callWith (i := "ValueError.__init__") (x := a) rfl (Calls.evalArgs_plain (Calls.spliced_cons (Calls.Constant_str (pos := p3) (k := 0) (Calls.spliced_nil ⟨Heap.get?_push_at rfl rfl, ?_⟩))))
  have I4 := I3.tok (s.toks + ((["self", "value"] : List Str).zip us).length + 1 + 1)
  obtain ⟨t4, hoe4⟩ := exo_at I4.hok ha
  refine call_vw (t0 := t4) (Heap.get?_push_of_some _ (K2 _ _ hC)) hoe4 (Heap.get?_push_at rfl rfl) (by simp [sizeLine_eq]) fun h5 t5 k5 e5 => ?_
  have J0 := I4.write (h' := h5) (t' := s.toks + ((["self", "value"] : List Str).zip us).length + 1 + 1) (x := a) (e := a) (o := exo a C none) (by rw [ha]; exact True.intro) (.inl rfl) k5 ⟨_, e5⟩ (exo_ok e5)
  have eu : upd H a (exo a C none) = H := by
    funext b
    by_cases hb : b = a
    · rw [hb, upd_same, ha]
    · rw [upd_ne hb]
  rw [eu] at J0
  show PySem.wpAt _ _ _ (execs [.Assign [.Attribute (.Name "self" p6) "value" p7] (.Name "value" p8) p9] _) _ _ _
  refine wpAt_of_wpAny ?_
  have pst : PSs (NdefX.ncx CX P w K mg base ["self", "value", "__class__"] F f A outer s H E) [.Assign [.Attribute (.Name "self" p6) "value" p7] (.Name "value" p8) p9] (tOst K "value" (tVar 0) (tVar 1)) := pss_one (ps_ost (pv 0) (pv 1) rfl)
  refine wpAny_mono (pst.run [] _ _ H { nx := fun _ H' => Q .non H', rt := Q } J0 ⟨v, rfl, .ref a, rfl, a, C, rfl, T, XI.val, .inl ⟨ha, fun dx n ne => hq dx n ne⟩⟩) (fun fl s' hs => ?_) fun e s' hs => hs
  cases fl with
  | ret u =>
    obtain ⟨v, σ', H', J, rv, q⟩ := hs
    exact ⟨v, H', J.os, J.bare, J.base, J.hok, rv, q⟩
  | next =>
    obtain ⟨σ', H', J, q⟩ := hs
    exact ⟨.non, H', J.os, J.bare, J.base, J.hok, rfl, q⟩
  | brk =>
    obtain ⟨_, _, _, q⟩ := hs
    exact False.elim q
  | cont =>
    obtain ⟨_, _, _, q⟩ := hs
    exact False.elim q
end Sq


set_option Elab.async false
set_option maxRecDepth 100000
set_option maxHeartbeats 4000000
namespace Sq
open PySem PySem.Spec PyProof.Rows L2
/-! ## an exception that has been caught and is kept -/
/-- at a: an exception of the class cls with the dict d, at rest -/
def Xo (a : Addr) (cls : Value) (d : Option Addr) : HO := .ext fun h => ∃ (oe : Obj) (vs : Array Value), h.get? a = some oe ∧ Zc cls d oe ∧ oe.data = .fields vs
theorem xo_ok {P : Program} {w : World} {H : Hp} {h : Heap} {a : Addr} {cls : Value} {d : Option Addr} {oe : Obj} {vs : Array Value} (e : h.get? a = some oe) (z : Zc cls d oe) (f : oe.data = .fields vs) : ObjOk P w H h a (Xo a cls d) :=
  ⟨⟨oe, vs, e, z, f⟩, ⟨_, e⟩, fun _ _ ⟨o2, v2, e2, z2, f2⟩ k => ⟨o2, v2, k _ e2, z2, f2⟩⟩
theorem xo_at {P : Program} {w : World} {H : Hp} {h : Heap} {a : Addr} {cls : Value} {d : Option Addr} (hok : HOk P w H h) (e : H a = some (Xo a cls d)) : ∃ (oe : Obj) (vs : Array Value), h.get? a = some oe ∧ Zc cls d oe ∧ oe.data = .fields vs := by
  have x : ObjOk P w H h a (.ext fun h => ∃ (oe : Obj) (vs : Array Value), h.get? a = some oe ∧ Zc cls d oe ∧ oe.data = .fields vs) := hok a _ e
  exact x.1
section
variable {X : Cx} {pins : List (Addr × Obj)} {σ : L2.St} {H : Hp} {s : Shared} {a : Addr} {cls : Value} {d : Option Addr} {oe : Obj} {vs : Array Value}
/-- an object that is younger than the entry and that nothing holds is kept from now on -/
theorem track (J : Inv X pins σ H s) (e : s.heap.get? a = some oe) (na : H a = none) (nL : a ≠ X.env.locals) (np : ∀ p ∈ X.pn ++ pins, p.1 ≠ a) (young : X.s_0.heap.get? a = none) (z : Zc cls d oe) (f : oe.data = .fields vs) : Inv X pins σ (upd H a (Xo a cls d)) s := by
  have old : ∀ {b : Addr} {o : Obj}, X.s_0.heap.get? b = some o → b ≠ a := fun {b o} q c => by
    rw [c, young] at q
    cases q
  have set : ∀ {b : Addr} {o : HO}, H b = some o → b ≠ a := fun {b o} q c => by
    rw [c, na] at q
    cases q
  refine ⟨J.ok, J.os, J.bare, ⟨J.base.keep, J.base.slot, fun b o q n x => ?_, J.base.there, fun b xs q => ?_, fun b o v q => ?_, fun b ps q => ?_⟩, J.loc, J.cell, ?_, fun y c q => ?_, fun p hp => ?_, fun b o q => ?_, J.len⟩
  · rw [upd_ne (old q)]
    exact J.base.free b o q n x
  · have z := J.base.tups b xs q
    rw [upd_ne (set z)]
    exact z
  · have z := J.base.frzs b o v q
    rw [upd_ne (set z)]
    exact z
  · obtain ⟨more, z⟩ := J.base.tbls b ps q
    exact ⟨more, by rw [upd_ne (set z)]; exact z⟩
  · rw [upd_ne (Ne.symm nL)]
    exact J.free
  · have nc : c ≠ a := fun h => by
      obtain ⟨w, o, e2, d2⟩ := J.cell y c q
      rw [h, e] at e2
      cases e2
      rw [f] at d2
      cases d2
    rw [upd_ne nc]
    exact J.freeC y c q
  · obtain ⟨e1, n1, r1⟩ := J.pin p hp
    exact ⟨e1, by rw [upd_ne (np p hp)]; exact n1, r1⟩
  · by_cases hb : b = a
    · subst hb
      rw [upd_same] at q
      cases q
      exact xo_ok e z f
    · rw [upd_ne hb] at q
      have own : ∀ c, H c = some (.own b) → c ≠ a := fun c hc h => by
        rw [h, na] at hc
        cases hc
      exact (J.hok b o q).stay (fun c v _ k => k) (fun c hc => by rw [upd_ne (own c hc)]; exact hc) fun c xs hc => by rw [upd_ne fun h => by rw [h, na] at hc; cases hc]; exact hc
end

/-- what is wished behind the suite of 'except x as n' -/
def keepD (D : Ends) (i : Nat) : Ends where
  nx := fun τ G => D.nx (τ.set i none) G
  rt := D.rt
  bk := fun τ G => D.bk (τ.set i none) G
  ct := fun τ G => D.ct (τ.set i none) G
def wKeep (K : PySem.W.Frag) (c : Value) (i : Nat) (ts : Addr → Value → Option Addr → TS) (Wout : WX) (D : Ends) : WX := fun cls d σ H => ∃ b, PySem.W.exmOne K cls c = some b ∧
  (b = true → ∀ a, H a = none → ts a cls d (keepD D i) (σ.set i (some (.ref a))) (upd H a (Xo a cls d))) ∧ (b = false → Wout cls d σ H)
/-- into the suite and out of it -/
theorem suite_in {X : Cx} {pins : List (Addr × Obj)} {σ : L2.St} {H : Hp} {s : Shared} {a : Addr} (I : Inv X pins σ H s) : Inv (X.suite a (X.pn ++ pins)) [] σ H s :=
  ⟨I.ok.suite _ _, I.os, I.bare, I.base, I.loc, I.cell, I.free, I.freeC, fun p hp => I.pin p (by rw [List.append_nil] at hp; exact hp), I.hok, I.len⟩
theorem suite_out {X : Cx} {pins : List (Addr × Obj)} {σ : L2.St} {H : Hp} {s : Shared} {a : Addr} (I : Inv (X.suite a (X.pn ++ pins)) [] σ H s) (ok : X.Ok) : Inv X pins σ H s :=
  ⟨ok, I.os, I.bare, I.base, I.loc, I.cell, I.free, I.freeC, fun p hp => I.pin p (by rw [List.append_nil]; exact hp), I.hok, I.len⟩
section
variable {X : Cx} {x n : Str} {c : Value} {i : Nat} {body rest : List Stmt} {st : Stmt} {np pos pos2 : Pos} {tb : WX → TS} {ts : Addr → Value → Option Addr → TS} {Wout : WX}
/-- as ps_try_as; the exception stays behind the suite -/
theorem ps_try_keep (hs : X.stack = X.env :: X.outer) (hf : X.env.frame = some X.env.locals) (hN : X.N.Nodup) (hi : X.N[i]? = some n) (hln : X.env.kindOf n = some .local) (hex : X.ex = []) (hc : Names X x c) (tk : Takes X Wout)
    (hb : ∀ (W : WX) (pn : List (Addr × Obj)) (xe : Value → Shared → Prop), Takes (X.tr pn xe) W → PassesOwn (model X.prog X.w) X.A X.env xe → PSs (X.tr pn xe) body (tb W))
    (hsu : ∀ (a : Addr) (cls : Value) (d : Option Addr) (pn : List (Addr × Obj)), PSs (X.suite a pn) (st :: rest) (ts a cls d)) :
    PS X (.Try body [.ExceptHandler (some (.Name x np)) (some n) (st :: rest) pos2] [] [] pos) (fun D σ H => tb (wKeep X.K c i ts Wout D) D σ H) := by
  refine ⟨fun pins s σ H D I h => wpAny_Try_except ?_⟩
  have ok := I.ok
  have hfr : X.A.frames = some (X.env :: X.outer) := by rw [ok.frames, hs]
  have hlc : Loc X.env.scope n := .inl hln
  have seen : ∀ {C : Heap} {h : Heap} {q : Addr} {o : Obj} {vs : Array Value}, h.FunFrames C (X.env :: X.outer) → h.get? q = some o → o.data = .fields vs → q ∉ frs (X.env :: X.outer) := fun {C h q o vs} ff e dd hm => by
    obtain ⟨_, o2, e2, nn⟩ := ff.mem hm
    rw [e] at e2
    cases e2
    exact nn _ dd
  refine wpAny_mono ((hb (wKeep X.K c i ts Wout D) (X.pn ++ pins) _ (fun u s2 air => ?_) PassesOwn.looking).run [] s σ H D (I.toTry _) h) (fun fl s2 q => ?_) fun _ _ z => z
  · obtain ⟨a, G, sI, pins2, τ, H2, cls, d, rfl, J2, nb, up, sky, na, os, ag, b, hb1, yes, no⟩ := air
    have J : Inv X pins τ H2 sI := J2.ofTry ok
    rw [hs] at sky
    refine Sky.land Zc.steady hfr hf sky fun h3 l3 up3 => ?_
    have J3 : Inv X pins τ H2 { s2 with heap := h3 } := J.landed nb l3.1 (up.trans up3) os ag
    obtain ⟨o3, v3, e3, z3, d3⟩ := l3.there
    have out := seen l3.2.2.1 e3 d3
    have nL : a ≠ X.env.locals := fun z => out (List.mem_filterMap.mpr ⟨X.env, List.mem_cons_self, by rw [hf, z]⟩)
    have nF : a ∉ X.fs := fun hm => by
      obtain ⟨e, he, q⟩ := List.mem_filterMap.mp hm
      exact out (List.mem_filterMap.mpr ⟨e, List.mem_cons_of_mem _ he, q⟩)
    have young : sI.heap.get? a = none := by
      cases q : sI.heap.get? a with
      | none => rfl
      | some o =>
        have z := nb a o q (by rw [hs]; exact out)
        rw [l3.2.1] at z
        cases z
    have young0 : X.s_0.heap.get? a = none := by
      cases q : X.s_0.heap.get? a with
      | none => rfl
      | some o =>
        obtain ⟨o2, z⟩ := J.base.there a o q (by rw [hex]; simp)
        rw [young] at z
        cases z
    have off : ∀ p ∈ X.pn ++ pins, p.1 ≠ a := fun p hp z => by
      have y := (J.pin p hp).1
      rw [z, young] at y
      cases y
    have S3 := J3.suite e3 d3 na nL nF
    have LT : PySem.W.Looks (model X.prog X.w) h3 (typeOf (.ref a)) cls := fun _ _ _ s k q => wpAny_typeOf_ref (k _ _ e3) (by rw [z3.1]; exact q)
    have LM := PySem.W.exm_one (M := model X.prog X.w) J3.kIn LT hb1
    have ask : ∀ {Q2 : Value → Shared → Prop} {E2 : Value → Shared → Prop}, Q2 c { s2 with heap := h3 } → wpAny (model X.prog X.w) (X.A.mark (some (.ref a))) (eval (.Name x np) X.env) Q2 E2 { s2 with heap := h3 } := fun {Q2 E2} q => by
      obtain ⟨hg, hdb, hm | ⟨hm, hv, hnn⟩⟩ := hc
      · exact ld_glob (X := X.suite a ((a, o3) :: (X.pn ++ pins))) S3 hg hm q hdb
      · exact ld_blt (X := X.suite a ((a, o3) :: (X.pn ++ pins))) S3 hg hm hv q hnn hdb
    refine wpAny_handleBy_cons (codeAny_handlers_test (ask (LM.here ?_))) (by intro q; cases q)
    cases b with
    | true =>
      refine codeAny_handlers_suite_as (HandSPX.lands_againZ l3 fun h4 l4 up4 => ?_)
      have J4 : Inv X pins τ H2 { s2 with heap := h4 } := J.landed nb l4.1 ((up.trans up3).trans up4) os ag
      obtain ⟨o4, v4, e4, z4, d4⟩ := l4.there
      have S4 : Inv (X.suite a (X.pn ++ pins)) [] τ (upd H2 a (Xo a cls d)) { s2 with heap := h4 } := suite_in (track J4 e4 na nL off young0 z4 d4)
      refine store_ok (X := X.suite a (X.pn ++ pins)) (v := .ref a) S4 hN hi hlc rfl (fun s5 S5 => ?_) (.inr hln)
      refine wpAny_mono ((hsu a cls d (X.pn ++ pins)).run [] s5 _ _ _ S5 (yes rfl a na)) (fun fl s6 hsp => ?_) fun _ _ z => z.elim
      have fin : ∀ {σ6 : L2.St} {H6 : Hp} {Q2 : Shared → Prop}, Inv (X.suite a (X.pn ++ pins)) [] σ6 H6 s6 → (∀ s7, Inv X pins (σ6.set i none) H6 s7 → Q2 s7) →
          wpAny (model X.prog X.w) X.A (do bindName X.env n .none; unbindBehindTheSuite X.env n pos2) (fun _ s7 => Q2 s7) X.xe s6 := fun {σ6 H6 Q2} S6 hq =>
        gone_ok (X := X.suite a (X.pn ++ pins)) S6 hN hi hln fun s7 S7 => hq s7 (suite_out S7 ok)
      cases fl with
      | next =>
        obtain ⟨σ6, H6, S6, q6⟩ := hsp
        exact fin S6 fun s7 J7 => ⟨_, _, J7, q6⟩
      | brk =>
        obtain ⟨σ6, H6, S6, q6⟩ := hsp
        exact fin S6 fun s7 J7 => ⟨_, _, J7, q6⟩
      | cont =>
        obtain ⟨σ6, H6, S6, q6⟩ := hsp
        exact fin S6 fun s7 J7 => ⟨_, _, J7, q6⟩
      | ret u =>
        obtain ⟨v6, σ6, H6, S6, r6, q6⟩ := hsp
        exact fin S6 fun s7 J7 => ⟨_, _, _, J7, r6, q6⟩
    | false =>
      refine wpAny_handleBy_nil ?_
      obtain ⟨_, _, _, oe, vs, T, _, _, he, _, hd, h1, _⟩ := id l3
      unfold PySem.passOn
      refine wpAny_bind (wpAny_field he hd h1 ?_)
      rw [if_neg (show ¬ ((Value.ref T == Value.none) = true) from by simp)]
      have go : wpAny (model X.prog X.w) X.A (setFlight (.ref a) X.env.frame) (fun _ s4 => wpAny (model X.prog X.w) X.A (throw (.ref a) : Sem Flow) (SP X pins D) X.xe s4) X.xe { s2 with heap := h3 } := by
        rw [hf]
        exact HandSPX.setFlight_upZ l3 fun h4 g4 up4 => wpAny_throw (tk _ _ ⟨a, G, sI, pins, τ, H2, cls, d, rfl, J, nb, (up.trans up3).trans up4, .inr (.inr (by rw [hs]; exact g4)), na, os, ag, no rfl⟩)
      first
        | exact wpAny_bind (wpAny_pure (wpAny_bind go))
        | exact wpAny_bind go
  · cases fl with
    | next =>
      obtain ⟨τ, H2, J, q⟩ := q
      exact wpAny_execs_nil ⟨τ, H2, J.ofTry ok, q⟩
    | brk =>
      obtain ⟨τ, H2, J, q⟩ := q
      exact ⟨τ, H2, J.ofTry ok, q⟩
    | cont =>
      obtain ⟨τ, H2, J, q⟩ := q
      exact ⟨τ, H2, J.ofTry ok, q⟩
    | ret u =>
      obtain ⟨v, τ, H2, J, r, q⟩ := q
      exact ⟨v, τ, H2, J.ofTry ok, r, q⟩
end

/-! ## a kept exception looked at -/
/-- at a: a kept exception of the own class C with the attributes fs -/
def Kept (H : Hp) (a C : Addr) (fs : List (Str × V)) : Prop := ∃ d, (H a = some (Xo a (.ref C) (some d)) ∧ H d = some (.xd fs)) ∨ (H a = some (exo a C (some d)) ∧ H d = some (exd d fs))
theorem kept_at {X : Cx} {pins : List (Addr × Obj)} {σ : L2.St} {H : Hp} {s : Shared} {a C : Addr} {fs : List (Str × V)} (I : Inv X pins σ H s) (k : Kept H a C fs) :
    ∃ (oe od : Obj) (d : Addr) (mA : Str → Option Value), PySem.W.InstAt s.heap a oe C (some od) ∧ s.heap.get? d = some od ∧ s.heap.Ns1 d mA ∧ ∀ f, RelO (fs.lookup f) (mA f) := by
  obtain ⟨d, ⟨h1, h2⟩ | ⟨h1, h2⟩⟩ := k
  · obtain ⟨oe, vs, e, z, f⟩ := xo_at I.hok h1
    have hx : ObjOk X.prog X.w H s.heap d (.xd fs) := I.hok d _ h2
    obtain ⟨mA, hns, hr⟩ := hx
    obtain ⟨od, ho, _⟩ := lookIn_ns hns
    exact ⟨oe, od, d, mA, ⟨e, z.1, by unfold PySem.W.notCls; rw [f] <;> rfl, by rw [z.2]; exact ho⟩, ho, hns, hr⟩
  · obtain ⟨t1, e⟩ := exo_at I.hok h1
    obtain ⟨mA, hns, hr⟩ := exd_at I.hok h2
    obtain ⟨od, ho, _⟩ := lookIn_ns hns
    exact ⟨_, od, d, mA, ⟨e, rfl, rfl, ho⟩, ho, hns, hr⟩
def rIsX (K : PySem.W.Frag) : List V → Hp → VK → Prop := fun xs H Q => ∃ (a C : Addr) (fs : List (Str × V)) (c : V) (cv : Value) (b : Bool), xs = [.ref a, c] ∧ Kept H a C fs ∧ ExcC K C ∧ ClsV c cv ∧ PySem.W.kitOne K (.ref C) cv = some b ∧ Q (.bl b) H
theorem call_isX {X : Cx} {K : PySem.W.Frag} (h : X.K = K := by rfl) : CallR X (.builtin "isinstance") (rIsX K) := by
  subst h
  intro pins s σ H xs us Q I r h
  obtain ⟨a, C, fs, c, cv, b, rfl, k, EC, hc, e, q⟩ := h
  obtain ⟨oe, od, d, mA, J, _⟩ := kept_at I k
  cases r with
  | @cons _ u0 _ ur rx rr =>
    cases rr with
    | @cons _ u1 _ _ rt rr =>
      cases rr
      cases rx
      have ec : u1 = cv := by
        cases hc <;> exact rt
      subst ec
      obtain ⟨cd, hcd, _⟩ := PySem.W.any_some EC.hd
      exact PySem.W.kia_one (PySem.W.kitx_exc (by rw [hcd]; rfl) EC.hg EC.hk EC.hs EC.ha EC.hn EC.ht EC.hm) I.kIn J e (fun z => nomatch z) fun tk => ⟨.bl b, H, I.kept (t' := tk) fun _ _ z => z, rfl, q⟩
def tXv (K : PySem.W.Frag) (te : TE) (f : Str) : TE := fun σ H Q => te σ H fun x H1 => ∃ (a C : Addr) (fs : List (Str × V)) (v : V), x = .ref a ∧ Kept H1 a C fs ∧ XfC K C ∧ PySem.W.findIn K (.ref C) f = some none ∧ fs.lookup f = some v ∧ Q v H1
theorem pe_xv {X : Cx} {K : PySem.W.Frag} {e : Expr} {te : TE} {f : Str} {pos : Pos} (he : PE X e te) (hb : attributeBase e f X.env (eval e X.env) = eval e X.env := by rfl) (h : X.K = K := by rfl) : PE X (.Attribute e f pos) (tXv K te f) := by
  subst h
  refine ⟨fun pins s σ H Q I h => attr_of hb (thn (he.run pins s σ H _ I h) fun u s1 hh => ?_)⟩
  obtain ⟨x, H1, I1, rx, a, C, fs, v, rfl, k, T, hno, l, q⟩ := hh
  obtain rfl : u = Value.ref a := rx
  obtain ⟨oe, od, d, mA, J, ho, hns, hr⟩ := kept_at I1 k
  obtain ⟨od2, ho2, hl⟩ := lookIn_ns hns
  rw [ho] at ho2
  cases ho2
  obtain ⟨u, hu, ru⟩ := RelO.some_of (v := v) (o := mA f) (by rw [← l]; exact hr f)
  exact HandSPX.exc_get I1.kIn J T.ga T.gg T.exC (PySem.W.findObj_own T.hdC hno rfl (by rw [hl, hu])) (handed_of ru) ⟨v, H1, I1.tok _, ru, q⟩
end Sq


set_option Elab.async false
set_option maxRecDepth 100000
set_option maxHeartbeats 4000000
namespace Sq
open PySem PySem.Spec PyProof.Rows L2
/-! ## raise C(e), C an own class with the __init__ of MExc -/
structure Rai (P : Program) (w : World) (K : PySem.W.Frag) (mg : Str → Option Value) (base : Heap) (k : Nat) (x : Str) (C : Addr) : Prop where
  ex : ∃ (f : Addr) (fd : FuncData), OexC K C ∧ PySem.W.findIn K (.ref C) "__init__" = some (some (.ref f)) ∧ PySem.W.typeIn K (.ref f) = some (.type "function") ∧ FnOk P w K mg base CX0 k f fd ["self", "value"] (spXI C) ∧ mg x = some (.ref C) ∧ L2.Binds K fd ["self", "value"] []
def tRx (W : WX) (C : Addr) (te : TE) : TS := fun _ σ H => te σ H fun v H1 => ∀ d, H1 d = none → W (.ref C) (some d) σ (upd H1 d (.xd [("value", v)]))
theorem heap_rx {H : Hp} {a d : Addr} {u z o : HO} (na : H a = none) (n : d ≠ a) : upd (del (upd (upd (upd H a u) d z) a o) a) d (.xd [("value", v)]) = upd H d (.xd [("value", v)]) := by
  funext b
  by_cases h1 : b = d
  · rw [h1, upd_same, upd_same]
  · rw [upd_ne h1, upd_ne h1]
    by_cases h2 : b = a
    · rw [h2, del_same, na]
    · rw [del_ne h2, upd_ne h2, upd_ne h1, upd_ne h2]
/-- a reading that may be weakened -/
def tWk (te : TE) : TE := fun σ H Q => ∃ R : VK, te σ H R ∧ ∀ v G, R v G → Q v G
theorem pe_wk {X : Cx} {e : Expr} {te : TE} (h : PE X e te) : PE X e (tWk te) := ⟨fun pins s σ H Q I ⟨R, q, k⟩ => wpAny_mono (h.run pins s σ H R I q) (fun u s1 ⟨x, G, J, r, z⟩ => ⟨x, G, J, r, k _ _ z⟩) fun _ _ z => z⟩
section
variable {X : Cx} {W : WX} {k j : Nat} {C : Addr} {x : Str} {p pos pos2 : Pos} {e : Expr} {te : TE}
theorem ps_rx (c : Rai X.prog X.w X.K X.mg X.base k x C) (hr : Room j X.A) (hk : k + 1 ≤ j) (hg : Gl X x) (tk : Takes X W) (ha : PE X e te) (hc : X.calm = true := by rfl)
    (hdb : (x == ("__debug__" : Str)) = false := by decide) (he : starEach [e] X.env = (false, eval e X.env) :: starEach [] X.env := by rfl) (hpl : (backTo pos (starEach [] X.env)).any (·.1) = false := by rfl) : PS X (.Raise (some (.Call (.Name x p) [e] [] pos)) none pos2) (tRx W C te) := by
  obtain ⟨f, fd, T, iC, tI, F, hm, b⟩ := c.ex
  have mk := pmk_oex (pos := pos) (p := p) T iC tI F (hr.mono hk) b .nil pass0 hg hm (pa_cons (pe_wk ha) pa_nil he) hdb he hpl
  have r := ps_raise (pos := pos2) hc tk mk
  refine ⟨fun pins s σ H D I h => r.run pins s σ H D I ⟨_, h, fun v G q => ⟨Nat.le_of_ble_eq_true rfl, fun a na => ⟨a, v, rfl, upd_same, fun dx nd ne => ?_⟩⟩⟩⟩
  have nd' : G dx = none := by
    rw [upd_ne ne] at nd
    exact nd
  refine ⟨rfl, dx, _, upd_same, by rw [upd_ne ne, upd_same], nd', ?_⟩
  rw [heap_rx na ne]
  exact q dx nd'
end

/-! ## defs that may raise -/
structure CalX (P : Program) (w : World) (K : PySem.W.Frag) (mg : Str → Option Value) (base : Heap) (k : Nat) (x : Str) (sp : Sp) : Prop where
  ex : ∃ (f : Addr) (fd : FuncData) (ps : List Str), FnOk P w K mg base (L2.CX P w) k f fd ps sp ∧ mg x = some (.ref f) ∧ PySem.W.keepIn K (.ref f) = true ∧ L2.Binds K fd ps []
section
variable {P : Program} {w : World} {K : PySem.W.Frag} {mg : Str → Option Value} {base : Heap}
theorem DefAt.calX {x : Str} {st : Stmt} {ps N : List Str} {k : Nat} {sp : Sp} (D : DefAt K mg x st ps) (S : FnScope N ps (defScope st)) (len : ∀ vs H Q E, sp vs H Q E → vs.length = ps.length)
    (hb : ∀ (f : Addr) (cdv : Value) (A : Around) (outer : List Env) (s : Shared) (H : Hp) (vs : List V) (Q : VK) (E : XK), Room k (A.deeper (envOfC x (defScope st) s.heap.objs.size f cdv)) → sp vs H Q E →
      (Takes (cxOf (L2.CX P w) P w K mg base N x (defScope st) f cdv A outer s H E) fun cls d _ G => E cls d G) →
      ∃ t, PSs (cxOf (L2.CX P w) P w K mg base N x (defScope st) f cdv A outer s H E) (defBody st) t ∧ t { nx := fun _ H' => Q .non H', rt := Q } (start N vs) H) : CalX P w K mg base (k + 1) x sp := by
  obtain ⟨f, fd, F, hm, b⟩ := D.ex
  exact ⟨f, fd, ps, F.okX S len fun cdv A outer s H vs Q E hr hsp => hb f cdv A outer s H vs Q E hr hsp (takes_of rfl rfl rfl rfl), hm, F.kp, b⟩
/-- where it raises nothing it is a plain def -/
theorem fn_calm {k : Nat} {f : Addr} {fd : FuncData} {ps : List Str} {sp sp' : Sp} (F : FnOk P w K mg base (L2.CX P w) k f fd ps sp) (h : ∀ vs H Q E, sp' vs H Q E → sp vs H Q E0) : FnOk P w K mg base CX0 k f fd ps sp' := by
  refine ⟨fun vs H Q E q => F.len _ _ _ _ (h _ _ _ _ q), fun A outer s H args us vs Q E hr e0 b r q => codeAny_mono (F.run A outer s H args us vs Q E0 hr e0 b r (h _ _ _ _ q)) fun res s' z => ?_⟩
  cases res with
  | ok fl => cases fl <;> exact z
  | error e =>
    obtain ⟨_, _, _, _, _, _, _, _, _, _, _, _, no⟩ := z
    exact no.elim
theorem CalX.calm {x : Str} {k : Nat} {sp sp' : Sp} (c : CalX P w K mg base k x sp) (h : ∀ vs H Q E, sp' vs H Q E → sp vs H Q E0) : Cal P w K mg base k x sp' [] := by
  obtain ⟨f, fd, ps, F, hm, kp, b⟩ := c.ex
  exact ⟨f, fd, ps, [], fn_calm F h, hm, kp, b, .nil⟩
theorem CalX.imp {x : Str} {k j : Nat} {sp sp' : Sp} (c : CalX P w K mg base k x sp) (hk : k ≤ j) (h : ∀ vs H Q E, sp' vs H Q E → sp vs H Q E) : CalX P w K mg base j x sp' := by
  obtain ⟨f, fd, ps, F, hm, kp, b⟩ := c.ex
  exact ⟨f, fd, ps, (F.mono hk).imp h, hm, kp, b⟩
end
section
variable {X : Cx} {W : WX} {k j : Nat} {x : Str} {sp : Sp} {p pos : Pos} {e : Expr} {es : List Expr} {t : TA}
/-- a call that may raise, where W is wished of what is raised -/
theorem pe_cx (c : CalX X.prog X.w X.K X.mg X.base k x sp) (hr : Room j X.A) (hk : k ≤ j) (tk : Takes X W) (hg : Gl X x) (ha : PA X (e :: es) t)
    (hdb : (x == ("__debug__" : Str)) = false := by decide) (he : starEach (e :: es) X.env = (false, eval e X.env) :: starEach es X.env := by rfl) (hpl : (backTo pos (starEach es X.env)).any (·.1) = false := by rfl) :
    PE X (.Call (.Name x p) (e :: es) [] pos) (tCallS sp (WE W) t) := by
  obtain ⟨f, fd, ps, F, hm, kp, b⟩ := c.ex
  exact pe_callS F (hr.mono hk) hg hm kp b (passAt tk) ha hdb he hpl
/-- a call of such a def that raises nothing -/
theorem pe_cx0 (c : CalX X.prog X.w X.K X.mg X.base k x sp) (hr : Room j X.A) (hk : k ≤ j) (hg : Gl X x) (ha : PA X (e :: es) t)
    (hdb : (x == ("__debug__" : Str)) = false := by decide) (he : starEach (e :: es) X.env = (false, eval e X.env) :: starEach es X.env := by rfl) (hpl : (backTo pos (starEach es X.env)).any (·.1) = false := by rfl) :
    PE X (.Call (.Name x p) (e :: es) [] pos) (tCall sp [] E0 t) := by
  obtain ⟨f, fd, ps, F, hm, kp, b⟩ := c.ex
  exact L2.pe_call F (hr.mono hk) hg hm kp b .nil passL ha hdb he hpl
end

/-! ## methods and new objects that may raise -/
structure MetX (P : Program) (w : World) (K : PySem.W.Frag) (mg : Str → Option Value) (base : Heap) (k : Nat) (C : Addr) (m : Str) (sp : Sp) : Prop where
  ex : ∃ (f : Addr) (fd : FuncData) (ps : List Str), Cls K C ∧ Meth K C m f ∧ FnOk P w K mg base (L2.CX P w) k f fd ps sp ∧ L2.Binds K fd ps []
structure MakX (P : Program) (w : World) (K : PySem.W.Frag) (mg : Str → Option Value) (base : Heap) (k : Nat) (x : Str) (C : Addr) (sp : Sp) : Prop where
  ex : ∃ (f : Addr) (fd : FuncData) (ps : List Str), Mk K C f ∧ FnOk P w K mg base (L2.CX P w) k f fd ps sp ∧ mg x = some (.ref C) ∧ L2.Binds K fd ps []
section
variable {P : Program} {w : World} {K : PySem.W.Frag} {mg : Str → Option Value} {base : Heap} {C : Addr} {m x qual : Str} {st : Stmt} {ps N : List Str} {k : Nat} {sp : Sp}
theorem MetAt.metX (D : MetAt K C m qual st ps) (cl : Cls K C) (S : FnScope N ps (defScope st)) (len : ∀ vs H Q E, sp vs H Q E → vs.length = ps.length)
    (hb : ∀ (f : Addr) (cdv : Value) (A : Around) (outer : List Env) (s : Shared) (H : Hp) (vs : List V) (Q : VK) (E : XK), Room k (A.deeper (envOfC qual (defScope st) s.heap.objs.size f cdv)) → sp vs H Q E →
      (Takes (cxOf (L2.CX P w) P w K mg base N qual (defScope st) f cdv A outer s H E) fun cls d _ G => E cls d G) →
      ∃ t, PSs (cxOf (L2.CX P w) P w K mg base N qual (defScope st) f cdv A outer s H E) (defBody st) t ∧ t { nx := fun _ H' => Q .non H', rt := Q } (start N vs) H) : MetX P w K mg base (k + 1) C m sp := by
  obtain ⟨f, fd, F, hm, b⟩ := D.ex
  exact ⟨f, fd, ps, cl, hm, F.okX S len fun cdv A outer s H vs Q E hr hsp => hb f cdv A outer s H vs Q E hr hsp (takes_of rfl rfl rfl rfl), b⟩
theorem IniAt.makX (D : IniAt K mg C x qual st ps) (S : FnScope N ps (defScope st)) (len : ∀ vs H Q E, sp vs H Q E → vs.length = ps.length)
    (hb : ∀ (f : Addr) (cdv : Value) (A : Around) (outer : List Env) (s : Shared) (H : Hp) (vs : List V) (Q : VK) (E : XK), Room k (A.deeper (envOfC qual (defScope st) s.heap.objs.size f cdv)) → sp vs H Q E →
      (Takes (cxOf (L2.CX P w) P w K mg base N qual (defScope st) f cdv A outer s H E) fun cls d _ G => E cls d G) →
      ∃ t, PSs (cxOf (L2.CX P w) P w K mg base N qual (defScope st) f cdv A outer s H E) (defBody st) t ∧ t { nx := fun _ H' => Q .non H', rt := Q } (start N vs) H) : MakX P w K mg base (k + 1) x C sp := by
  obtain ⟨f, fd, F, hm, hg, b⟩ := D.ex
  exact ⟨f, fd, ps, hm, F.okX S len fun cdv A outer s H vs Q E hr hsp => hb f cdv A outer s H vs Q E hr hsp (takes_of rfl rfl rfl rfl), hg, b⟩
end
theorem MetX.calm {P : Program} {w : World} {K : PySem.W.Frag} {mg : Str → Option Value} {base : Heap} {C : Addr} {m : Str} {k : Nat} {sp sp' : Sp} (c : MetX P w K mg base k C m sp) (h : ∀ vs H Q E, sp' vs H Q E → sp vs H Q E0) : Met P w K mg base k C m sp' := by
  obtain ⟨f, fd, ps, c1, c2, F, b⟩ := c.ex
  exact ⟨f, fd, ps, c1, c2, fn_calm F h, b⟩
theorem MakX.calm {P : Program} {w : World} {K : PySem.W.Frag} {mg : Str → Option Value} {base : Heap} {C : Addr} {x : Str} {k : Nat} {sp sp' : Sp} (c : MakX P w K mg base k x C sp) (h : ∀ vs H Q E, sp' vs H Q E → sp vs H Q E0) : Mak P w K mg base k x C sp' := by
  obtain ⟨f, fd, ps, M, F, hm, b⟩ := c.ex
  exact ⟨f, fd, ps, M, fn_calm F h, hm, b⟩
def tMethS (C : Addr) (m : Str) (sp : Sp) (E : L2.St → XK) (ta : TE) (t : TA) : TE := fun σ H Q => ta σ H fun x H1 => ∃ a dx fs, x = .ref a ∧ H1 a = some (.ins C dx fs) ∧ fs.lookup m = none ∧ t σ H1 fun vs H2 => sp (x :: vs) H2 Q (E σ)
def tMakeS (C : Addr) (sp : Sp) (E : L2.St → XK) (t : TA) : TE := fun σ H Q => t σ H fun vs H1 => ∀ x dx, H1 x = none → H1 dx = none → dx ≠ x →
  sp (.ref x :: vs) (upd (upd H1 dx (.own x)) x (.ins C dx [])) (fun v H2 => v = .non ∧ Q (.ref x) H2) (E σ)
section
variable {X : Cx} {W : WX} {k j : Nat} {C : Addr} {x m : Str} {sp : Sp} {p pos apos : Pos} {e o : Expr} {es : List Expr} {ta : TE} {t : TA}
theorem pe_mx {pl : Sem Bool} (c : MetX X.prog X.w X.K X.mg X.base k C m sp) (hr : Room j X.A) (hk : k ≤ j) (tk : Takes X W) (he : PE X o ta) (ha : PA X (e :: es) t)
    (ht : eval (.Call (.Attribute o m apos) (e :: es) [] pos) X.env = (do
      let ov ← eval o X.env
      standAt apos.atName
      let (f, first) ← holding [ov] (getMethod ov m pl)
      callWith pos f first (backTo pos (starEach (e :: es) X.env)) (backToKw pos (keywordEach [] X.env))) := by rfl)
    (hst : starEach (e :: es) X.env = (false, eval e X.env) :: starEach es X.env := by rfl) (hpl : (backTo pos (starEach es X.env)).any (·.1) = false := by rfl) : PE X (.Call (.Attribute o m apos) (e :: es) [] pos) (tMethS C m sp (WE W) ta t) := by
  obtain ⟨f, fd, ps, cl, hm, F, b⟩ := c.ex
  refine ⟨fun pins s σ H Q I h => PySem.W.methodCall_KW (pl := pl) (thn (he.run pins s σ H _ I h) fun u s1 hh => ?_) ht⟩
  obtain ⟨x, H1, I1, rx, a, dx, fs, rfl, ea, l, q⟩ := hh
  obtain rfl : u = Value.ref a := rx
  refine getmeth_ok I1 ea cl hm l (PySem.W.callWith_K (first := [.ref a]) (h₀ := X.base) I.ok.mod.kin hm.kp (thn (ha.run pos pins s1 σ H1 _ I1 q) fun us s2 hh => ?_) hst hpl)
  obtain ⟨vs, H2, I2, r, q2⟩ := hh
  exact ⟨I2.kIn, run_fnS (us := .ref a :: us) (vs := .ref a :: vs) F (hr.mono hk) b (passAt tk σ) I2 (.cons rfl r) q2⟩
theorem pe_mkx (c : MakX X.prog X.w X.K X.mg X.base k x C sp) (hr : Room j X.A) (hk : k + 1 ≤ j) (tk : Takes X W) (hg : Gl X x) (ha : PA X (e :: es) t)
    (hdb : (x == ("__debug__" : Str)) = false := by decide) (he : starEach (e :: es) X.env = (false, eval e X.env) :: starEach es X.env := by rfl) (hpl : (backTo pos (starEach es X.env)).any (·.1) = false := by rfl) :
    PE X (.Call (.Name x p) (e :: es) [] pos) (tMakeS C sp (WE W) t) := by
  obtain ⟨f, fd, ps, M, F, hm, b⟩ := c.ex
  refine ⟨fun pins s σ H Q I h => wpAny_Call_Name_kw (ld_glob I hg hm ?_ hdb)⟩
  refine PySem.W.callWith_K (h₀ := X.base) I.ok.mod.kin M.kp (thn (ha.run pos pins s σ H _ I h) fun us s1 hh => ?_) he hpl
  obtain ⟨vs, H1, I1, r, q⟩ := hh
  refine ⟨I1.kIn, ?_⟩
  have hq := q (s1.heap.objs.size + 1) s1.heap.objs.size (I1.hok.fresh (Nat.le_succ _)) (I1.hok.fresh (Nat.le_refl _)) (Nat.ne_of_lt (Nat.lt_succ_self _))
  have I2 := Inv.made (C := C) I1
  have r2 : Vals (V.ref (s1.heap.objs.size + 1) :: vs) (Value.ref (s1.heap.objs.size + 1) :: us) := .cons rfl r
  have ln : (Value.ref (s1.heap.objs.size + 1) :: us).length = ps.length := by
    rw [← r2.length]
    exact F.len _ _ _ _ hq
  have bb := b _ (Value.ref (s1.heap.objs.size + 1) :: us) I2.kIn (by rw [List.append_nil]; exact ln)
  rw [List.append_nil] at bb
  show wpAny _ _ (call (.ref C) us) _ _ _
  refine wpAny_call (make_map (f := f) I1.kIn M.makes M.init (beq_iff_eq.mp M.fn) (codeAny_mono (F.run _ X.stack _ _ ⟨Value.ref (s1.heap.objs.size + 1) :: us, []⟩ _ _ _ (WE W σ) ((hr.mono hk).make C us []) (I2.env0.make C us []) bb r2 hq) fun r s' hq2 => ?_))
  cases r with
  | error er => exact passAt tk σ pins _ _ er s' I2 hq2
  | ok fl =>
    cases fl with
    | ret u =>
      obtain ⟨v, H', I3, rv, ev, q3⟩ := I2.after hq2
      subst ev
      exact ⟨rv, ⟨V.ref (s1.heap.objs.size + 1), H', I3, rfl, q3⟩⟩
    | next => exact False.elim hq2
    | brk => exact False.elim hq2
    | cont => exact False.elim hq2
theorem pe_mx0 {pl : Sem Bool} (c : MetX X.prog X.w X.K X.mg X.base k C m sp) (hr : Room j X.A) (hk : k ≤ j) (he : PE X o ta) (ha : PA X (e :: es) t)
    (ht : eval (.Call (.Attribute o m apos) (e :: es) [] pos) X.env = (do
      let ov ← eval o X.env
      standAt apos.atName
      let (f, first) ← holding [ov] (getMethod ov m pl)
      callWith pos f first (backTo pos (starEach (e :: es) X.env)) (backToKw pos (keywordEach [] X.env))) := by rfl)
    (hst : starEach (e :: es) X.env = (false, eval e X.env) :: starEach es X.env := by rfl) (hpl : (backTo pos (starEach es X.env)).any (·.1) = false := by rfl) : PE X (.Call (.Attribute o m apos) (e :: es) [] pos) (tMeth C m sp [] E0 ta t) := by
  obtain ⟨f, fd, ps, c1, c2, F, b⟩ := c.ex
  exact L2.pe_meth (pl := pl) he c1 c2 F (hr.mono hk) b .nil passL ha hst hpl ht
theorem pe_mkx0 (c : MakX X.prog X.w X.K X.mg X.base k x C sp) (hr : Room j X.A) (hk : k + 1 ≤ j) (hg : Gl X x) (ha : PA X (e :: es) t)
    (hdb : (x == ("__debug__" : Str)) = false := by decide) (he : starEach (e :: es) X.env = (false, eval e X.env) :: starEach es X.env := by rfl) (hpl : (backTo pos (starEach es X.env)).any (·.1) = false := by rfl) :
    PE X (.Call (.Name x p) (e :: es) [] pos) (tMake C sp [] E0 t) := by
  obtain ⟨f, fd, ps, M, F, hm, b⟩ := c.ex
  exact L2.pe_make M F (hr.mono hk) hg hm b .nil passL ha hdb he hpl
end

/-! ## an exception class of the text, out of what the top has written -/
theorem rai_mk {P : Program} {w : World} {K : PySem.W.Frag} {h base : Heap} {mg : Str → Option Value} {x : Str} {C f cc cda N : Addr} {nm q qual m file : Str} {bs bm sub : List Value} {sn : List Str} {ab : Bool} {col : Option Bool} {dd cld cdd od an : Option Addr} {k0 k1 k2 k3 k5 : Option Value}
    {cl ccl oc kV doc pm ct : Value} {csl ccs osl : Array (Option Value)} {cvs : Array Value} {tf : Tok} {p0 p1 p2 p3 p4 p5 p6 p7 p8 p9 q0 q1 : Pos} (X : K.In h) (G : h.Ns mainGlobals mg) (hm : mg x = some (.ref C))
    (lC : K.lookup C = some (excClassObj nm q C N bs bm true sn sub ab col dd k0 k1 k2 k3 k5 "ValueError.__new__")) (rC : PySem.HandSPX.refsVE bm = true) (sa : PySem.W.findIn K (.ref C) "__setattr__" = some (some (.builtin "object.__setattr__")))
    (ex : PySem.W.subIn K (.ref C) (.type "BaseException") = some true) (ty : PySem.W.typeIn K (.ref C) = some (.type "type")) (kc : PySem.W.keepIn K (.ref C) = true)
    (ini : PySem.W.findIn K (.ref C) "__init__" = some (some (.ref f))) (tyf : PySem.W.typeIn K (.ref f) = some (.type "function"))
    (l : K.lookup f = some ⟨oc, od, .func (PySem.W.ksFn "__init__" qual (xiArgs q0 q1) (xiBody m p0 p1 p2 p3 p4 p5 p6 p7 p8 p9) xiScope .none kV doc pm an (.ref cda) ct cc), osl⟩)
    (co : PySem.W.codeIn K (.ref cda) qual = true) (cell : K.lookup cc = some ⟨cl, cld, .cell (some (.ref C)), csl⟩) (rec_ : K.lookup cda = some ⟨ccl, cdd, .fields cvs, ccs⟩) (v2 : cvs[2]? = some (.str file tf)) (fl : ((P.main.file : Str) == file) = true)
    (top : (P.main.scope.names.lookup ("super" : Str)).isSome = false) (opq : PySem.W.nsIn K PySem.cStatics "thirdparty.any" = some none) (sup : PySem.W.ks_superIn K C C "__init__" = some (some (.builtin "ValueError.__init__"))) (veb : PySem.W.subIn K (.ref C) (.type "ValueError") = some true)
    (slf : PySem.W.mroIn K C (.ref C) = some true) (val : PySem.W.findIn K (.ref C) "value" = some none) (ms : PySem.W.nsIn K mainGlobals "super" = some none) (he : XiCall qual f cc cda m p0 p1 p2 p3 p4)
    (hb : ∀ us : List Value, us.length = 2 → bindArgs (PySem.W.ksFn "__init__" qual (xiArgs q0 q1) (xiBody m p0 p1 p2 p3 p4 p5 p6 p7 p8 p9) xiScope .none kV doc pm an (.ref cda) ct cc) ⟨us, []⟩ = pure ((["self", "value"] : List Str).zip us)) : Rai P w K mg base 1 x C :=
  ⟨f, _, ⟨⟨nm, q, N, bs, bm, sn, sub, ab, col, dd, k0, k1, k2, k3, k5, lC, rC⟩, sa, ex, ty, kc⟩, ini, tyf,
    ok_xi ⟨⟨nm, q, N, bs, bm, sn, sub, ab, col, dd, k0, k1, k2, k3, k5, lC, rC⟩, sa, ex, ty, kc⟩ ⟨co, ⟨cl, cld, csl, cell⟩, ⟨ccl, cdd, cvs, ccs, tf, rec_, v2⟩, fl, top, opq, sup, veb, slf, val⟩ l (PySem.W.mg_none_of X G ms) he, hm, L2.Binds.all hb⟩
end Sq


set_option Elab.async false
set_option maxRecDepth 100000
set_option maxHeartbeats 4000000
namespace Sq
open PySem PySem.Spec PyProof.Rows L2
/-! ## methods called by keywords alone -/
structure MetKX (P : Program) (w : World) (K : PySem.W.Frag) (mg : Str → Option Value) (base : Heap) (k : Nat) (C : Addr) (m : Str) (ks : List Str) (sp : Sp) : Prop where
  ex : ∃ (f : Addr) (fd : FuncData) (ps : List Str) (spf : Sp) (g : List Value → List Value → List Value) (gV : List V → List V → List V),
    Cls K C ∧ Meth K C m f ∧ FnOk P w K mg base (L2.CX P w) k f fd ps spf ∧ KBn K fd ps 1 ks g gV ∧ ∀ x zs H Q E, sp (x :: zs) H Q E → zs.length = ks.length ∧ spf (gV [x] zs) H Q E
def tMetK (C : Addr) (m : Str) (sp : Sp) (E : L2.St → XK) (ta : TE) (tk : TA) : TE := fun σ H Q => ta σ H fun x H1 => ∃ a dx fs, x = .ref a ∧ H1 a = some (.ins C dx fs) ∧ fs.lookup m = none ∧ tk σ H1 fun zs H2 => sp (x :: zs) H2 Q (E σ)
section
variable {X : Cx} {W : WX} {k j : Nat} {C : Addr} {m : Str} {ks : List Str} {sp : Sp} {pos apos : Pos} {o : Expr} {kws : List Keyword} {ta : TE} {t : TA}
theorem pe_mkwx {pl : Sem Bool} (c : MetKX X.prog X.w X.K X.mg X.base k C m ks sp) (hr : Room j X.A) (hk : k ≤ j) (tk : Takes X W) (he : PE X o ta) (ha : PK X kws t)
    (ht : eval (.Call (.Attribute o m apos) [] kws pos) X.env = (do
      let ov ← eval o X.env
      standAt apos.atName
      let (f, first) ← holding [ov] (getMethod ov m pl)
      callWith pos f first (backTo pos (starEach [] X.env)) (backToKw pos (keywordEach kws X.env))) := by rfl)
    (hall : (backToKw pos (keywordEach kws X.env)).all (·.1.isSome) = true := by rfl) (hks : (backToKw pos (keywordEach kws X.env)).filterMap (·.1) = ks := by rfl)
    (hpl : ((backTo pos (starEach [] X.env)).any (·.1) || (backToKw pos (keywordEach kws X.env)).any (·.1.isNone)) = false := by rfl) : PE X (.Call (.Attribute o m apos) [] kws pos) (tMetK C m sp (WE W) ta t) := by
  obtain ⟨f, fd, ps, spf, g, gV, cl, hm, F, hb, hs⟩ := c.ex
  refine ⟨fun pins s σ H Q I h => PySem.W.methodCall_KW (pl := pl) (thn (he.run pins s σ H _ I h) fun u s1 hh => ?_) ht⟩
  obtain ⟨x, H1, I1, rx, a, dx, fs, rfl, ea, l, q⟩ := hh
  obtain rfl : u = Value.ref a := rx
  refine getmeth_ok I1 ea cl hm l (PySem.W.callWith_KW0 (first := [.ref a]) (h₀ := X.base) I.ok.mod.kin hm.kp hall (thn (ha.run pos pins s1 σ H1 _ I1 q) fun ws s2 hh => ?_) hpl)
  obtain ⟨zs, H2, I2, rz, q2⟩ := hh
  obtain ⟨lz, q3⟩ := hs _ _ _ _ _ q2
  refine ⟨I2.kIn, ?_⟩
  rw [hks]
  have r1 : Vals [V.ref a] [Value.ref a] := .cons rfl .nil
  refine wpAny_call (codeAny_mono (F.run X.A X.stack s2 H2 ⟨[.ref a], ks.zip ws⟩ (g [.ref a] ws) (gV [.ref a] zs) Q (WE W σ) (hr.mono hk) I2.env0 (hb.to s2 [.ref a] ws I2.kIn rfl (rz.length.symm.trans lz)) (hb.rel r1 rz) q3) fun r s3 hq => ?_)
  cases r with
  | error er => exact passAt tk σ pins H2 s2 er s3 I2 hq
  | ok fl =>
    cases fl with
    | ret u => exact I2.after hq
    | next => exact False.elim hq
    | brk => exact False.elim hq
    | cont => exact False.elim hq
end
/-! ## new objects made by keywords alone -/
structure MakK (P : Program) (w : World) (K : PySem.W.Frag) (mg : Str → Option Value) (base : Heap) (k : Nat) (x : Str) (C : Addr) (ks : List Str) (sp : Sp) : Prop where
  ex : ∃ (f : Addr) (fd : FuncData) (ps : List Str) (spf : Sp) (g : List Value → List Value → List Value) (gV : List V → List V → List V),
    Mk K C f ∧ FnOk P w K mg base CX0 k f fd ps spf ∧ mg x = some (.ref C) ∧ KBn K fd ps 1 ks g gV ∧ ∀ x zs H Q E, sp (x :: zs) H Q E → zs.length = ks.length ∧ spf (gV [x] zs) H Q E
def tMakK (C : Addr) (sp : Sp) (tk : TA) : TE := fun σ H Q => tk σ H fun zs H1 => ∀ x dx, H1 x = none → H1 dx = none → dx ≠ x → sp (.ref x :: zs) (upd (upd H1 dx (.own x)) x (.ins C dx [])) (fun v H3 => v = .non ∧ Q (.ref x) H3) E0
section
variable {X : Cx} {k j : Nat} {C : Addr} {x : Str} {ks : List Str} {sp : Sp} {p pos : Pos} {kws : List Keyword} {t : TA}
theorem pe_mkk (c : MakK X.prog X.w X.K X.mg X.base k x C ks sp) (hr : Room j X.A) (hk : k + 1 ≤ j) (hg : Gl X x) (ha : PK X kws t)
    (hall : (backToKw pos (keywordEach kws X.env)).all (·.1.isSome) = true := by rfl) (hks : (backToKw pos (keywordEach kws X.env)).filterMap (·.1) = ks := by rfl) (hdb : (x == ("__debug__" : Str)) = false := by decide)
    (hpl : ((backTo pos (starEach [] X.env)).any (·.1) || (backToKw pos (keywordEach kws X.env)).any (·.1.isNone)) = false := by rfl) : PE X (.Call (.Name x p) [] kws pos) (tMakK C sp t) := by
  obtain ⟨f, fd, ps, spf, g, gV, M, F, hm, hb, hs⟩ := c.ex
  refine ⟨fun pins s σ H Q I h => wpAny_Call_Name_kw (ld_glob I hg hm (PySem.W.callWith_KW0 (h₀ := X.base) I.ok.mod.kin M.kp hall (thn (ha.run pos pins s σ H _ I h) fun ws s2 hh => ?_) hpl) hdb)⟩
  obtain ⟨zs, H2, I2, rz, q2⟩ := hh
  refine ⟨I2.kIn, ?_⟩
  rw [hks]
  have lz : zs.length = ks.length := (hs _ _ _ _ _ (q2 (s2.heap.objs.size + 1) s2.heap.objs.size (I2.hok.fresh (Nat.le_succ _)) (I2.hok.fresh (Nat.le_refl _)) (Nat.ne_of_lt (Nat.lt_succ_self _)))).1
  exact run_makeK (us := []) (vs := []) M F (hr.mono hk) hb pass0 I2 .nil rz rfl lz fun x dx n1 n2 n3 => (hs _ _ _ _ _ (q2 x dx n1 n2 n3)).2
end
/-! ## list.count of plain values -/
def rCntF (K : PySem.W.Frag) : V → List V → Hp → VK → Prop := fun x xs H Q => ∃ (a : Addr) (ys : List V) (y : V), x = .ref a ∧ xs = [y] ∧ SqL K H a ys ∧ flatV y = true ∧ ys.all flatV = true ∧ Q (.int ((ys.countP fun z => eqV z y : Nat) : Int)) H
theorem count_flat {y : V} : ∀ {ys : List V} {us : List Value}, Vals ys us → ys.all flatV = true → us.countP (eqU y) = ys.countP fun z => eqV z y
  | _, _, .nil, _ => rfl
  | _, _, .cons (a := z) (b := u) r t, f => by
    rw [List.all_cons, Bool.and_eq_true] at f
    rw [List.countP_cons, List.countP_cons, count_flat t f.2, eqU_of r f.1]
theorem mt_countF {X : Cx} : MtR X "list.count" (rCntF X.K) := by
  intro pins s σ H x xs v us Q I rx rxs h
  obtain ⟨a, ys, y, rfl, rfl, hs, fy, fys, q⟩ := h
  cases rx
  obtain ⟨uy, rfl, ry⟩ := rxs.one
  obtain ⟨its, rv, ⟨⟨cls, dd, data, sl⟩, n, ho, hc, hdn, hd⟩, hlen⟩ := I.list hs
  simp only at hc hd
  subst hc hd
  refine call_meets PySem.F.slot_list_count ⟨_, ho, rfl⟩ PySem.F.entry_list_count (PySem.F.args_list_count_2 _ _) (SeqAt.list_countAt a its.toArray n dd sl uy (eqU y)) ⟨ho, fun u2 hu2 => mem_eqAt ry fy rv fys u2 (by simpa using hu2), ?_⟩
  refine ⟨.int ((ys.countP fun z => eqV z y : Nat) : Int), H, I.tok _, ⟨s.toks, ?_⟩, q⟩
  show Value.int ((its.toArray.toList.countP (eqU y) : Nat) : Int) s.toks = _
  rw [List.toList_toArray, count_flat rv fys]
/-! ## a method, an __init__ called by place and by keywords -/
theorem kbn_self {K : PySem.W.Frag} {x qual : Str} {st : Stmt} {f : Addr} {fd : FuncData} {ps ks : List Str} (F : Fun K x qual st f fd) (g : {α : Type} → α → List α → List α) (hg : ∀ {v : V} {u : Value} {vs : List V} {us : List Value}, RelV v u → Vals vs us → Vals (g v vs) (g u us))
    (h : ∀ (kV doc pm : Value) (an : Option Addr) (cdv ct u : Value) (ws : List Value), ws.length = ks.length →
      bindArgs (PySem.W.fnOf x qual (defArgs st) (defBody st) (defScope st) .none kV doc pm an cdv ct) ⟨[u], ks.zip ws⟩ = pure (ps.zip (g u ws))) : KBn K fd ps 1 ks (fun us ws => match us with | [u] => g u ws | _ => ws) (fun us ws => match us with | [u] => g u ws | _ => ws) := by
  obtain ⟨oc, od, kV, doc, pm, an, cdv, ct, osl, rfl, lk, hcd⟩ := F.ex
  refine ⟨fun s us ws X l1 l2 => ?_, fun r1 r2 => ?_⟩
  · match us, l1 with
    | [u], _ => exact .of_eq (h kV doc pm an cdv ct u ws l2)
  · cases r1 with
    | nil => exact r2
    | cons a r => cases r with
      | nil => exact hg a r2
      | cons b r => exact r2
section
variable {P : Program} {w : World} {K : PySem.W.Frag} {mg : Str → Option Value} {base : Heap} {C : Addr} {m x qual : Str} {st : Stmt} {ps ks N : List Str} {k : Nat} {sp spk : Sp}
theorem MetAt.metKX (D : MetAt K C m qual st ps) (cl : Cls K C) (S : FnScope N ps (defScope st)) (len : ∀ vs H Q E, sp vs H Q E → vs.length = ps.length)
    (hb : ∀ (f : Addr) (cdv : Value) (A : Around) (outer : List Env) (s : Shared) (H : Hp) (vs : List V) (Q : VK) (E : XK), Room k (A.deeper (envOfC qual (defScope st) s.heap.objs.size f cdv)) → sp vs H Q E →
      (Takes (cxOf (L2.CX P w) P w K mg base N qual (defScope st) f cdv A outer s H E) fun cls d _ G => E cls d G) →
      ∃ t, PSs (cxOf (L2.CX P w) P w K mg base N qual (defScope st) f cdv A outer s H E) (defBody st) t ∧ t { nx := fun _ H' => Q .non H', rt := Q } (start N vs) H)
    (g : {α : Type} → α → List α → List α) (hg : ∀ {v : V} {u : Value} {vs : List V} {us : List Value}, RelV v u → Vals vs us → Vals (g v vs) (g u us))
    (h : ∀ (kV doc pm : Value) (an : Option Addr) (cdv ct u : Value) (ws : List Value), ws.length = ks.length →
      bindArgs (PySem.W.fnOf m qual (defArgs st) (defBody st) (defScope st) .none kV doc pm an cdv ct) ⟨[u], ks.zip ws⟩ = pure (ps.zip (g u ws)))
    (hs : ∀ x zs H Q E, spk (x :: zs) H Q E → zs.length = ks.length ∧ sp (g x zs) H Q E) : MetX P w K mg base (k + 1) C m sp ∧ MetKX P w K mg base (k + 1) C m ks spk := by
  obtain ⟨f, fd, F, hm, b⟩ := D.ex
  have ok := F.okX S len fun cdv A outer s H vs Q E hr hsp => hb f cdv A outer s H vs Q E hr hsp (takes_of rfl rfl rfl rfl)
  exact ⟨⟨f, fd, ps, cl, hm, ok, b⟩, ⟨f, fd, ps, sp, _, _, cl, hm, ok, kbn_self F g hg h, hs⟩⟩
theorem IniAt.makK (D : IniAt K mg C x qual st ps) (S : FnScope N ps (defScope st)) (len : ∀ vs H Q E, sp vs H Q E → vs.length = ps.length)
    (hb : ∀ (f : Addr) (cdv : Value) (A : Around) (outer : List Env) (s : Shared) (H : Hp) (vs : List V) (Q : VK) (E : XK), Room k (A.deeper (envOfC qual (defScope st) s.heap.objs.size f cdv)) → sp vs H Q E →
      (Takes (cxOf (L2.CX P w) P w K mg base N qual (defScope st) f cdv A outer s H E) fun cls d _ G => E cls d G) →
      ∃ t, PSs (cxOf (L2.CX P w) P w K mg base N qual (defScope st) f cdv A outer s H E) (defBody st) t ∧ t { nx := fun _ H' => Q .non H', rt := Q } (start N vs) H)
    (g : {α : Type} → α → List α → List α) (hg : ∀ {v : V} {u : Value} {vs : List V} {us : List Value}, RelV v u → Vals vs us → Vals (g v vs) (g u us))
    (h : ∀ (kV doc pm : Value) (an : Option Addr) (cdv ct u : Value) (ws : List Value), ws.length = ks.length →
      bindArgs (PySem.W.fnOf "__init__" qual (defArgs st) (defBody st) (defScope st) .none kV doc pm an cdv ct) ⟨[u], ks.zip ws⟩ = pure (ps.zip (g u ws)))
    (hs : ∀ x zs H Q E, spk (x :: zs) H Q E → zs.length = ks.length ∧ sp (g x zs) H Q E0) : MakX P w K mg base (k + 1) x C sp ∧ MakK P w K mg base (k + 1) x C ks spk := by
  obtain ⟨f, fd, F, hm, hg2, b⟩ := D.ex
  have ok := F.okX S len fun cdv A outer s H vs Q E hr hsp => hb f cdv A outer s H vs Q E hr hsp (takes_of rfl rfl rfl rfl)
  have ok0 : FnOk P w K mg base CX0 (k + 1) f fd ps (fun vs H Q _ => sp vs H Q E0) := fn_calm ok fun vs H Q E z => z
  exact ⟨⟨f, fd, ps, hm, ok, hg2, b⟩, ⟨f, fd, ps, _, _, _, hm, ok0, hg2, kbn_self F g hg h, hs⟩⟩
end
/-! ## [.. for i, x in enumerate(xs) ..] -/
theorem lc_enum {K : PySem.W.Frag} {a : Addr} {xs : List V} {g : TG} {tt : TT} {te : TE} {vs : List Nat} {σ : L2.St} {H1 : Hp} {D : Addr} {Qd : Hp → Prop} (Pv : Nat → Hp → Prop) (h0 : Pv 0 (upd H1 D (.lst []))) (hq : ∀ i H, Pv i H → SqL K H a xs)
    (hs : ∀ (i : Nat) (x : V) (T : Addr) (H : Hp), xs[i]? = some x → Pv i H → H T = none → g (.ref T) (wipe σ vs) (upd H T (.tup [.int (i : Nat), x])) fun σ2 H2 => wipe σ2 vs = wipe σ vs ∧ tt σ2 H2 fun b H3 =>
      if b = true then te σ2 H3 fun y H4 => ∃ acc, H4 D = some (.lst acc) ∧ acc.length < sizeLine ∧ Pv (i + 1) (upd H4 D (.lst (acc ++ [y]))) else Pv (i + 1) H3) (hd : ∀ H, Pv xs.length H → Qd H) :
    ∃ W : Nat → Nat → Hp → Prop, (∃ m, W 0 m (upd H1 D (.lst []))) ∧ ∀ i m H, W i m H →
      ((Ite K a).stop i H ∧ Qd H) ∨ ((Ite K a).go i H ∧ ∃ Nx : Hp → Prop, (∀ H', Nx H' → ∃ m', m' < m ∧ W (i + 1) m' H') ∧ ∀ x H', (Ite K a).yld i H x H' → g x (wipe σ vs) H' fun σ2 H2 => wipe σ2 vs = wipe σ vs ∧ tt σ2 H2 fun b H3 =>
        if b = true then te σ2 H3 fun y H4 => ∃ acc, H4 D = some (.lst acc) ∧ acc.length < sizeLine ∧ Nx (upd H4 D (.lst (acc ++ [y]))) else Nx H3) := by
  refine ⟨fun i m H => m + i = xs.length ∧ Pv i H, ⟨xs.length, rfl, h0⟩, fun i m H hW => ?_⟩
  obtain ⟨em, p⟩ := hW
  have q := hq i H p
  by_cases lt : i < xs.length
  · have ex : xs[i]? = some xs[i] := List.getElem?_eq_getElem lt
    refine .inr ⟨⟨xs, _, q, ex⟩, Pv (i + 1), fun H' p' => ⟨m - 1, by omega, by omega, p'⟩, fun v H' hy => ?_⟩
    obtain ⟨T, x, rfl, nT, rfl, f⟩ := hy
    exact hs i x T H (f xs q) p nT
  · have ei : i = xs.length := by omega
    subst ei
    exact .inl ⟨⟨xs, q, Nat.le_refl _⟩, hd H p⟩
/-! ## a kept exception stays -/
theorem Kept.same {H H' : Hp} {a C : Addr} {fs : List (Str × V)} (k : Kept H a C fs) (s : Same H H') : Kept H' a C fs := by
  obtain ⟨d, ⟨h1, h2⟩ | ⟨h1, h2⟩⟩ := k
  · exact ⟨d, .inl ⟨s _ _ h1, s _ _ h2⟩⟩
  · exact ⟨d, .inr ⟨s _ _ h1, s _ _ h2⟩⟩
theorem kept_new {H : Hp} {a C d : Addr} {fs : List (Str × V)} (na : H a = none) (hd : H d = some (.xd fs)) : Kept (upd H a (Xo a (.ref C) (some d))) a C fs := ⟨d, .inl ⟨upd_same, upd_keep na hd⟩⟩
theorem But.same {o : Addr} {H H1 H' : Hp} (b : But o H1 H') (s : Same H H1) (n : H o = none) : Same H H' := fun c u e => b c u (fun z => by
  rw [z, n] at e
  cases e) (s c u e)
theorem exm_mk {K : PySem.W.Frag} {C S : Addr} {b : Bool} (h1 : PySem.W.subIn K (.ref S) (.type "BaseException") = some true) (h2 : PySem.W.isClsIn K S = true) (h3 : PySem.W.typeIn K (.ref S) = some (.type "type")) (h4 : PySem.W.subIn K (.ref C) (.ref S) = some b) : PySem.W.exmOne K (.ref C) (.ref S) = some b := by
  have e1 : (PySem.W.subIn K (.ref S) (.type "BaseException") == some true) = true := by rw [h1] <;> rfl
  have e2 : ((PySem.W.clsIn K S).isSome && PySem.W.typeIn K (.ref S) == some (.type "type")) = true := by
    have h2' : (PySem.W.clsIn K S).isSome = true := h2
    rw [h2', h3] <;> rfl
  show (if (PySem.W.subIn K (.ref S) (.type "BaseException") == some true) = true then (if ((PySem.W.clsIn K S).isSome && PySem.W.typeIn K (.ref S) == some (.type "type")) = true then PySem.W.subIn K (.ref C) (.ref S) else none) else none) = some b
  rw [if_pos e1, if_pos e2]
  exact h4
end Sq


set_option Elab.async false
set_option maxRecDepth 100000
set_option maxHeartbeats 4000000
namespace Sq
open PySem PySem.Spec PyProof.Rows L2
/-! ## a, *b = a list -/
theorem star_list {prog : Program} {w : World} {A : Around} {E : Value → Shared → Prop} {s : Shared} {l : Addr} {items : Array Value} {n i : Nat} {Q : List Value → Shared → Prop} (hl : s.heap.IsList l items) (hh : A.handled = none) (hi : i < n) (hn : n ≤ items.size + 1) (hz : items.size ≤ 16384)
    (h : ∀ (h₂ : Heap) (tk : Nat), (∀ b o, s.heap.get? b = some o → h₂.get? b = some o) → Q (items.toList.take i ++ [.ref h₂.objs.size] ++ (items.toList.drop i).drop (items.size + 1 - n)) { s with heap := h₂.push { cls := .type "list", data := .seq ((items.toList.drop i).take (items.size + 1 - n)).toArray }, toks := tk }) :
    wpAny (model prog w) A (unpackItems (.ref l) n (some i)) Q E s := by
  have hlt : l ≠ s.heap.objs.size := by obtain ⟨o, ho, _⟩ := hl; exact Nat.ne_of_lt (Heap.lt_size ho)
  have hll : l < s.heap.objs.size := by obtain ⟨o, ho, _⟩ := hl; exact Heap.lt_size ho
  unfold unpackItems
  refine wpAny_bind ?_
  unfold notIterableAtAll
  refine wpAny_bind (wpAny_specialOf hl.typeIs PySem.F.slot_list_iter.lookup ?_)
  refine wpAny_pure ?_
  simp only [Bool.false_eq_true, if_false]
  refine wpAny_bind (wpAny_holding (wpAny_pyIter_list hl ?_))
  refine wpAny_bind (wpAny_holding (PySem.W.kun_draw hlt i 0 _ _ ⟨_, Heap.get?_push_size _ rfl, rfl, rfl⟩ (hl.push _) (by omega) fun h₁ hit₁ hs₁ => ?_))
  have hl₁ : h₁.IsList l items := (hl.push _).extBut hs₁.extBut hlt
  rw [Nat.zero_add] at hit₁
  have hit₁' := hit₁
  obtain ⟨oi, hoi, _⟩ := hit₁'
  have hl₁' := hl₁
  obtain ⟨ol, hol, _⟩ := hl₁'
  rw [List.drop_zero]
  have hfl : (items.toList.take i).length = i := by rw [List.length_take, Array.length_toList]; omega
  rw [if_neg (show ¬ ((items.toList.take i).length < i) by rw [hfl]; omega)]
  refine wpAny_bind (wpAny_holding (PySem.W.kun_collect (s := { s with heap := h₁ }) (T := "list_iterator") (.inr (.inr (.inl rfl))) (Walks.list (A := A.in1) hh s.heap.objs.size l hlt items) (fun j u st => st.1.typeIs) (k := i) (by omega) ⟨hit₁, hl₁⟩ (Heap.lt_size hoi) (Heap.lt_size hol) (fun h₂ tk hk => ?_) (by rw [sizeLine_eq]; omega)))
  have hrl : (items.toList.drop i).length = items.size - i := by rw [List.length_drop, Array.length_toList]
  have hmid : (items.toList.drop i).length - (n - 1 - i) = items.size + 1 - n := by rw [hrl]; omega
  show wpAny _ _ (if (items.toList.drop i).length < n - 1 - i then _ else _) _ _ _
  rw [if_neg (by rw [hrl]; omega)]
  show wpAny _ _ (newList ((items.toList.drop i).take ((items.toList.drop i).length - (n - 1 - i))) >>= fun d => pure (items.toList.take i ++ [d] ++ (items.toList.drop i).drop ((items.toList.drop i).length - (n - 1 - i)))) _ _ _
  rw [hmid]
  have he : ∀ b o, s.heap.get? b = some o → h₂.get? b = some o := fun b o e => hk b o (Nat.ne_of_lt (Heap.lt_size e)) (hs₁.extBut b o (Nat.ne_of_lt (Heap.lt_size e)) (Heap.get?_push_of_some _ e))
  exact wpAny_bind (wpAny_newList (wpAny_pure (h h₂ tk he)) (by rw [List.length_take, hrl, sizeLine_eq]; omega))
def gStar (K : PySem.W.Frag) (t : TGs) : TG := fun v σ H Q => ∃ a x xs, v = .ref a ∧ SqL K H a (x :: xs) ∧ xs.length ≤ 16000 ∧ ∀ D, H D = none → t [x, .ref D] σ (upd H D (.lst xs)) Q
section
variable {X : Cx} {K : PySem.W.Frag} {e : Expr} {es : List Expr} {t : TG} {u ts : TGs} {p pos : Pos} {k : Nat}
theorem pgs_star (h1 : PG X e t) (h2 : PGs X es u) (hs : (assignEach (.Starred e p :: es) X.env).map (·.2) = assign e X.env :: (assignEach es X.env).map (·.2) := by rfl) : PGs X (.Starred e p :: es) (gCons t u) := by
  refine ⟨fun pins s σ H vs us Q I r h => ?_⟩
  obtain ⟨v, vr, e1, h⟩ := h
  subst e1
  cases r with
  | cons r rr =>
    rw [hs]
    refine assignInOrder_cons (thn (h1.run pins s σ H _ _ _ I r h) fun _ s1 ⟨σ1, H1, I1, q1⟩ => ?_)
    exact h2.run pins s1 σ1 H1 _ _ Q I1 rr q1
/-- a, *b = a list -/
theorem pg_star (hc : X.calm = true) (h : PGs X es ts) (hn : (assignEach es X.env).length = 2 := by rfl) (hst : (assignEach es X.env).findIdx? (·.1) = some 1 := by rfl) (hK : X.K = K := by rfl) : PG X (.Tuple es k pos) (gStar K ts) := by
  subst hK
  refine ⟨fun pins s σ H v u Q I r hw => ?_⟩
  obtain ⟨a, x, xs, e1, hq, hl, hw⟩ := hw
  subst e1
  cases r
  obtain ⟨its, rv, pl, hz⟩ := I.list hq
  have hl' : s.heap.IsList a its.toArray := by
    obtain ⟨o, m, e, c, d, q⟩ := pl
    exact ⟨o, e, c, m, q⟩
  rw [PyProof.Rows.assign_Tuple]
  refine wpAny_bind (wpAny_standAt ?_)
  unfold unpack
  rw [hn, hst]
  cases rv with
  | @cons _ v0 _ vs0 r0 rr =>
    have hlen : vs0.length = xs.length := rr.length.symm
    refine wpAny_bind (wpAny_holding (star_list hl' (I.ok.hd hc) (by decide) (by rw [List.size_toArray, List.length_cons]; omega) (by rw [List.size_toArray, List.length_cons]; omega) fun h₂ tk kp => ?_))
    have I1 : Inv X pins σ H { s with heap := h₂, toks := tk } := I.kept kp
    have em : (((v0 :: vs0).toArray.toList.drop 1).take ((v0 :: vs0).toArray.size + 1 - 2)) = vs0 := by
      rw [List.toList_toArray, List.size_toArray, List.length_cons, List.drop_one, List.tail_cons]
      exact List.take_of_length_le (by omega)
    have el : (((v0 :: vs0).toArray.toList.drop 1).drop ((v0 :: vs0).toArray.size + 1 - 2)) = [] := by
      rw [List.toList_toArray, List.size_toArray, List.length_cons, List.drop_one, List.tail_cons]
      exact List.drop_eq_nil_of_le (by omega)
    have hf := I1.hok.fresh (Nat.le_refl _)
    have I2 : Inv X pins σ (upd H h₂.objs.size (.lst xs)) { s with heap := h₂.push { cls := .type "list", data := .seq vs0.toArray }, toks := tk } :=
      I1.laid (t' := tk) (fun b u q => Heap.get?_push_of_some _ q) (Nat.le_refl _) ⟨by rw [sizeLine_eq]; omega, vs0, _, rr, Heap.get?_push_size _ rfl⟩
    rw [em, el]
    exact h.run pins _ σ _ [x, .ref h₂.objs.size] [v0, .ref h₂.objs.size] Q I2 (.cons r0 (.cons rfl .nil)) (hw _ hf)
end
def tStarL (K : PySem.W.Frag) (te : TE) (t : TA) : TA := fun σ H Q => te σ H fun x H1 => ∃ (p : Addr) (xs : List V), x = V.ref p ∧ SqL K H1 p xs ∧ t σ H1 fun ys H2 => Q (xs ++ ys) H2
/-- *e in a display, e a list -/
theorem pa_starK {X : Cx} {K : PySem.W.Frag} {e : Expr} {es : List Expr} {te : TE} {t : TA} {p : Pos} (he : PE X e te) (hr : PA X es t) (hs : starEach (.Starred e p :: es) X.env = (true, eval e X.env) :: starEach es X.env := by rfl) (hK : X.K = K := by rfl) : PA X (.Starred e p :: es) (tStarL K te t) := by
  subst hK
  have z := StX.pa_star (pe_wk he) hr hs
  refine ⟨fun pos pins s σ H Q I h => z.run pos pins s σ H Q I ⟨_, h, fun v G q => ?_⟩⟩
  obtain ⟨a, xs, e, hq, q⟩ := q
  exact ⟨a, xs, e, .inr hq, q⟩
theorem pe_gc {X : Cx} {x : Str} {v : V} {pos : Pos} (hg : Gl X x) (h : ∃ u, X.mg x = some u ∧ RelV v u) (hdb : (x == ("__debug__" : Str)) = false := by decide) : PE X (.Name x pos) (tC v) := by
  obtain ⟨u, a, b⟩ := h
  exact pe_glob hg a b hdb
/-! ## texts of lists, sign by sign -/
def dig (c : Nat) : Bool := decide (48 ≤ c) && decide (c ≤ 57)
def wrd (n t : Nat) : List Nat := if 1 < t then TL.numL n ++ 94 :: TL.numL t else TL.numL n
/-- equal neighbours, and how often -/
def grpS (acc : List (Int × Nat)) (k : Int) : List (Int × Nat) := match acc.getLast? with
  | some (a, c) => if a = k then acc.dropLast ++ [(a, c + 1)] else acc ++ [(k, 1)]
  | none => [(k, 1)]
def grp (ns : List Int) : List (Int × Nat) := ns.foldl grpS []
def ungrp (ps : List (Int × Nat)) : List Int := ps.flatMap fun p => List.replicate p.2 p.1
theorem ungrp_app (a b : List (Int × Nat)) : ungrp (a ++ b) = ungrp a ++ ungrp b := List.flatMap_append
theorem last_split {α : Type} {l : List α} {x : α} (h : l.getLast? = some x) : l = l.dropLast ++ [x] := by
  have ne : l ≠ [] := fun e => by
    rw [e] at h
    cases h
  rw [List.getLast?_eq_some_getLast ne] at h
  have e := List.dropLast_concat_getLast ne
  rw [Option.some.inj h] at e
  exact e.symm
theorem ungrp_step (acc : List (Int × Nat)) (k : Int) : ungrp (grpS acc k) = ungrp acc ++ [k] := by
  unfold grpS
  cases h : acc.getLast? with
  | none =>
    have e : acc = [] := by
      cases acc with
      | nil => rfl
      | cons a t => simp at h
    subst e
    simp [ungrp]
  | some p =>
    obtain ⟨a, c⟩ := p
    have e := last_split h
    simp only
    split
    · rename_i z
      subst z
      rw [ungrp_app]
      conv => rhs; rw [e, ungrp_app]
      simp [ungrp, List.replicate_succ']
    · rw [ungrp_app]
      simp [ungrp]
theorem ungrp_fold : ∀ (ns : List Int) (acc : List (Int × Nat)), ungrp (ns.foldl grpS acc) = ungrp acc ++ ns
  | [], acc => by simp
  | k :: r, acc => by
    rw [List.foldl_cons, ungrp_fold r, ungrp_step, List.append_assoc]
    rfl
theorem ungrp_grp (ns : List Int) : ungrp (grp ns) = ns := by
  unfold grp
  rw [ungrp_fold]
  simp [ungrp]
/-- the counts are at least 1; what stands there stands in the list -/
def GrpOk (b : Int → Prop) (N : Nat) (ps : List (Int × Nat)) : Prop := ∀ p ∈ ps, b p.1 ∧ 1 ≤ p.2 ∧ p.2 ≤ N
theorem grp_step {b : Int → Prop} {N : Nat} {acc : List (Int × Nat)} {k : Int} (h : GrpOk b N acc) (hk : b k) : GrpOk b (N + 1) (grpS acc k) := by
  have up : ∀ p ∈ acc, b p.1 ∧ 1 ≤ p.2 ∧ p.2 ≤ N + 1 := fun p hp => ⟨(h p hp).1, (h p hp).2.1, Nat.le_succ_of_le (h p hp).2.2⟩
  unfold grpS
  cases e : acc.getLast? with
  | none =>
    intro p hp
    rw [List.mem_singleton.mp hp]
    exact ⟨hk, Nat.le_refl _, by simp⟩
  | some q =>
    obtain ⟨a, c⟩ := q
    have es := last_split e
    have hq := h (a, c) (by rw [es]; simp)
    simp only
    split
    · intro p hp
      rcases List.mem_append.mp hp with z | z
      · exact up p (List.dropLast_subset _ z)
      · rw [List.mem_singleton.mp z]
        exact ⟨hq.1, by simp, by have := hq.2.2; simp only at this ⊢; omega⟩
    · intro p hp
      rcases List.mem_append.mp hp with z | z
      · exact up p z
      · rw [List.mem_singleton.mp z]
        exact ⟨hk, Nat.le_refl _, by simp⟩
theorem grp_fold {b : Int → Prop} : ∀ (ns : List Int) (N : Nat) (acc : List (Int × Nat)), GrpOk b N acc → (∀ k ∈ ns, b k) → GrpOk b (N + ns.length) (ns.foldl grpS acc)
  | [], N, acc, h, _ => h
  | k :: r, N, acc, h, hk => by
    have := grp_fold r (N + 1) (grpS acc k) (grp_step h (hk k (List.mem_cons_self ..))) fun j hj => hk j (List.mem_cons_of_mem _ hj)
    rw [List.foldl_cons, List.length_cons, show N + (r.length + 1) = N + 1 + r.length by omega]
    exact this
theorem grp_ok {b : Int → Prop} {ns : List Int} (h : ∀ k ∈ ns, b k) : GrpOk b ns.length (grp ns) := by
  have := grp_fold ns 0 [] (fun p z => nomatch z) h
  rw [Nat.zero_add] at this
  exact this
theorem grp_snoc (ns : List Int) (k : Int) : grp (ns ++ [k]) = grpS (grp ns) k := by
  unfold grp
  rw [List.foldl_append]
  rfl
theorem grpS_len (acc : List (Int × Nat)) (k : Int) : (grpS acc k).length ≤ acc.length + 1 ∧ 0 < (grpS acc k).length := by
  unfold grpS
  cases e : acc.getLast? with
  | none => simp
  | some q =>
    obtain ⟨a, c⟩ := q
    have es := congrArg List.length (last_split e)
    simp only [List.length_append, List.length_singleton] at es
    simp only
    split <;> simp <;> omega
theorem grp_len (ns : List Int) : (grp ns).length ≤ ns.length := by
  have : ∀ (ns : List Int) (acc : List (Int × Nat)), (ns.foldl grpS acc).length ≤ acc.length + ns.length := by
    intro ns
    induction ns with
    | nil => intro acc; simp
    | cons k r ih =>
      intro acc
      have a := ih (grpS acc k)
      have b := (grpS_len acc k).1
      rw [List.foldl_cons, List.length_cons]
      omega
  have a := this ns []
  simpa [grp] using a
theorem grp_nil {ns : List Int} : grp ns = [] ↔ ns = [] := by
  constructor
  · intro h
    have e := ungrp_grp ns
    rw [h] at e
    exact e.symm
  · rintro rfl
    rfl
def noneL : List Nat := [110, 111, 110, 101]
def wrds (ns : List Int) : List (List Nat) := (grp ns).map fun p => wrd p.1.toNat p.2
def showL (ns : List Int) : List Nat := if ns = [] then noneL else TL.joinL [44, 32] (wrds ns)
/-! ## and read back -/
def numIn (w : List Nat) : Option Nat := if 1 ≤ w.length ∧ w.length ≤ 200 ∧ w.all dig = true then some (NumText.digitsVal w) else none
def numsIn (w : List Nat) : Option (List Int) := match TL.spl [94] 0 [] w with
  | [] => none
  | f :: o => match numIn f, (match o with | [] => some 1 | t :: _ => numIn t) with
    | some n, some t => if 1 < o.length ∨ n < 2 then none else some (List.replicate t (n : Int))
    | _, _ => none
theorem dig_num (n : Nat) : (TL.numL n).all dig = true := by
  rw [List.all_eq_true]
  intro c hc
  have := TL.numL_digits n c hc
  unfold dig
  rw [Bool.and_eq_true, decide_eq_true_eq, decide_eq_true_eq]
  exact this
theorem numIn_num {n : Nat} (h : (TL.numL n).length ≤ 200) : numIn (TL.numL n) = some n := by
  unfold numIn
  have l : 1 ≤ (TL.numL n).length := by
    cases e : TL.numL n with
    | nil => exact absurd e (TL.numL_ne n)
    | cons a t => simp
  rw [if_pos ⟨l, h, dig_num n⟩, TL.numL_val]
theorem free94 (n : Nat) : 94 ∉ TL.numL n := TL.numL_free (.inr (by decide))
theorem free44 (n t : Nat) : 44 ∉ wrd n t := by
  unfold wrd
  have a : ∀ m, 44 ∉ TL.numL m := fun m => TL.numL_free (.inl (by decide))
  split
  · simp only [List.mem_append, List.mem_cons, not_or]
    exact ⟨a n, by decide, a t⟩
  · exact a n
theorem spl_wrd (n t : Nat) : TL.spl [94] 0 [] (wrd n t) = if 1 < t then [TL.numL n, TL.numL t] else [TL.numL n] := by
  unfold wrd
  split
  · have e := TL.spl_part1 (s := 94) (S := []) (p := TL.numL n) (rest := TL.numL t) (acc := []) (free94 n)
    rw [show TL.numL n ++ 94 :: TL.numL t = TL.numL n ++ ([94] ++ TL.numL t) from rfl, e, TL.spl_last1 (free94 t)]
    rfl
  · rw [TL.spl_last1 (free94 n)]
    rfl
theorem nums_wrd {n t : Nat} (hn : (TL.numL n).length ≤ 200) (ht : (TL.numL t).length ≤ 200) (h2 : 2 ≤ n) (h1 : 1 ≤ t) : numsIn (wrd n t) = some (List.replicate t (n : Int)) := by
  unfold numsIn
  rw [spl_wrd]
  by_cases h : 1 < t
  · rw [if_pos h]
    simp only [numIn_num hn, numIn_num ht]
    rw [if_neg (by simp; omega)]
  · rw [if_neg h]
    simp only [numIn_num hn]
    rw [if_neg (by simp; omega), show t = 1 by omega]
theorem free110 (n t : Nat) : 110 ∉ wrd n t := by
  unfold wrd
  have a : ∀ m, 110 ∉ TL.numL m := fun m => TL.numL_free (.inr (by decide))
  split
  · simp only [List.mem_append, List.mem_cons, not_or]
    exact ⟨a n, by decide, a t⟩
  · exact a n
theorem wrds_ne {ns : List Int} (h : ns ≠ []) : wrds ns ≠ [] := fun e => h (grp_nil.mp (List.map_eq_nil_iff.mp e))
theorem spl_show {ns : List Int} (h : ns ≠ []) : TL.spl [44, 32] 0 [] (showL ns) = wrds ns := by
  unfold showL
  rw [if_neg h]
  refine TL.spl_join (wrds_ne h) fun p hp => ?_
  obtain ⟨q, _, rfl⟩ := List.mem_map.mp hp
  exact free44 _ _
theorem show_ne {ns : List Int} (h : ns ≠ []) : showL ns ≠ noneL := fun e => by
  have a := spl_show h
  rw [e, TL.spl_last1 (show 44 ∉ noneL by decide)] at a
  have m : noneL ∈ wrds ns := by
    rw [← a]
    simp
  obtain ⟨q, _, eq⟩ := List.mem_map.mp m
  have : 110 ∈ noneL := by decide
  rw [← eq] at this
  exact free110 _ _ this
theorem show_inj_nil {ns : List Int} : showL ns = noneL ↔ ns = [] := ⟨fun e => Classical.byContradiction fun h => show_ne h e, fun e => by
  subst e
  rfl⟩
/-- lists that are shown and read here -/
def Nice (ns : List Int) : Prop := (∀ k ∈ ns, 2 ≤ k ∧ k < 10 ^ 200) ∧ ns.length ≤ 5000
theorem num_len {k : Int} (h0 : 0 ≤ k) (h : k < 10 ^ 200) : (TL.numL k.toNat).length ≤ 200 := by
  have e : ((10 : Int) ^ 200) = ((10 ^ 200 : Nat) : Int) := by norm_cast
  refine TL.numL_len (by decide) ?_
  rw [e] at h
  omega
theorem lt5 {n : Nat} (h : n ≤ 5000) : n < sizeLine := by
  rw [sizeLine_eq]
  omega
theorem num_len3 {t : Nat} (h : t ≤ 5000) : (TL.numL t).length ≤ 4 := TL.numL_len (by decide) (by omega)
theorem Nice.grp {ns : List Int} (h : Nice ns) : GrpOk (fun k => 2 ≤ k ∧ k < 10 ^ 200) 5000 (grp ns) := fun p hp => by
  have := grp_ok h.1 p hp
  have l := h.2
  exact ⟨this.1, this.2.1, by omega⟩
theorem wrd_len {k : Int} {t : Nat} (h0 : 0 ≤ k) (h : k < 10 ^ 200) (ht : t ≤ 5000) : (wrd k.toNat t).length ≤ 205 := by
  have a := num_len h0 h
  have b := num_len3 ht
  unfold wrd
  split
  · rw [List.length_append, List.length_cons]
    omega
  · omega
theorem join_len (s : List Nat) : ∀ ws : List (List Nat), (TL.joinL s ws).length ≤ (ws.map (·.length)).sum + ws.length * s.length
  | [] => by simp [TL.joinL]
  | [p] => by simp [TL.joinL]
  | p :: q :: r => by
    have ih := join_len s (q :: r)
    simp only [TL.joinL, List.length_append, List.map_cons, List.sum_cons, List.length_cons] at ih ⊢
    have : (r.length + 1 + 1) * s.length = (r.length + 1) * s.length + s.length := by rw [Nat.add_mul (r.length + 1) 1]; omega
    omega
theorem sum_le {b : Nat} : ∀ {ws : List (List Nat)}, (∀ w ∈ ws, w.length ≤ b) → (ws.map (·.length)).sum ≤ ws.length * b
  | [], _ => by simp
  | w :: r, h => by
    have a := h w (List.mem_cons_self ..)
    have c := sum_le (ws := r) fun x hx => h x (List.mem_cons_of_mem _ hx)
    rw [List.map_cons, List.sum_cons, List.length_cons, Nat.add_mul]
    omega
theorem Nice.words {ns : List Int} (h : Nice ns) : (∀ w ∈ wrds ns, w.length ≤ 205) ∧ (wrds ns).length ≤ 5000 := by
  refine ⟨fun w hw => ?_, ?_⟩
  · obtain ⟨p, hp, rfl⟩ := List.mem_map.mp hw
    obtain ⟨a, b, c⟩ := h.grp p hp
    exact wrd_len (by omega) a.2 c
  · unfold wrds
    rw [List.length_map]
    exact Nat.le_trans (grp_len ns) h.2
theorem Nice.len {ns : List Int} (h : Nice ns) : (showL ns).length ≤ 1050000 := by
  obtain ⟨a, b⟩ := h.words
  unfold showL
  split
  · decide
  · have c := join_len [44, 32] (wrds ns)
    have d := sum_le a
    have e := Nat.mul_le_mul_right 205 b
    have f : (wrds ns).length * ([44, 32] : List Nat).length ≤ 5000 * 2 := Nat.mul_le_mul_right 2 b
    omega
theorem wrds_get {ns : List Int} {i : Nat} {w : List Nat} (h : (wrds ns)[i]? = some w) : ∃ p, (grp ns)[i]? = some p ∧ w = wrd p.1.toNat p.2 := by
  unfold wrds at h
  rw [List.getElem?_map] at h
  cases e : (grp ns)[i]? with
  | none =>
    rw [e] at h
    cases h
  | some p =>
    rw [e] at h
    exact ⟨p, rfl, (Option.some.inj h).symm⟩
theorem ungrp_take {ps : List (Int × Nat)} {i : Nat} {p : Int × Nat} (h : ps[i]? = some p) : ungrp (ps.take (i + 1)) = ungrp (ps.take i) ++ List.replicate p.2 p.1 := by
  rw [List.take_add_one, h, ungrp_app]
  simp [ungrp]
/-! ## the pairs in the heap -/
def Prs (H : Hp) (l : Addr) (ps : List (Int × Nat)) : Prop := ∃ ts : List Addr, H l = some (.lst (ts.map V.ref)) ∧ ts.length = ps.length ∧ ∀ (i : Nat) (t : Addr) (p : Int × Nat), ts[i]? = some t → ps[i]? = some p → H t = some (.tup [.int p.1, .int ((p.2 : Nat) : Int)])
theorem Prs.same {H H' : Hp} {l : Addr} {ps : List (Int × Nat)} (h : Prs H l ps) (s : Same H H') : Prs H' l ps := by
  obtain ⟨ts, a, b, c⟩ := h
  exact ⟨ts, s _ _ a, b, fun i t p h1 h2 => s _ _ (c i t p h1 h2)⟩
def dPs (ps : List (Int × Nat)) : PyData := .list (ps.map fun p => .tuple [.int p.1, .int ((p.2 : Nat) : Int)])
theorem dpall_prs {K : PySem.W.Frag} {H : Hp} : ∀ (ts : List Addr) (ps : List (Int × Nat)), ts.length = ps.length → (∀ (i : Nat) (t : Addr) (p : Int × Nat), ts[i]? = some t → ps[i]? = some p → H t = some (.tup [.int p.1, .int ((p.2 : Nat) : Int)])) →
    DpAll K H (ts.map V.ref) (ps.map fun p => .tuple [.int p.1, .int ((p.2 : Nat) : Int)])
  | [], [], _, _ => .nil
  | [], _ :: _, h, _ => by simp at h
  | _ :: _, [], h, _ => by simp at h
  | t :: ts, p :: ps, h, c => .cons (.tup (SqT.of (c 0 t p rfl rfl)) (.cons (.int _) (.cons (.int _) .nil))) (dpall_prs ts ps (by simpa using h) fun i t' p' h1 h2 => c (i + 1) t' p' (by simpa using h1) (by simpa using h2))
theorem dp_prs {K : PySem.W.Frag} {H : Hp} {l : Addr} {ps : List (Int × Nat)} (h : Prs H l ps) : Dp K H (.ref l) (dPs ps) := by
  obtain ⟨ts, a, b, c⟩ := h
  exact .lst (seqL_of a) (dpall_prs ts ps b c)
theorem can_prs : ∀ ps : List (Int × Nat), PyData.canLayAll0 (ps.map fun p => .tuple [.int p.1, .int ((p.2 : Nat) : Int)]) = true
  | [] => by simp [PyData.canLayAll0]
  | p :: r => by simp [PyData.canLayAll0, PyData.canLay0, can_prs r]
theorem dep_prs : ∀ ps : List (Int × Nat), PyData.depthAll (ps.map fun p => .tuple [.int p.1, .int ((p.2 : Nat) : Int)]) ≤ 1
  | [] => by simp [PyData.depthAll]
  | p :: r => by
    have := dep_prs r
    simp only [List.map_cons, PyData.depthAll, PyData.depth]
    omega
theorem shaped_prs (ps : List (Int × Nat)) : SeqAt.shaped (dPs ps) = true := by
  have := dep_prs ps
  unfold SeqAt.shaped dPs
  rw [Bool.and_eq_true, decide_eq_true_eq]
  refine ⟨by simp only [PyData.canLay0, can_prs], ?_⟩
  show PyData.depth _ ≤ 64
  rw [PyData.depth]
  omega
theorem eqv_prs0 (ps : List (Int × Nat)) : PyData.eqv (dPs ps) (dI []) = decide (ps = []) := by
  unfold dPs dI
  cases ps with
  | nil => simp [PyData.eqv, PyData.eqvAll]
  | cons a r => simp [PyData.eqv, PyData.eqvAll]
/-- found != [] -/
theorem r_nePs {K : PySem.W.Frag} {H : Hp} {l b : Addr} {ps : List (Int × Nat)} {Q : VK} (h1 : Prs H l ps) (h2 : SqL K H b (iv [])) (q : Q (.bl (!decide (ps = []))) H) : rNeQ K (.ref l) (.ref b) H Q :=
  rNeQ_of ⟨dPs ps, dI [], dp_prs h1, dp_iv h2, shaped_prs ps, shaped_dI [], by rw [eqv_prs0]; exact q⟩
theorem Prs.last {H : Hp} {l : Addr} {ps : List (Int × Nat)} {a : Int} {c : Nat} (h : Prs H l ps) (e : ps.getLast? = some (a, c)) :
    ∃ (ts : List Addr) (t : Addr) (j : Nat), H l = some (.lst (ts.map V.ref)) ∧ ixN (ts.map V.ref).length (-1) = some j ∧ atI (ts.map V.ref) (-1) = some (.ref t) ∧ H t = some (.tup [.int a, .int ((c : Nat) : Int)]) ∧
      ∀ (T : Addr) (k : Int) (H' : Hp), (∀ b o, b ≠ l → H b = some o → H' b = some o) → H' T = some (.tup [.int k, .int (((c + 1 : Nat) : Nat) : Int)]) → H' l = some (.lst ((ts.map V.ref).set j (.ref T))) → Prs H' l (ps.dropLast ++ [(k, c + 1)]) := by
  obtain ⟨ts, h1, h2, h3⟩ := h
  have ep := last_split e
  have lp := congrArg List.length ep
  simp only [List.length_append, List.length_singleton, List.length_dropLast] at lp
  have hpos : 0 < ts.length := by omega
  have lt : ts.length - 1 < ts.length := by omega
  have ix : ixN (ts.map V.ref).length (-1) = some (ts.length - 1) := by
    rw [List.length_map]
    unfold ixN
    rw [if_neg (by omega)]
    rw [if_pos (by omega)]
    congr 1
    omega
  have eg : ps[ts.length - 1]? = some (a, c) := by
    rw [h2, ep]
    simp
  refine ⟨ts, ts[ts.length - 1], ts.length - 1, h1, ix, ?_, h3 _ _ _ (List.getElem?_eq_getElem lt) eg, fun T k H' keep hT hl => ?_⟩
  · unfold atI
    rw [ix]
    show (ts.map V.ref)[ts.length - 1]? = _
    rw [List.getElem?_map, List.getElem?_eq_getElem lt]
    rfl
  · refine ⟨ts.set (ts.length - 1) T, by rw [hl, List.map_set], by rw [List.length_set, List.length_append, List.length_dropLast, List.length_singleton]; omega, fun i t p ht hp => ?_⟩
    have li : i < ts.length := by
      have := (List.getElem?_eq_some_iff.mp ht).1
      rw [List.length_set] at this
      exact this
    by_cases z : i = ts.length - 1
    · subst z
      rw [List.getElem?_set_self lt] at ht
      have et : T = t := Option.some.inj ht
      rw [List.getElem?_append_right (by rw [List.length_dropLast]; omega), List.length_dropLast, show ts.length - 1 - (ps.length - 1) = 0 by omega] at hp
      have epp : (k, c + 1) = p := by simpa using hp
      rw [← et, ← epp]
      exact hT
    · rw [List.getElem?_set_ne (by omega)] at ht
      rw [List.getElem?_append_left (by rw [List.length_dropLast]; omega), List.getElem?_dropLast, if_pos (by omega)] at hp
      have old := h3 i t p ht hp
      refine keep t _ (fun e => ?_) old
      rw [e, h1] at old
      cases old
theorem Prs.snoc {H H' : Hp} {l : Addr} {ps : List (Int × Nat)} {k : Int} (h : Prs H l ps) : ∃ ts : List Addr, H l = some (.lst (ts.map V.ref)) ∧ ts.length = ps.length ∧
    ∀ (T : Addr) (H' : Hp), (∀ b o, b ≠ l → H b = some o → H' b = some o) → H' T = some (.tup [.int k, .int ((1 : Nat) : Int)]) → H' l = some (.lst (ts.map V.ref ++ [.ref T])) → Prs H' l (ps ++ [(k, 1)]) := by
  obtain ⟨ts, h1, h2, h3⟩ := h
  refine ⟨ts, h1, h2, fun T H' keep hT hl => ⟨ts ++ [T], by rw [hl]; simp, by simp [h2], fun i t p ht hp => ?_⟩⟩
  by_cases z : i < ts.length
  · rw [List.getElem?_append_left z] at ht
    rw [List.getElem?_append_left (by omega)] at hp
    have old := h3 i t p ht hp
    refine keep t _ (fun e => ?_) old
    rw [e, h1] at old
    cases old
  · have li : i = ts.length := by
      have := (List.getElem?_eq_some_iff.mp ht).1
      simp at this
      omega
    subst li
    rw [List.getElem?_append_right (Nat.le_refl _), Nat.sub_self] at ht
    rw [h2, List.getElem?_append_right (Nat.le_refl _), Nat.sub_self] at hp
    have et : T = t := by simpa using ht
    have ep : (k, 1) = p := by simpa using hp
    rw [← et, ← ep]
    exact hT
theorem show_short {ns : List Int} (h : Nice ns) {n : Nat} (hn : ns.length ≤ n) : (showL ns).length ≤ n * 207 + 4 := by
  obtain ⟨a, b⟩ := h.words
  unfold showL
  split
  · show 4 ≤ _
    omega
  · have c := join_len [44, 32] (wrds ns)
    have d := sum_le a
    have l : (wrds ns).length ≤ n := by
      unfold wrds
      rw [List.length_map]
      exact Nat.le_trans (grp_len ns) hn
    have e := Nat.mul_le_mul_right 205 l
    have f : (wrds ns).length * ([44, 32] : List Nat).length ≤ n * 2 := Nat.mul_le_mul_right 2 l
    omega
theorem fold_rep (k : Int) : ∀ (c : Nat) (gs : List (Int × Nat)) (t : Nat), (List.replicate c k).foldl grpS (gs ++ [(k, t)]) = gs ++ [(k, t + c)]
  | 0, gs, t => by simp
  | c + 1, gs, t => by
    have e : grpS (gs ++ [(k, t)]) k = gs ++ [(k, t + 1)] := by
      unfold grpS
      simp
    rw [List.replicate_succ, List.foldl_cons, e, fold_rep k c gs (t + 1), show t + 1 + c = t + (c + 1) by omega]
theorem grp_add {ns : List Int} {gs : List (Int × Nat)} {k : Int} {c : Nat} (h : grp ns = gs) (hl : ∀ a t, gs.getLast? = some (a, t) → a ≠ k) (hc : 1 ≤ c) : grp (ns ++ List.replicate c k) = gs ++ [(k, c)] := by
  obtain ⟨c', rfl⟩ : ∃ c', c = c' + 1 := ⟨c - 1, by omega⟩
  unfold grp at h ⊢
  rw [List.foldl_append, h, List.replicate_succ, List.foldl_cons]
  have e : grpS gs k = gs ++ [(k, 1)] := by
    unfold grpS
    cases el : gs.getLast? with
    | none =>
      have : gs = [] := List.getLast?_eq_none_iff.mp el
      subst this
      rfl
    | some q =>
      obtain ⟨a, t⟩ := q
      simp only
      rw [if_neg (hl a t el)]
  rw [e, fold_rep k c' gs 1, show 1 + c' = c' + 1 by omega]
theorem grp_two {o : Int} {m : Nat} (h : 1 ≤ m) : grp ((o + 1) :: List.replicate m o) = [(o + 1, 1), (o, m)] :=
  grp_add (ns := [o + 1]) (gs := [(o + 1, 1)]) rfl (fun a t e => by
    have : a = o + 1 := by
      have := congrArg (Option.map Prod.fst) e
      simpa using this.symm
    omega) h
theorem show_two {o : Int} {m : Nat} (h : 2 ≤ m) : showL ((o + 1) :: List.replicate m o) = TL.numL (o + 1).toNat ++ ([44, 32] ++ (TL.numL o.toNat ++ 94 :: TL.numL m)) := by
  unfold showL wrds
  rw [if_neg (by simp), grp_two (by omega)]
  simp only [List.map_cons, List.map_nil, TL.joinL]
  unfold wrd
  rw [if_neg (by decide), if_pos (by omega)]
end Sq


set_option Elab.async false
set_option maxRecDepth 100000
set_option maxHeartbeats 4000000
namespace Sq
open PySem PySem.Spec PyProof.Rows L2
/-! ## any text read -/
def numsAll : List (List Nat) → Option (List Int)
  | [] => some []
  | w :: r => match numsIn w with
    | none => none
    | some a => match numsAll r with
      | none => none
      | some b => some (a ++ b)
def wordsOf (u : List Nat) : List (List Nat) := if u = noneL then [] else TL.spl [44, 32] 0 [] u
def readR (u : List Nat) : Option (List Int) := match numsAll (wordsOf u) with
  | none => none
  | some ns => if showL ns = u then some ns else none
theorem nums_snoc (w : List Nat) : ∀ {ws : List (List Nat)} {a : List Int}, numsAll ws = some a → numsAll (ws ++ [w]) = match numsIn w with | none => none | some b => some (a ++ b)
  | [], a, h => by
    have : a = [] := (Option.some.inj h).symm
    subst this
    show numsAll [w] = _
    unfold numsAll
    cases numsIn w with
    | none => rfl
    | some b => simp [numsAll]
  | v :: r, a, h => by
    unfold numsAll at h
    show numsAll (v :: (r ++ [w])) = _
    unfold numsAll
    cases hv : numsIn v with
    | none =>
      rw [hv] at h
      cases h
    | some x =>
      rw [hv] at h
      simp only at h ⊢
      cases hr : numsAll r with
      | none =>
        rw [hr] at h
        cases h
      | some y =>
        rw [hr] at h
        simp only at h
        have e : x ++ y = a := Option.some.inj h
        rw [nums_snoc w hr]
        cases numsIn w with
        | none => rfl
        | some b => simp [← e]
theorem nums_bad {w : List Nat} (hw : numsIn w = none) : ∀ {ws : List (List Nat)}, w ∈ ws → numsAll ws = none
  | [], h => nomatch h
  | v :: r, h => by
    unfold numsAll
    rcases List.mem_cons.mp h with rfl | z
    · rw [hw]
    · cases numsIn v with
      | none => rfl
      | some x => simp only [nums_bad hw z]
theorem nums_take {ws : List (List Nat)} {i : Nat} {w : List Nat} {a : List Int} (h : ws[i]? = some w) (e : numsAll (ws.take i) = some a) : numsAll (ws.take (i + 1)) = match numsIn w with | none => none | some b => some (a ++ b) := by
  rw [List.take_add_one, h]
  exact nums_snoc w e
/-! ### what is shown is read -/
theorem nums_shown : ∀ {ps : List (Int × Nat)}, (∀ p ∈ ps, (2 ≤ p.1 ∧ p.1 < 10 ^ 200) ∧ 1 ≤ p.2 ∧ p.2 ≤ 5000000) → numsAll (ps.map fun p => wrd p.1.toNat p.2) = some (ungrp ps)
  | [], _ => rfl
  | p :: r, h => by
    obtain ⟨⟨h2, h200⟩, h1, h5⟩ := h p (List.mem_cons_self ..)
    have ih := nums_shown (ps := r) fun q hq => h q (List.mem_cons_of_mem _ hq)
    have lt : (TL.numL p.2).length ≤ 200 := Nat.le_trans (TL.numL_len (k := 7) (by decide) (by omega)) (by decide)
    have e := nums_wrd (n := p.1.toNat) (t := p.2) (num_len (by omega) h200) lt (by omega) h1
    rw [List.map_cons]
    unfold numsAll
    rw [e]
    simp only [ih]
    rw [Int.toNat_of_nonneg (by omega)]
    rfl
/-- lists that are shown and read, also long ones -/
def NiceW (ns : List Int) : Prop := (∀ k ∈ ns, 2 ≤ k ∧ k < 10 ^ 200) ∧ ns.length ≤ 5000000 ∧ (grp ns).length ≤ 5000
theorem Nice.w {ns : List Int} (h : Nice ns) : NiceW ns := ⟨h.1, Nat.le_trans h.2 (by decide), Nat.le_trans (grp_len ns) h.2⟩
theorem NiceW.grp {ns : List Int} (h : NiceW ns) : GrpOk (fun k => 2 ≤ k ∧ k < 10 ^ 200) 5000000 (grp ns) := fun p hp => by
  have := grp_ok h.1 p hp
  have l := h.2.1
  exact ⟨this.1, this.2.1, by omega⟩
theorem words_shown {ns : List Int} : wordsOf (showL ns) = wrds ns := by
  unfold wordsOf
  by_cases h : ns = []
  · subst h
    rfl
  · rw [if_neg (show_ne h), spl_show h]
theorem read_shown {ns : List Int} (h : NiceW ns) : readR (showL ns) = some ns := by
  unfold readR
  rw [words_shown]
  unfold wrds
  rw [nums_shown fun p hp => h.grp p hp, ungrp_grp]
  exact if_pos rfl
theorem show_inj {a b : List Int} (ha : NiceW a) (hb : NiceW b) (e : showL a = showL b) : a = b := by
  have x := read_shown ha
  rw [e, read_shown hb] at x
  exact (Option.some.inj x).symm
theorem num_len7 {t : Nat} (h : t ≤ 5000000) : (TL.numL t).length ≤ 7 := TL.numL_len (by decide) (by omega)
theorem wrd_len7 {k : Int} {t : Nat} (h0 : 0 ≤ k) (h : k < 10 ^ 200) (ht : t ≤ 5000000) : (wrd k.toNat t).length ≤ 208 := by
  have a := num_len h0 h
  have b := num_len7 ht
  unfold wrd
  split
  · rw [List.length_append, List.length_cons]
    omega
  · omega
theorem ltW {n : Nat} (h : n ≤ 5000000) : n < sizeLine := by
  rw [sizeLine_eq]
  omega
theorem NiceW.words {ns : List Int} (h : NiceW ns) : (∀ w ∈ wrds ns, w.length ≤ 208) ∧ (wrds ns).length ≤ 5000 := by
  refine ⟨fun w hw => ?_, ?_⟩
  · obtain ⟨p, hp, rfl⟩ := List.mem_map.mp hw
    obtain ⟨a, b, c⟩ := h.grp p hp
    exact wrd_len7 (by omega) a.2 c
  · unfold wrds
    rw [List.length_map]
    exact h.2.2
/-! ### pieces -/
theorem spl_part (S : List Nat) : ∀ (l : List Nat) (k : Nat) (acc w : List Nat), w ∈ TL.spl S k acc l → (∃ x a b, w = acc ++ x ∧ l = a ++ x ++ b ∧ (k = 0 → a = [])) ∨ ∃ a b, l = a ++ w ++ b
  | [], k, acc, w, h => by
    rw [TL.spl_nil] at h
    exact .inl ⟨[], [], [], by rw [List.mem_singleton.mp h, List.append_nil], rfl, fun _ => rfl⟩
  | c :: r, 0, acc, w, h => by
    cases hp : TL.pre S (c :: r) with
    | true =>
      rw [TL.spl_hit hp] at h
      rcases List.mem_cons.mp h with rfl | z
      · exact .inl ⟨[], [], c :: r, by rw [List.append_nil], rfl, fun _ => rfl⟩
      · rcases spl_part S r _ [] w z with ⟨x, a, b, e1, e2, _⟩ | ⟨a, b, e⟩
        · rw [List.nil_append] at e1
          subst e1
          exact .inr ⟨c :: a, b, by rw [e2]; rfl⟩
        · exact .inr ⟨c :: a, b, by rw [e]; rfl⟩
    | false =>
      rw [TL.spl_miss hp] at h
      rcases spl_part S r 0 (acc ++ [c]) w h with ⟨x, a, b, e1, e2, e3⟩ | ⟨a, b, e⟩
      · have := e3 rfl
        subst this
        exact .inl ⟨c :: x, [], b, by rw [e1]; simp, by rw [e2]; rfl, fun _ => rfl⟩
      · exact .inr ⟨c :: a, b, by rw [e]; rfl⟩
  | c :: r, k + 1, acc, w, h => by
    rcases spl_part S r k acc w h with ⟨x, a, b, e1, e2, e3⟩ | ⟨a, b, e⟩
    · exact .inl ⟨x, c :: a, b, e1, by rw [e2]; rfl, fun z => absurd z (by omega)⟩
    · exact .inr ⟨c :: a, b, by rw [e]; rfl⟩
theorem spl_in {S l w : List Nat} (h : w ∈ TL.spl S 0 [] l) : ∃ a b, l = a ++ w ++ b := by
  rcases spl_part S l 0 [] w h with ⟨x, a, b, e1, e2, _⟩ | z
  · rw [List.nil_append] at e1
    subst e1
    exact ⟨a, b, e2⟩
  · exact z
theorem spl_count (S : List Nat) : ∀ (l : List Nat) (k : Nat) (acc : List Nat), (TL.spl S k acc l).length ≤ l.length + 1
  | [], k, acc => by
    rw [TL.spl_nil]
    exact Nat.le_refl _
  | c :: r, 0, acc => by
    cases hp : TL.pre S (c :: r) with
    | true =>
      rw [TL.spl_hit hp]
      have := spl_count S r (S.length - 1) []
      rw [List.length_cons, List.length_cons]
      omega
    | false =>
      rw [TL.spl_miss hp]
      have := spl_count S r 0 (acc ++ [c])
      rw [List.length_cons]
      omega
  | c :: r, k + 1, acc => by
    have := spl_count S r k acc
    rw [List.length_cons]
    exact Nat.le_succ_of_le this
theorem spl_head {s : Nat} : ∀ {l acc f : List Nat} {o : List (List Nat)}, TL.spl [s] 0 acc l = f :: o → (o = [] ∧ f = acc ++ l) ∨ ∃ x rest, f = acc ++ x ∧ l = x ++ s :: rest ∧ o = TL.spl [s] 0 [] rest
  | [], acc, f, o, h => by
    rw [TL.spl_nil] at h
    injection h with h1 h2
    exact .inl ⟨h2.symm, by rw [← h1, List.append_nil]⟩
  | c :: r, acc, f, o, h => by
    cases hp : TL.pre [s] (c :: r) with
    | true =>
      rw [TL.spl_hit hp] at h
      injection h with h1 h2
      have e : (c :: r).take 1 = [s] := eq_of_beq hp
      have ec : c = s := by simpa using e
      exact .inr ⟨[], r, by rw [h1, List.append_nil], by rw [ec]; rfl, h2.symm⟩
    | false =>
      rw [TL.spl_miss hp] at h
      rcases spl_head h with ⟨h1, h2⟩ | ⟨x, rest, h1, h2, h3⟩
      · exact .inl ⟨h1, by rw [h2]; simp⟩
      · exact .inr ⟨c :: x, rest, by rw [h1]; simp, by rw [h2]; rfl, h3⟩
theorem spl_two {s : Nat} {w f t : List Nat} {o : List (List Nat)} (h : TL.spl [s] 0 [] w = f :: t :: o) : ∃ b, w = f ++ s :: (t ++ b) := by
  rcases spl_head h with ⟨h1, _⟩ | ⟨x, rest, h1, h2, h3⟩
  · cases h1
  · rw [List.nil_append] at h1
    subst h1
    rcases spl_head h3.symm with ⟨_, h4⟩ | ⟨y, r2, h4, h5, _⟩
    · exact ⟨[], by rw [h2, h4]; simp⟩
    · rw [List.nil_append] at h4
      subst h4
      exact ⟨s :: r2, by rw [h2, h5]⟩
theorem spl_ne (s : Nat) (w : List Nat) : ∃ f o, TL.spl [s] 0 [] w = f :: o := by
  have : ∀ (l acc : List Nat), ∃ f o, TL.spl [s] 0 acc l = f :: o := by
    intro l
    induction l with
    | nil => exact fun acc => ⟨acc, [], TL.spl_nil _ _ _⟩
    | cons c r ih =>
      intro acc
      cases hp : TL.pre [s] (c :: r) with
      | true => exact ⟨_, _, TL.spl_hit hp⟩
      | false =>
        rw [TL.spl_miss hp]
        exact ih _
  exact this w []
/-! ### bounds -/
theorem val_lt : ∀ (cs : List Nat) (a : Nat), cs.all dig = true → cs.foldl (fun acc c => acc * 10 + (c - 48)) a < (a + 1) * 10 ^ cs.length
  | [], a, _ => by simp
  | c :: r, a, h => by
    rw [List.all_cons, Bool.and_eq_true] at h
    have ih := val_lt r (a * 10 + (c - 48)) h.2
    have hc : c - 48 ≤ 9 := by
      have := h.1
      unfold dig at this
      rw [Bool.and_eq_true, decide_eq_true_eq, decide_eq_true_eq] at this
      omega
    rw [List.foldl_cons, List.length_cons, Nat.pow_succ]
    have m : (a * 10 + (c - 48) + 1) * 10 ^ r.length ≤ ((a + 1) * 10) * 10 ^ r.length := Nat.mul_le_mul_right _ (by omega)
    have e : (a + 1) * 10 * 10 ^ r.length = (a + 1) * (10 ^ r.length * 10) := by rw [Nat.mul_assoc, Nat.mul_comm 10]
    omega
theorem digitsVal_lt {cs : List Nat} (h : cs.all dig = true) : NumText.digitsVal cs < 10 ^ cs.length := by
  have := val_lt cs 0 h
  rw [Nat.zero_add, Nat.one_mul] at this
  exact this
theorem numIn_some {w : List Nat} {n : Nat} (h : numIn w = some n) : (1 ≤ w.length ∧ w.length ≤ 200 ∧ w.all dig = true) ∧ n = NumText.digitsVal w := by
  unfold numIn at h
  split at h
  · rename_i c
    exact ⟨c, (Option.some.inj h).symm⟩
  · cases h
theorem numIn_lt {w : List Nat} {n : Nat} (h : numIn w = some n) : (n : Int) < 10 ^ 200 := by
  obtain ⟨⟨_, h1, h2⟩, rfl⟩ := numIn_some h
  have a := digitsVal_lt h2
  have b : 10 ^ w.length ≤ 10 ^ 200 := Nat.pow_le_pow_right (by decide) h1
  have e : ((10 : Int) ^ 200) = ((10 ^ 200 : Nat) : Int) := by norm_cast
  rw [e]
  omega
theorem take_all {b t r : List Nat} (h : t.all dig = true) (e : b = t ++ r) : t.length ≤ (b.takeWhile dig).length := by
  subst e
  induction t with
  | nil => exact Nat.zero_le _
  | cons c t ih =>
    rw [List.all_cons, Bool.and_eq_true] at h
    rw [List.cons_append, List.takeWhile_cons, if_pos h.1, List.length_cons, List.length_cons]
    exact Nat.succ_le_succ (ih h.2)
/-- texts that are read here: behind each power sign stand at most three digits -/
def RdOk (u : List Nat) : Prop := u.length ≤ 4100 ∧ (∀ c ∈ u, c < 0x110000) ∧ ∀ a b, u = a ++ 94 :: b → (b.takeWhile dig).length ≤ 3
theorem nums_of {u w : List Nat} {ns : List Int} (h : RdOk u) (hw : ∃ a b, u = a ++ w ++ b) (e : numsIn w = some ns) : ∃ (n : Int) (t : Nat), ns = List.replicate t n ∧ t ≤ 999 ∧ 2 ≤ n ∧ n < 10 ^ 200 := by
  obtain ⟨f, o, es⟩ := spl_ne 94 w
  unfold numsIn at e
  rw [es] at e
  simp only at e
  cases hf : numIn f with
  | none =>
    rw [hf] at e
    cases e
  | some n =>
    rw [hf] at e
    have nl := numIn_lt hf
    cases o with
    | nil =>
      simp only at e
      split at e
      · cases e
      · rename_i c
        exact ⟨n, 1, (Option.some.inj e).symm, by decide, by simp at c; omega, nl⟩
    | cons t o =>
      simp only at e
      cases ht : numIn t with
      | none =>
        rw [ht] at e
        cases e
      | some m =>
        rw [ht] at e
        simp only at e
        split at e
        · cases e
        · rename_i c
          refine ⟨n, m, (Option.some.inj e).symm, ?_, by omega, nl⟩
          obtain ⟨⟨_, _, td⟩, rfl⟩ := numIn_some ht
          obtain ⟨a, b, eu⟩ := hw
          obtain ⟨x, ew⟩ := spl_two es
          have z := h.2.2 (a ++ f) (t ++ (x ++ b)) (by rw [eu, ew]; simp)
          have y := take_all (b := t ++ (x ++ b)) td rfl
          have v := digitsVal_lt td
          have p : 10 ^ t.length ≤ 10 ^ 3 := Nat.pow_le_pow_right (by decide) (by omega)
          omega
theorem grpS_last (g : List (Int × Nat)) (k : Int) : ∃ gs t, grpS g k = gs ++ [(k, t)] ∧ gs.length ≤ g.length := by
  unfold grpS
  cases e : g.getLast? with
  | none => exact ⟨[], 1, rfl, Nat.zero_le _⟩
  | some q =>
    obtain ⟨a, c⟩ := q
    simp only
    split
    · rename_i z
      exact ⟨g.dropLast, c + 1, by rw [z], by rw [List.length_dropLast]; omega⟩
    · exact ⟨g, 1, rfl, Nat.le_refl _⟩
theorem grp_more (ns : List Int) (t : Nat) (n : Int) : (grp (ns ++ List.replicate t n)).length ≤ (grp ns).length + 1 := by
  unfold grp
  rw [List.foldl_append]
  generalize ns.foldl grpS [] = g
  cases t with
  | zero => simp
  | succ t =>
    obtain ⟨gs, m, e, l⟩ := grpS_last g n
    rw [List.replicate_succ, List.foldl_cons, e, fold_rep, List.length_append, List.length_singleton]
    omega
theorem nums_pre {w : List Nat} : ∀ {l : List (List Nat)} {a : List Int}, numsAll (l ++ [w]) = some a → ∃ b c, numsAll l = some b ∧ numsIn w = some c ∧ a = b ++ c
  | [], a, h => by
    have h : numsAll [w] = some a := h
    unfold numsAll at h
    cases e : numsIn w with
    | none =>
      rw [e] at h
      cases h
    | some c =>
      rw [e] at h
      have h : some (c ++ []) = some a := h
      exact ⟨[], c, rfl, rfl, by rw [← Option.some.inj h]; simp⟩
  | v :: r, a, h => by
    have h : numsAll (v :: (r ++ [w])) = some a := h
    unfold numsAll at h
    cases hv : numsIn v with
    | none =>
      rw [hv] at h
      cases h
    | some x =>
      rw [hv] at h
      simp only at h
      cases hr : numsAll (r ++ [w]) with
      | none =>
        rw [hr] at h
        cases h
      | some y =>
        rw [hr] at h
        have e : x ++ y = a := Option.some.inj h
        obtain ⟨b, c, h1, h2, h3⟩ := nums_pre hr
        refine ⟨x ++ b, c, ?_, h2, by rw [← e, h3, List.append_assoc]⟩
        unfold numsAll
        rw [hv, h1]
/-- the numbers of some words -/
theorem nums_nice {u : List Nat} (h : RdOk u) {ws : List (List Nat)} (hw : ∀ w ∈ ws, ∃ x y, u = x ++ w ++ y) : ∀ (i : Nat) (a : List Int), i ≤ ws.length → numsAll (ws.take i) = some a → (∀ k ∈ a, 2 ≤ k ∧ k < 10 ^ 200) ∧ a.length ≤ i * 999 ∧ (grp a).length ≤ i := by
  intro i
  induction i with
  | zero =>
    intro a _ e
    have : a = [] := (Option.some.inj e).symm
    subst this
    exact ⟨(fun k hk => nomatch hk), Nat.zero_le _, Nat.zero_le _⟩
  | succ i ih =>
    intro a hi e
    have ei : ws[i]? = some ws[i] := List.getElem?_eq_getElem (by omega)
    rw [List.take_add_one, ei] at e
    obtain ⟨b, c, e1, e2, rfl⟩ := nums_pre e
    obtain ⟨h1, h2, h3⟩ := ih b (by omega) e1
    obtain ⟨n, t, rfl, t9, n2, n200⟩ := nums_of h (hw _ (List.getElem_mem _)) e2
    have g := grp_more b t n
    refine ⟨fun k hk => ?_, ?_, by omega⟩
    · rcases List.mem_append.mp hk with z | z
      · exact h1 k z
      · rw [List.eq_of_mem_replicate z]
        exact ⟨n2, n200⟩
    · rw [List.length_append, List.length_replicate, Nat.add_mul]
      omega
theorem words_in {u w : List Nat} (h : w ∈ wordsOf u) : ∃ a b, u = a ++ w ++ b := by
  unfold wordsOf at h
  split at h
  · cases h
  · exact spl_in h
theorem words_count (u : List Nat) : (wordsOf u).length ≤ u.length + 1 := by
  unfold wordsOf
  split
  · exact Nat.zero_le _
  · exact spl_count _ _ _ _
theorem nums_niceW {u : List Nat} (h : RdOk u) {i : Nat} {a : List Int} (hi : i ≤ (wordsOf u).length) (e : numsAll ((wordsOf u).take i) = some a) : NiceW a ∧ a.length ≤ i * 999 := by
  obtain ⟨h1, h2, h3⟩ := nums_nice h (fun w hw => words_in hw) i a hi e
  have c := words_count u
  have l := h.1
  have m := Nat.mul_le_mul_right 999 (show i ≤ 4101 by omega)
  exact ⟨⟨h1, by omega, by omega⟩, h2⟩
theorem readR_nice {u : List Nat} (h : RdOk u) {a : List Int} (e : readR u = some a) : NiceW a ∧ showL a = u := by
  unfold readR at e
  cases en : numsAll (wordsOf u) with
  | none =>
    rw [en] at e
    cases e
  | some b =>
    rw [en] at e
    simp only at e
    split at e
    · rename_i c
      have : b = a := Option.some.inj e
      subst this
      refine ⟨(nums_niceW h (Nat.le_refl _) ?_).1, c⟩
      rw [List.take_length]
      exact en
    · cases e
end Sq


set_option Elab.async false
set_option maxRecDepth 100000
set_option maxHeartbeats 4000000
namespace Sq
open PySem PySem.Spec PyProof.Rows L2
/-! ## a text read part by part -/
def lawNum (w : List Nat) : Option Nat := if 1 ≤ w.length ∧ w.length ≤ 200 ∧ w.all dig = true ∧ w.headD 0 ≠ 48 then (if 2 ≤ NumText.digitsVal w then some (NumText.digitsVal w) else none) else none
theorem all_digits {w : List Nat} (h : w.all dig = true) : NumText.AllDigits w := fun c hc => by
  have := List.all_eq_true.mp h c hc
  unfold dig at this
  rw [Bool.and_eq_true, decide_eq_true_eq, decide_eq_true_eq] at this
  exact this
theorem chr_back : ∀ c : Nat, c < 58 → (Char.ofNat c).toNat = c := by decide
theorem num_back {w : List Nat} (h : w.all dig = true) (hd : w.headD 0 ≠ 48) (ne : w ≠ []) : TL.numL (NumText.digitsVal w) = w := by
  have ad := all_digits h
  obtain ⟨c, r, rfl⟩ : ∃ c r, w = c :: r := by
    cases w with
    | nil => exact absurd rfl ne
    | cons c r => exact ⟨c, r, rfl⟩
  have hc := ad c (List.mem_cons_self ..)
  have h49 : 49 ≤ c := by
    have : c ≠ 48 := hd
    omega
  have e := NumText.toDigits_digitsVal r.length (c :: r) rfl ad (.inr ⟨c, r, rfl, h49⟩)
  unfold TL.numL
  rw [e, List.map_map]
  conv => rhs; rw [← List.map_id (c :: r)]
  refine List.map_congr_left fun x hx => ?_
  have := ad x hx
  exact chr_back x (by omega)
theorem num_head {n : Nat} (hn : 2 ≤ n) : (TL.numL n).headD 0 ≠ 48 := fun e => by
  cases en : TL.numL n with
  | nil => exact TL.numL_ne n en
  | cons c r =>
    rw [en] at e
    have ec : c = 48 := e
    subst ec
    have v := TL.numL_val n
    rw [en, NumText.digitsVal_zero] at v
    have ad := dig_num n
    rw [en, List.all_cons, Bool.and_eq_true] at ad
    have lt := digitsVal_lt ad.2
    rw [v] at lt
    cases r with
    | nil =>
      simp at lt
      omega
    | cons d r =>
      have l := TL.numL_len (k := (d :: r).length) (by simp) lt
      rw [en, List.length_cons] at l
      omega
theorem lawNum_num {n : Nat} (h2 : 2 ≤ n) (hl : (TL.numL n).length ≤ 200) : lawNum (TL.numL n) = some n := by
  have l : 1 ≤ (TL.numL n).length := by
    cases e : TL.numL n with
    | nil => exact absurd e (TL.numL_ne n)
    | cons a t => simp
  unfold lawNum
  rw [if_pos ⟨l, hl, dig_num n, num_head h2⟩, TL.numL_val, if_pos h2]
theorem lawNum_some {w : List Nat} {n : Nat} (h : lawNum w = some n) : w = TL.numL n ∧ 2 ≤ n ∧ (TL.numL n).length ≤ 200 := by
  unfold lawNum at h
  split at h
  · rename_i c
    split at h
    · rename_i c2
      have e : NumText.digitsVal w = n := Option.some.inj h
      have b := num_back c.2.2.1 c.2.2.2 (fun z => by
        rw [z] at c
        exact absurd c.1 (by decide))
      rw [e] at b
      exact ⟨b.symm, by omega, by rw [b]; exact c.2.1⟩
    · cases h
  · cases h
def dueW (w : List Nat) : Option (Nat × Nat) := match TL.spl [94] 0 [] w with
  | [] => none
  | f :: o => match lawNum f, (match o with | [] => some 1 | t :: _ => lawNum t) with
    | some n, some t => if 1 < o.length then none else some (n, t)
    | _, _ => none
theorem dueW_wrd {n t : Nat} (h2 : 2 ≤ n) (hl : (TL.numL n).length ≤ 200) (h1 : 1 ≤ t) (ht : (TL.numL t).length ≤ 200) : dueW (wrd n t) = some (n, t) := by
  unfold dueW
  rw [spl_wrd]
  by_cases c : 1 < t
  · rw [if_pos c]
    simp only [lawNum_num h2 hl, lawNum_num (show 2 ≤ t by omega) ht]
    rw [if_neg (by simp)]
  · rw [if_neg c]
    simp only [lawNum_num h2 hl]
    rw [if_neg (by simp), show t = 1 by omega]
theorem dueW_some {w : List Nat} {n t : Nat} (h : dueW w = some (n, t)) : w = wrd n t ∧ 2 ≤ n ∧ (TL.numL n).length ≤ 200 ∧ 1 ≤ t ∧ (TL.numL t).length ≤ 200 := by
  unfold dueW at h
  cases es : TL.spl [94] 0 [] w with
  | nil =>
    rw [es] at h
    cases h
  | cons f o =>
    rw [es] at h
    simp only at h
    cases hf : lawNum f with
    | none =>
      rw [hf] at h
      cases h
    | some m =>
      rw [hf] at h
      obtain ⟨ef, m2, ml⟩ := lawNum_some hf
      cases o with
      | nil =>
        simp only at h
        rw [if_neg (by simp)] at h
        have e := Option.some.inj h
        injection e with e1 e2
        subst e1
        subst e2
        rcases spl_head es with ⟨_, e3⟩ | ⟨x, rest, _, _, e3⟩
        · rw [List.nil_append] at e3
          refine ⟨?_, m2, ml, Nat.le_refl _, by decide⟩
          unfold wrd
          rw [if_neg (by decide), ← e3]
          exact ef
        · obtain ⟨a, b, ne⟩ := spl_ne 94 rest
          rw [ne] at e3
          cases e3
      | cons t' o =>
        simp only at h
        cases ht : lawNum t' with
        | none =>
          rw [ht] at h
          cases h
        | some k =>
          rw [ht] at h
          simp only at h
          split at h
          · cases h
          · rename_i c
            have e := Option.some.inj h
            injection e with e1 e2
            subst e1
            subst e2
            obtain ⟨et, k2, kl⟩ := lawNum_some ht
            have o0 : o = [] := by
              cases o with
              | nil => rfl
              | cons a r => exact absurd (by simp) c
            subst o0
            refine ⟨?_, m2, ml, by omega, kl⟩
            unfold wrd
            rw [if_pos (by omega)]
            rcases spl_head es with ⟨e3, _⟩ | ⟨x, rest, e3, e4, e5⟩
            · cases e3
            · rw [List.nil_append] at e3
              rcases spl_head e5.symm with ⟨_, e6⟩ | ⟨y, r2, _, _, e6⟩
              · rw [List.nil_append] at e6
                rw [e4, ← e3, ← e6, ← et, ← ef]
              · obtain ⟨a, b, ne⟩ := spl_ne 94 r2
                rw [ne] at e6
                cases e6
/-! ### parts put together -/
def stepG (o : Option (List (Int × Nat))) (w : List Nat) : Option (List (Int × Nat)) := match o with
  | none => none
  | some gs => match dueW w with
    | none => none
    | some (n, t) => if gs.getLast?.map Prod.fst = some (n : Int) then none else some (gs ++ [((n : Int), t)])
def dueGs (ws : List (List Nat)) : Option (List (Int × Nat)) := ws.foldl stepG (some [])
def dueR (u : List Nat) : Option (List Int) := if u = noneL then some [] else (dueGs (TL.spl [44, 32] 0 [] u)).map ungrp
theorem dueGs_take {ws : List (List Nat)} {i : Nat} {w : List Nat} (h : ws[i]? = some w) : dueGs (ws.take (i + 1)) = stepG (dueGs (ws.take i)) w := by
  unfold dueGs
  rw [List.take_add_one, h, List.foldl_append]
  rfl
theorem step_none : ∀ l : List (List Nat), l.foldl stepG none = none
  | [] => rfl
  | w :: r => step_none r
theorem dueGs_none {ws : List (List Nat)} {i : Nat} (h : dueGs (ws.take i) = none) : dueGs ws = none := by
  have e : ws = ws.take i ++ ws.drop i := (List.take_append_drop i ws).symm
  unfold dueGs at h ⊢
  rw [e, List.foldl_append, h, step_none]
/-- parts as they are shown -/
def OkG (gs : List (Int × Nat)) : Prop := (∀ p ∈ gs, 2 ≤ p.1 ∧ (TL.numL p.1.toNat).length ≤ 200 ∧ 1 ≤ p.2 ∧ (TL.numL p.2).length ≤ 200) ∧ grp (ungrp gs) = gs
theorem dueGs_some {ws : List (List Nat)} : ∀ (i : Nat) (gs : List (Int × Nat)), i ≤ ws.length → dueGs (ws.take i) = some gs → ws.take i = (gs.map fun p => wrd p.1.toNat p.2) ∧ OkG gs := by
  intro i
  induction i with
  | zero =>
    intro gs _ h
    have : gs = [] := (Option.some.inj h).symm
    subst this
    exact ⟨rfl, (fun p hp => nomatch hp), rfl⟩
  | succ i ih =>
    intro gs hi h
    have ei : ws[i]? = some ws[i] := List.getElem?_eq_getElem (by omega)
    rw [dueGs_take ei] at h
    cases e : dueGs (ws.take i) with
    | none =>
      rw [e] at h
      cases h
    | some hs =>
      rw [e] at h
      obtain ⟨a, b, c⟩ := ih hs (by omega) e
      unfold stepG at h
      simp only at h
      cases ed : dueW ws[i] with
      | none =>
        rw [ed] at h
        cases h
      | some q =>
        obtain ⟨n, t⟩ := q
        rw [ed] at h
        simp only at h
        split at h
        · cases h
        · rename_i ne
          have eg := Option.some.inj h
          subst eg
          obtain ⟨ew, n2, nl, t1, tl⟩ := dueW_some ed
          refine ⟨?_, fun p hp => ?_, ?_⟩
          · rw [List.take_add_one, ei, a, List.map_append, ew]
            rfl
          · rcases List.mem_append.mp hp with z | z
            · exact b p z
            · rw [List.mem_singleton.mp z]
              exact ⟨by simp only; omega, nl, t1, tl⟩
          · have eu : ungrp (hs ++ [((n : Int), t)]) = ungrp hs ++ List.replicate t (n : Int) := by
              rw [ungrp_app]
              simp [ungrp]
            rw [eu]
            exact grp_add c (fun x y z => by
              rw [z] at ne
              intro xe
              exact ne (by rw [← xe]; rfl)) t1
theorem joinL_ne {s a : List Nat} {r : List (List Nat)} (h : r ≠ []) : TL.joinL s (a :: r) = a ++ (s ++ TL.joinL s r) := by
  cases r with
  | nil => exact absurd rfl h
  | cons b r => rfl
theorem spl_ne2 (S : List Nat) : ∀ (l : List Nat) (k : Nat) (acc : List Nat), TL.spl S k acc l ≠ []
  | [], k, acc => by
    rw [TL.spl_nil]
    simp
  | c :: r, 0, acc => by
    cases hp : TL.pre S (c :: r) with
    | true =>
      rw [TL.spl_hit hp]
      simp
    | false =>
      rw [TL.spl_miss hp]
      exact spl_ne2 S r 0 _
  | c :: r, k + 1, acc => spl_ne2 S r k acc
theorem join_spl {S : List Nat} (hS : S ≠ []) : ∀ (m : Nat) (l acc : List Nat), l.length ≤ m → TL.joinL S (TL.spl S 0 acc l) = acc ++ l
  | m, [], acc, _ => by
    rw [TL.spl_nil, List.append_nil]
    rfl
  | m + 1, c :: r, acc, h => by
    cases hp : TL.pre S (c :: r) with
    | true =>
      rw [TL.spl_hit hp, joinL_ne (spl_ne2 _ _ _ _), TL.spl_pass]
      rw [join_spl hS m (r.drop (S.length - 1)) [] (by rw [List.length_drop]; simp at h; omega)]
      have e : (c :: r).take S.length = S := eq_of_beq hp
      have d : (c :: r).drop S.length = r.drop (S.length - 1) := by
        cases S with
        | nil => exact absurd rfl hS
        | cons a b => rfl
      rw [List.nil_append, ← d]
      conv => lhs; rw [show S ++ (c :: r).drop S.length = (c :: r).take S.length ++ (c :: r).drop S.length from by rw [e]]
      rw [List.take_append_drop]
    | false =>
      rw [TL.spl_miss hp, join_spl hS m r (acc ++ [c]) (by simpa using h)]
      simp
theorem due_count {u w : List Nat} (ok : RdOk u) (hw : ∃ a b, u = a ++ w ++ b) {n t : Nat} (h : dueW w = some (n, t)) : t ≤ 999 ∧ ((n : Nat) : Int) < 10 ^ 200 ∧ numsIn w = some (List.replicate t (n : Int)) := by
  obtain ⟨ew, n2, nl, t1, tl⟩ := dueW_some h
  have e : numsIn w = some (List.replicate t (n : Int)) := by
    rw [ew]
    exact nums_wrd nl tl n2 t1
  obtain ⟨n', t', e2, t9, _, n200⟩ := nums_of ok hw e
  have l := congrArg List.length e2
  rw [List.length_replicate, List.length_replicate] at l
  subst l
  refine ⟨t9, ?_, e⟩
  obtain ⟨k, rfl⟩ : ∃ k, t = k + 1 := ⟨t - 1, by omega⟩
  rw [List.replicate_succ, List.replicate_succ] at e2
  have e3 := (List.cons.inj e2).1
  exact e3 ▸ n200
theorem due_read {u : List Nat} (ok : RdOk u) {ns : List Int} (h : dueR u = some ns) : readR u = some ns := by
  unfold dueR at h
  split at h
  · rename_i c
    rw [c]
    exact h
  · rename_i c
    obtain ⟨gs, eg, rfl⟩ := Option.map_eq_some_iff.mp h
    have eg2 : dueGs ((TL.spl [44, 32] 0 [] u).take (TL.spl [44, 32] 0 [] u).length) = some gs := by
      rw [List.take_length]
      exact eg
    obtain ⟨a, b, d⟩ := dueGs_some _ gs (Nat.le_refl _) eg2
    rw [List.take_length] at a
    have ew : wordsOf u = gs.map fun p => wrd p.1.toNat p.2 := by
      unfold wordsOf
      rw [if_neg c, a]
    have bd : ∀ p ∈ gs, (2 ≤ p.1 ∧ p.1 < 10 ^ 200) ∧ 1 ≤ p.2 ∧ p.2 ≤ 5000000 := fun p hp => by
      obtain ⟨p2, pl, p1, pt⟩ := b p hp
      have mw : wrd p.1.toNat p.2 ∈ wordsOf u := by
        rw [ew]
        exact List.mem_map.mpr ⟨p, hp, rfl⟩
      have z := due_count ok (words_in mw) (dueW_wrd (n := p.1.toNat) (t := p.2) (by omega) pl p1 pt)
      have e1 : ((p.1.toNat : Nat) : Int) = p.1 := Int.toNat_of_nonneg (by omega)
      rw [e1] at z
      exact ⟨⟨p2, z.2.1⟩, p1, by omega⟩
    unfold readR
    rw [ew, nums_shown bd]
    simp only
    have gne : ungrp gs ≠ [] := fun z => by
      rw [z] at d
      have d : gs = [] := d.symm
      rw [d] at a
      exact spl_ne2 _ _ _ _ a
    have es : showL (ungrp gs) = u := by
      unfold showL wrds
      rw [if_neg gne, d, ← a, join_spl (by simp) u.length u [] (Nat.le_refl _)]
      rfl
    rw [if_pos es]
/-- neighbours differ -/
def Adj (gs : List (Int × Nat)) : Prop := ∀ (i : Nat) (p q : Int × Nat), gs[i]? = some p → gs[i + 1]? = some q → p.1 ≠ q.1
theorem adj_step {gs : List (Int × Nat)} {k : Int} (h : Adj gs) : Adj (grpS gs k) := by
  unfold grpS
  cases e : gs.getLast? with
  | none =>
    intro i p q h1 h2
    cases i with
    | zero => cases h2
    | succ i => cases h2
  | some x =>
    obtain ⟨a, c⟩ := x
    have es := last_split e
    simp only
    split
    · rename_i ak
      intro i p q h1 h2
      have l1 : i + 1 < gs.dropLast.length + 1 := by
        have := (List.getElem?_eq_some_iff.mp h2).1
        simpa using this
      have old : ∀ j : Nat, j < gs.dropLast.length → (gs.dropLast ++ [(a, c + 1)])[j]? = gs[j]? := fun j hj => by
        rw [List.getElem?_append_left hj]
        conv => rhs; rw [es, List.getElem?_append_left hj]
      rw [old i (by omega)] at h1
      by_cases lt : i + 1 < gs.dropLast.length
      · rw [old (i + 1) lt] at h2
        exact h i p q h1 h2
      · have ei : i + 1 = gs.dropLast.length := by omega
        rw [List.getElem?_append_right (by omega), ei, Nat.sub_self] at h2
        have eq2 : (a, c + 1) = q := by simpa using h2
        have h3 : gs[i + 1]? = some (a, c) := by
          rw [es, List.getElem?_append_right (by omega), ei, Nat.sub_self]
          rfl
        have := h i p (a, c) h1 h3
        rw [← eq2]
        exact this
    · rename_i ak
      intro i p q h1 h2
      have l1 : i + 1 < gs.length + 1 := by
        have := (List.getElem?_eq_some_iff.mp h2).1
        simpa using this
      rw [List.getElem?_append_left (by omega)] at h1
      by_cases lt : i + 1 < gs.length
      · rw [List.getElem?_append_left lt] at h2
        exact h i p q h1 h2
      · have ei : i + 1 = gs.length := by omega
        rw [List.getElem?_append_right (by omega), ei, Nat.sub_self] at h2
        have eq2 : (k, 1) = q := by simpa using h2
        have ep : p = (a, c) := by
          have z : gs[gs.length - 1]? = some (a, c) := by
            rw [List.getLast?_eq_getElem?] at e
            exact e
          rw [show gs.length - 1 = i by omega, h1] at z
          exact Option.some.inj z
        rw [ep, ← eq2]
        exact ak
theorem adj_grp (ns : List Int) : Adj (grp ns) := by
  have : ∀ (ns : List Int) (acc : List (Int × Nat)), Adj acc → Adj (ns.foldl grpS acc) := by
    intro ns
    induction ns with
    | nil => exact fun acc h => h
    | cons k r ih => exact fun acc h => ih _ (adj_step h)
  exact this ns [] fun i p q h1 _ => by simp at h1
theorem dueGs_adj {gs : List (Int × Nat)} (hb : ∀ p ∈ gs, 2 ≤ p.1 ∧ (TL.numL p.1.toNat).length ≤ 200 ∧ 1 ≤ p.2 ∧ (TL.numL p.2).length ≤ 200) (ha : Adj gs) : ∀ i : Nat, i ≤ gs.length → dueGs ((gs.map fun p => wrd p.1.toNat p.2).take i) = some (gs.take i)
  | 0, _ => rfl
  | i + 1, hi => by
    have ih := dueGs_adj hb ha i (by omega)
    have ei : gs[i]? = some gs[i] := List.getElem?_eq_getElem (by omega)
    have ew : (gs.map fun p => wrd p.1.toNat p.2)[i]? = some (wrd gs[i].1.toNat gs[i].2) := by
      rw [List.getElem?_map, ei]
      rfl
    obtain ⟨p2, pl, p1, pt⟩ := hb gs[i] (List.getElem_mem _)
    rw [dueGs_take ew, ih]
    unfold stepG
    simp only
    rw [dueW_wrd (by omega) pl p1 pt]
    simp only
    have ep : ((gs[i].1.toNat : Nat) : Int) = gs[i].1 := Int.toNat_of_nonneg (by omega)
    rw [ep, if_neg, List.take_add_one, ei]
    · rfl
    · intro z
      cases i with
      | zero => simp at z
      | succ j =>
        have ej : gs[j]? = some gs[j] := List.getElem?_eq_getElem (by omega)
        have el : (gs.take (j + 1)).getLast? = some gs[j] := by
          rw [List.getLast?_eq_getElem?, List.length_take, show min (j + 1) gs.length - 1 = j by omega, List.getElem?_take_of_lt (by omega)]
          exact ej
        rw [el] at z
        have z : some gs[j].1 = some gs[j + 1].1 := z
        exact ha j _ _ ej ei (Option.some.inj z)
theorem read_due {u : List Nat} (ok : RdOk u) {ns : List Int} (h : readR u = some ns) : dueR u = some ns := by
  obtain ⟨nw, es⟩ := readR_nice ok h
  unfold dueR
  by_cases c : ns = []
  · subst c
    have : u = noneL := es.symm
    rw [if_pos this]
  · have nu : u ≠ noneL := fun z => show_ne c (es.trans z)
    rw [if_neg nu, ← es, spl_show c]
    have bd : ∀ p ∈ grp ns, 2 ≤ p.1 ∧ (TL.numL p.1.toNat).length ≤ 200 ∧ 1 ≤ p.2 ∧ (TL.numL p.2).length ≤ 200 := fun p hp => by
      obtain ⟨a, b, d⟩ := nw.grp p hp
      exact ⟨a.1, num_len (by omega) a.2, b, Nat.le_trans (num_len7 d) (by decide)⟩
    have z := dueGs_adj bd (adj_grp ns) (grp ns).length (Nat.le_refl _)
    rw [List.take_length, List.take_of_length_le (by rw [List.length_map]; exact Nat.le_refl _)] at z
    unfold wrds
    rw [z]
    show some (ungrp (grp ns)) = some ns
    rw [ungrp_grp]
theorem due_eq {u : List Nat} (ok : RdOk u) : dueR u = readR u := by
  cases h : readR u with
  | some ns => exact read_due ok h
  | none =>
    cases d : dueR u with
    | none => rfl
    | some ns =>
      rw [due_read ok d] at h
      cases h
end Sq


set_option Elab.async false
set_option maxRecDepth 100000
set_option maxHeartbeats 4000000
namespace Sq
open PySem PySem.Spec PyProof.Rows L2
/-! ## isinstance of a kept exception, with a tuple of classes -/
def rIsXT (K : PySem.W.Frag) : List V → Hp → VK → Prop := fun xs H Q => ∃ (a C : Addr) (fs : List (Str × V)) (tp : Addr) (cs : List V) (ws : List Value) (b : Bool), xs = [.ref a, .ref tp] ∧ Kept H a C fs ∧ ExcC K C ∧ H tp = some (.tup cs) ∧ Paired ClsV cs ws ∧ PySem.W.kitAny K (.ref C) ws = some b ∧ Q (.bl b) H
theorem call_isXT {X : Cx} {K : PySem.W.Frag} (h : X.K = K := by rfl) : CallR X (.builtin "isinstance") (rIsXT K) := by
  subst h
  intro pins s σ H xs us Q I r h
  obtain ⟨a, C, fs, tp, cs, ws, b, rfl, k, EC, hT, hc, e, q⟩ := h
  obtain ⟨oe, od, d, mA, J, _⟩ := kept_at I k
  obtain ⟨u0, u1, rfl, r0, r1⟩ := vals2 r
  obtain rfl : u0 = Value.ref a := r0
  obtain rfl : u1 = Value.ref tp := r1
  obtain ⟨_, its, rv, o, h1, h2, n, h3⟩ := (show ObjOk X.prog X.w H s.heap tp (.tup cs) from I.hok tp _ hT)
  have e3 := ClsV.all hc rv
  subst e3
  obtain ⟨oc, od2, dt, sl⟩ := o
  simp only at h2 h3
  subst h2 h3
  obtain ⟨cd, hcd, _⟩ := PySem.W.any_some EC.hd
  exact PySem.W.kia_tup (PySem.W.kitx_exc (by rw [hcd]; rfl) EC.hg EC.hk EC.hs EC.ha EC.hn EC.ht EC.hm) I.kIn J h1 e (fun z => nomatch z) fun tk => ⟨.bl b, H, I.kept (t' := tk) fun _ _ z => z, rfl, q⟩
/-! ## a def that may raise, called by place and by keywords -/
structure Def2X (P : Program) (w : World) (K : PySem.W.Frag) (mg : Str → Option Value) (base : Heap) (k : Nat) (x : Str) (st : Stmt) (ps : List Str) (sp : Sp) : Prop where
  ex : ∃ (f : Addr) (fd : FuncData), Fun K x x st f fd ∧ mg x = some (.ref f) ∧ Binds K fd ps [] ∧ FnOk P w K mg base (L2.CX P w) k f fd ps sp
section
variable {P : Program} {w : World} {K : PySem.W.Frag} {mg : Str → Option Value} {base : Heap} {x : Str} {st : Stmt} {ps N : List Str} {k : Nat} {sp sp' : Sp}
theorem DefAt.twoX (D : DefAt K mg x st ps) (S : FnScope N ps (defScope st)) (len : ∀ vs H Q E, sp vs H Q E → vs.length = ps.length)
    (hb : ∀ (f : Addr) (cdv : Value) (A : Around) (outer : List Env) (s : Shared) (H : Hp) (vs : List V) (Q : VK) (E : XK), Room k (A.deeper (envOfC x (defScope st) s.heap.objs.size f cdv)) → sp vs H Q E →
      (Takes (cxOf (L2.CX P w) P w K mg base N x (defScope st) f cdv A outer s H E) fun cls d _ G => E cls d G) →
      ∃ t, PSs (cxOf (L2.CX P w) P w K mg base N x (defScope st) f cdv A outer s H E) (defBody st) t ∧ t { nx := fun _ H' => Q .non H', rt := Q } (start N vs) H) : Def2X P w K mg base (k + 1) x st ps sp := by
  obtain ⟨f, fd, F, hm, b⟩ := D.ex
  exact ⟨f, fd, F, hm, b, F.okX S len fun cdv A outer s H vs Q E hr hsp => hb f cdv A outer s H vs Q E hr hsp (takes_of rfl rfl rfl rfl)⟩
theorem Def2X.calX (D : Def2X P w K mg base k x st ps sp) : CalX P w K mg base k x sp := by
  obtain ⟨f, fd, F, hm, b, ok⟩ := D.ex
  exact ⟨f, fd, ps, ok, hm, F.kp, b⟩
theorem Def2X.calm (D : Def2X P w K mg base k x st ps sp) (h : ∀ vs H Q E, sp' vs H Q E → sp vs H Q E0) : Def2 P w K mg base k x st ps sp' := by
  obtain ⟨f, fd, F, hm, b, ok⟩ := D.ex
  exact ⟨f, fd, F, hm, b, fn_calm ok h⟩
end
end Sq


set_option Elab.async false
set_option maxRecDepth 100000
set_option maxHeartbeats 4000000
namespace Sq
open PySem PySem.Spec PyProof.Rows L2
/-! ## a def called by keywords alone that may raise -/
structure CalKX (P : Program) (w : World) (K : PySem.W.Frag) (mg : Str → Option Value) (base : Heap) (k : Nat) (x : Str) (ks : List Str) (sp : Sp) : Prop where
  ex : ∃ (f : Addr) (fd : FuncData) (ps : List Str) (spf : Sp) (g : List Value → List Value → List Value) (gV : List V → List V → List V),
    FnOk P w K mg base (L2.CX P w) k f fd ps spf ∧ mg x = some (.ref f) ∧ PySem.W.keepIn K (.ref f) = true ∧ KBn K fd ps 0 ks g gV ∧ ∀ zs H Q E, sp zs H Q E → zs.length = ks.length ∧ spf (gV [] zs) H Q E
def tCkX (sp : Sp) (E : L2.St → XK) (tk : TA) : TE := fun σ H Q => tk σ H fun zs H1 => sp zs H1 Q (E σ)
section
variable {X : Cx} {W : WX} {k j : Nat} {x : Str} {ks : List Str} {sp : Sp} {p pos : Pos} {kws : List Keyword} {t : TA}
theorem pe_ckx (c : CalKX X.prog X.w X.K X.mg X.base k x ks sp) (hr : Room j X.A) (hk : k ≤ j) (tk : Takes X W) (hg : Gl X x) (hkw : PK X kws t)
    (hall : (backToKw pos (keywordEach kws X.env)).all (·.1.isSome) = true := by rfl) (hks : (backToKw pos (keywordEach kws X.env)).filterMap (·.1) = ks := by rfl) (hdb : (x == ("__debug__" : Str)) = false := by decide)
    (hpl : ((backTo pos (starEach [] X.env)).any (·.1) || (backToKw pos (keywordEach kws X.env)).any (·.1.isNone)) = false := by rfl) : PE X (.Call (.Name x p) [] kws pos) (tCkX sp (WE W) t) := by
  obtain ⟨f, fd, ps, spf, g, gV, F, hm, kp, hb, hs⟩ := c.ex
  refine ⟨fun pins s σ H Q I h => wpAny_Call_Name_kw (ld_glob I hg hm ?_ hdb)⟩
  refine PySem.W.callWith_KW0 (first := []) (h₀ := X.base) I.ok.mod.kin kp hall (thn (hkw.run pos pins s σ H _ I h) fun ws s1 hx => ?_) hpl
  obtain ⟨zs, H1, I1, rz, q⟩ := hx
  obtain ⟨lz, q3⟩ := hs _ _ _ _ q
  refine ⟨I1.kIn, ?_⟩
  rw [hks]
  refine wpAny_call (codeAny_mono (F.run X.A X.stack s1 H1 ⟨[], ks.zip ws⟩ (g [] ws) (gV [] zs) Q (WE W σ) (hr.mono hk) I1.env0 (hb.to s1 [] ws I1.kIn rfl (rz.length.symm.trans lz)) (hb.rel .nil rz) q3) fun r s3 hq => ?_)
  cases r with
  | error er => exact passAt tk σ pins H1 s1 er s3 I1 hq
  | ok fl =>
    cases fl with
    | ret u => exact I1.after hq
    | next => exact False.elim hq
    | brk => exact False.elim hq
    | cont => exact False.elim hq
end
section
variable {P : Program} {w : World} {K : PySem.W.Frag} {mg : Str → Option Value} {base : Heap} {x : Str} {st : Stmt} {ps ks : List Str} {k : Nat} {sp sp' : Sp}
theorem Def2X.calKX (D : Def2X P w K mg base k x st ps sp) (g : {α : Type} → List α → List α) (hg : ∀ {vs : List V} {us : List Value}, Vals vs us → Vals (g vs) (g us))
    (h : ∀ (kV doc pm : Value) (an : Option Addr) (cdv ct : Value) (ws : List Value), ws.length = ks.length →
      bindArgs (PySem.W.fnOf x x (defArgs st) (defBody st) (defScope st) .none kV doc pm an cdv ct) ⟨[], ks.zip ws⟩ = pure (ps.zip (g ws))) (hs : ∀ zs H Q E, sp' zs H Q E → zs.length = ks.length ∧ sp (g zs) H Q E) : CalKX P w K mg base k x ks sp' := by
  obtain ⟨f, fd, F, hm, b, ok⟩ := D.ex
  exact ⟨f, fd, ps, sp, _, _, ok, hm, F.kp, kbn_plain F g hg h, hs⟩
end
end Sq


set_option Elab.async false
set_option maxRecDepth 100000
set_option maxHeartbeats 4000000
namespace PySem.HandSPX
open PySem PySem.Spec PySem.W PySem.Calls PyProof.Rows
/-! ## an own exception made by a keyword: C(k = u) -/
section
variable {M : Model} {A : Around} {E : Value → Shared → Prop} {h : Heap} {g : Array GenState} {d : Drawn} {t : Nat} {os : OsState}
variable {nm q : Str} {C N : Addr} {bs bm bmB : List Value} {hdct : Bool} {sn : List Str} {sub : List Value} {ab : Bool} {col : Option Bool} {dd : Option Addr} {k0 k1 k2 k3 k5 : Option Value} {B newId initId : String}
theorem check_newK (F : ExcBaseFacts B newId initId bmB) (hT : ∀ X : String, bm.contains (.type X) = bmB.contains (.type X)) {ky : Str} {u : Value} {Q : Unit → Shared → Prop}
    (hC : h.get? C = some (excClassObj nm q C N bs bm hdct sn sub ab col dd k0 k1 k2 k3 k5 newId)) (hq : Q () ⟨h, g, d, t, os⟩) : wpAny M A (checkBuiltinCall newId ⟨[.ref C], [(ky, u)]⟩) Q E ⟨h, g, d, t, os⟩ := by
  have hcont : (Value.ref C :: bm).contains (.type B) = true := by rw [List.contains_cons, hT, F.hasB, Bool.or_true]
  have hstar := F.noStar
  simp only [checkBuiltinCall, F.newKind, F.newSplit, F.newRow]
  repeat (first | refine wpAny_loadPart_at hC ?_ | (refine wpAny_isSubtype_exc hC ?_; rw [hcont]) | refine wpAny_staticBase_exc hC ?_ | refine wpAny_madeBy_exc hC ?_ | simp only [bne_self_eq_false, Bool.false_eq_true, if_false] | wp_step)
  exact hq
end
section
variable {prog : Program} {w : World} {A : Around} {E : Value → Shared → Prop} {R : Result → Shared → Prop} {h : Heap} {g : Array GenState} {d : Drawn} {t : Nat} {os : OsState}
variable {nm q : Str} {C N : Addr} {bs bm bmB : List Value} {hdct : Bool} {sn : List Str} {sub : List Value} {ab : Bool} {col : Option Bool} {dd : Option Addr} {k0 k1 k2 k3 k5 : Option Value} {B newId initId : String}
theorem newK (F : ExcBaseFacts B newId initId bmB) (hT : ∀ X : String, bm.contains (.type X) = bmB.contains (.type X)) {ky : Str} {u : Value}
    (hC : h.get? C = some (excClassObj nm q C N bs bm hdct sn sub ab col dd k0 k1 k2 k3 k5 newId))
    (hq : R (.ok (.ret (.ref (h.objs.size + 1)))) ⟨(h.push { cls := .type "tuple", data := .seq ([] : List Value).toArray }).push
      { cls := .ref C, data := .fields #[.ref h.objs.size, .none, .none, .none, .bool false, .none] }, g, d, t, os⟩) :
    codeAny (model prog w) A (.builtin newId ⟨[.ref C], [(ky, u)]⟩) R ⟨h, g, d, t, os⟩ := by
  have hends := F.ends
  have hcB : (Value.ref C :: bm).contains (.type B) = true := by rw [List.contains_cons, hT, F.hasB, Bool.or_true]
  have hcA : (Value.ref C :: bm).contains (.type "AttributeError") = false := by rw [List.contains_cons, hT, F.noAttr]; rfl
  have hcN : (Value.ref C :: bm).contains (.type "NameError") = false := by rw [List.contains_cons, hT, F.noName]; rfl
  refine codeAny_builtinAt F.entry ?_
  unfold Builtin.«BaseException.__new__»
  refine wpAt_bind ?_
  show wpAt _ _ _ (stack >>= _) _ _ _
  refine wpAt_bind (wpAt_stack fun p below => wpAt_of_wpAny ?_)
  wp_walk
  refine wpAt_of_wpAny ?_
  rw [F.owner]
  repeat (first | with_reducible refine wpAny_madeHere_exc F.canon hC ?_ | with_reducible refine wpAny_loadPart_at hC ?_ | (with_reducible refine wpAny_isSubtype_exc hC ?_; first | rw [hcB] | rw [hcA] | rw [hcN]) | wp_step)
  show R _ _
  rw [Heap.size_push]
  exact hq
theorem type_callK (F : ExcBaseFacts B newId initId bmB) (hT : ∀ X : String, bm.contains (.type X) = bmB.contains (.type X)) {ky : Str} {u : Value} {fI : Addr} {Q : Fin → Shared → Prop}
    (hC : h.get? C = some (excClassObj nm q C N bs bm hdct sn sub ab col dd k0 k1 k2 k3 k5 newId))
    (hi : W.Looks (model prog w) h (typeLookup (.ref C) "__init__") (some (.ref fI))) (hb : ∀ self, W.Looks (model prog w) h (bindSpecial (.ref fI) self) (.ref fI, [self]))
    (hq : codeAny (model prog w) A (.call (.ref fI) ⟨[.ref (h.objs.size + 1)], [(ky, u)]⟩)
      (fun r s' => match r with | .ok (.ret v) => v = .none ∧ Q (.done (.ret (.ref (h.objs.size + 1)))) s' | .ok _ => False | .error e => E e s')
      ⟨(h.push (W.kdv_tup [])).push (excO C h.objs.size), g, d, t, os⟩) :
    wpAny (model prog w) A (Builtin.«type.__call__» ⟨[.ref C], [(ky, u)]⟩) Q E ⟨h, g, d, t, os⟩ := by
  repeat (first | with_reducible refine wpAny_loadPart_at hC ?_ | with_reducible refine wpAny_madeBy_exc hC ?_ | wp_step)
  refine codeAny_call_builtin_code (Code.quiet_builtin _ F.quiet) (check_newK F hT hC ?_)
  refine newK F hT hC ?_
  show wpAny _ _ _ _ _ _
  have k : ∀ b o, h.get? b = some o → ((h.push (W.kdv_tup [])).push (excO C h.objs.size)).get? b = some o := fun b o e => Heap.get?_push_of_some _ (Heap.get?_push_of_some _ e)
  have hC₁ := k _ _ hC
  have hget : ((h.push (W.kdv_tup [])).push (excO C h.objs.size)).get? (h.objs.size + 1) = some (excO C h.objs.size) := by heap_get
  have hcC : (Value.ref C :: bm).contains (.ref C) = true := by simp
  have i1 := hi.keeps k
  have b1 := (hb (.ref (h.objs.size + 1))).keeps k
  unfold isInstance
  repeat (first | with_reducible refine wpAny_loadPart_at hget ?_ | (with_reducible refine wpAny_isSubtype_exc hC₁ ?_; rw [hcC]) | wp_step)
  show wpAny _ _ (typeLookup (.ref C) _) _ _ _
  refine i1.at ?_
  refine wpAny_holding (wpAny_bind (b1.at ?_))
  refine wpAny_bind (wpAny_call (codeAny_mono hq fun r s' z => ?_))
  rcases r with e | (v | _ | _ | _) <;> first | exact z | exact z.elim | skip
  obtain ⟨rfl, z⟩ := z
  first
    | exact wpAny_pure (wpAny_pure z)
    | (wp_walk; exact z)
theorem call_ownK (F : ExcBaseFacts B newId initId bmB) (hT : ∀ X : String, bm.contains (.type X) = bmB.contains (.type X)) {ky : Str} {u : Value} {fI : Addr}
    (hC : h.get? C = some (excClassObj nm q C N bs bm hdct sn sub ab col dd k0 k1 k2 k3 k5 newId))
    (hi : W.Looks (model prog w) h (typeLookup (.ref C) "__init__") (some (.ref fI))) (hb : ∀ self, W.Looks (model prog w) h (bindSpecial (.ref fI) self) (.ref fI, [self]))
    (hq : codeAny (model prog w) (A.under (.builtin "type.__call__" ⟨[.ref C], [(ky, u)]⟩)) (.call (.ref fI) ⟨[.ref (h.objs.size + 1)], [(ky, u)]⟩) (W.InitBack (h.objs.size + 1) R)
      ⟨(h.push (W.kdv_tup [])).push (excO C h.objs.size), g, d, t, os⟩) :
    codeAny (model prog w) A (.call (.ref C) ⟨[], [(ky, u)]⟩) R ⟨h, g, d, t, os⟩ := by
  have f1 := tc_lookup
  have f2 := tc_bind (.ref C)
  have hTy : (⟨h, g, d, t, os⟩ : Shared).TypeIs (.ref C) "type" := ⟨_, hC, rfl⟩
  refine codeAny_of_tree ?_
  show wpAny _ _ (callAny (.ref C) _) _ _ _
  repeat (any_goals (first | assumption | with_reducible refine wpAny_loadPart_at hC ?_ | wp_step))
  refine ⟨rfl, ?_⟩
  refine codeAny_call_builtin_at (Code.quiet_builtin _ (by decide +kernel)) entry_typeCall (wpAny_check_type_call_sub hC (type_callK F hT hC hi hb ?_))
  refine codeAny_mono hq fun r s' z => ?_
  rcases r with e | (v | _ | _ | _) <;> exact z
end
end PySem.HandSPX

namespace Sq
open PySem PySem.Spec PyProof.Rows L2
/-! ## an own exception as a value: C(e), C(value = e) -/
structure OwnX (P : Program) (w : World) (K : PySem.W.Frag) (mg : Str → Option Value) (base : Heap) (k : Nat) (x : Str) (C : Addr) : Prop where
  ex : ∃ (f : Addr) (fd : FuncData), OexC K C ∧ PySem.W.findIn K (.ref C) "__init__" = some (some (.ref f)) ∧ PySem.W.typeIn K (.ref f) = some (.type "function") ∧ FnOk P w K mg base CX0 k f fd ["self", "value"] (spXI C) ∧ mg x = some (.ref C) ∧ L2.Binds K fd ["self", "value"] [] ∧
    ∀ (s : Shared) (u v : Value), BindsTo s fd ⟨[u], [("value", v)]⟩ ((["self", "value"] : List Str).zip [u, v])
def tOex (C : Addr) (te : TE) : TE := fun σ H Q => te σ H fun v H1 => ∀ a d, H1 a = none → H1 d = none → d ≠ a → Q (.ref a) (upd (upd H1 d (exd d [("value", v)])) a (exo a C (some d)))
theorem xi_sp {C a : Addr} {v : V} {H : Hp} {Q : VK} {E : XK} (na : H a = none) (q : ∀ a d, H a = none → H d = none → d ≠ a → Q (.ref a) (upd (upd H d (exd d [("value", v)])) a (exo a C (some d)))) :
    spXI C [.ref a, v] (upd H a (exo a C none)) (fun x H2 => x = .non ∧ Q (.ref a) H2) E := by
  refine ⟨a, v, rfl, upd_same, fun dx nd ne => ⟨rfl, ?_⟩⟩
  rw [upd_ne ne] at nd
  have e : upd (upd (upd H a (exo a C none)) dx (exd dx [("value", v)])) a (exo a C (some dx)) = upd (upd H dx (exd dx [("value", v)])) a (exo a C (some dx)) := by
    funext b
    by_cases h1 : b = a
    · rw [h1, upd_same, upd_same]
    · rw [upd_ne h1, upd_ne h1]
      by_cases h2 : b = dx
      · rw [h2, upd_same, upd_same]
      · rw [upd_ne h2, upd_ne h2, upd_ne h1]
  rw [e]
  exact q a dx na nd ne
section
variable {X : Cx} {k j : Nat} {C : Addr} {x : Str} {p pos : Pos} {e : Expr} {te : TE} {kws : List Keyword} {t : TA}
theorem pe_oex (c : OwnX X.prog X.w X.K X.mg X.base k x C) (hr : Room j X.A) (hk : k + 1 ≤ j) (hg : Gl X x) (ha : PE X e te)
    (hdb : (x == ("__debug__" : Str)) = false := by decide) (he : starEach [e] X.env = (false, eval e X.env) :: starEach [] X.env := by rfl) (hpl : (backTo pos (starEach [] X.env)).any (·.1) = false := by rfl) : PE X (.Call (.Name x p) [e] [] pos) (tOex C te) := by
  obtain ⟨f, fd, T, iC, tI, FO, hm, b, bk⟩ := c.ex
  obtain ⟨nm, q, N, bs, bm, sn, sub, ab, col, dd, k0, k1, k2, k3, k5, hC, hbm⟩ := T.cls
  refine ⟨fun pins s σ H Q I h => wpAny_Call_Name_kw (ld_glob I hg hm ?_ hdb)⟩
  have pa : PA X [e] (tCons (tWk te) tNil) := pa_cons (pe_wk ha) pa_nil he
  refine PySem.W.callWith_K (h₀ := X.base) I.ok.mod.kin T.kC (thn (pa.run pos pins s σ H (fun vs H1 => ∃ v, vs = [v] ∧ ∀ a d, H1 a = none → H1 d = none → d ≠ a → Q (.ref a) (upd (upd H1 d (exd d [("value", v)])) a (exo a C (some d)))) I ⟨_, h, fun v G q => ⟨v, rfl, q⟩⟩) fun us s1 hh => ?_) he hpl
  obtain ⟨vs, H1, I1, r1, v, rfl, q1⟩ := hh
  obtain ⟨u, rfl, ru⟩ := r1.one
  refine ⟨I1.kIn, ?_⟩
  show wpAny _ _ (call (.ref C) [u]) _ _ _
  obtain ⟨hp, g, dr, tk, os⟩ := s1
  have hsz : hp.objs.size ≤ hp.objs.size + 1 := Nat.le_succ _
  have hn : H1 (hp.objs.size + 1) = none := I1.hok.fresh hsz
  have kk : ∀ b o, hp.get? b = some o → ((hp.push (PySem.W.kdv_tup [u])).push (PySem.HandSPX.excO C hp.objs.size)).get? b = some o := fun b o e => Heap.get?_push_of_some _ (Heap.get?_push_of_some _ e)
  have hget : ((hp.push (PySem.W.kdv_tup [u])).push (PySem.HandSPX.excO C hp.objs.size)).get? (hp.objs.size + 1) = some (PySem.HandSPX.excO C hp.objs.size) := by heap_get
  have I2 : Inv X pins σ (upd H1 (hp.objs.size + 1) (exo (hp.objs.size + 1) C none)) ⟨(hp.push (PySem.W.kdv_tup [u])).push (PySem.HandSPX.excO C hp.objs.size), g, dr, tk, os⟩ :=
    I1.laid (t' := tk) (a := hp.objs.size + 1) (o := exo (hp.objs.size + 1) C none) (h' := (hp.push (PySem.W.kdv_tup [u])).push (PySem.HandSPX.excO C hp.objs.size)) kk hsz (exo_ok hget)
  have r2 : Vals [V.ref (hp.objs.size + 1), v] [Value.ref (hp.objs.size + 1), u] := .cons rfl (.cons ru .nil)
  have hq := xi_sp (E := E0) hn q1
  have bb := b _ [Value.ref (hp.objs.size + 1), u] I2.kIn rfl
  refine wpAny_call (PySem.HandSPX.call_own F.excBase_ValueError (fun Y => PySem.HandSPX.refsVE_contains Y bm hbm) (I1.kIn _ _ hC) (PySem.W.looks_findIn I1.kIn iC) (fun self => PySem.W.bind_fn I1.kIn self tI) (lit_len (Nat.le_of_ble_eq_true rfl))
    (codeAny_mono (FO.run _ X.stack _ _ ⟨[Value.ref (hp.objs.size + 1), u], []⟩ [Value.ref (hp.objs.size + 1), u] _ _ E0 ((hr.mono hk).make C [u] []) (I2.env0.make C [u] []) bb r2 hq) fun r s' hq' => ?_))
  cases r with
  | error er => exact False.elim hq'
  | ok fl =>
    cases fl with
    | ret u =>
      obtain ⟨v, H', I3, rv, ev, q3⟩ := I2.after hq'
      subst ev
      exact ⟨rv, ⟨V.ref (hp.objs.size + 1), H', I3, rfl, q3⟩⟩
    | next => exact False.elim hq'
    | brk => exact False.elim hq'
    | cont => exact False.elim hq'
theorem pe_oexK {kpos : Pos} (c : OwnX X.prog X.w X.K X.mg X.base k x C) (hr : Room j X.A) (hk : k + 1 ≤ j) (hg : Gl X x) (ha : PE X e te)
    (hall : (backToKw pos (keywordEach [⟨some "value", e, kpos⟩] X.env)).all (·.1.isSome) = true := by rfl) (hks : (backToKw pos (keywordEach [⟨some "value", e, kpos⟩] X.env)).filterMap (·.1) = (["value"] : List Str) := by rfl) (hdb : (x == ("__debug__" : Str)) = false := by decide)
    (hpl : ((backTo pos (starEach [] X.env)).any (·.1) || (backToKw pos (keywordEach [⟨some "value", e, kpos⟩] X.env)).any (·.1.isNone)) = false := by rfl) : PE X (.Call (.Name x p) [] [⟨some "value", e, kpos⟩] pos) (tOex C te) := by
  obtain ⟨f, fd, T, iC, tI, FO, hm, b, bk⟩ := c.ex
  obtain ⟨nm, q, N, bs, bm, sn, sub, ab, col, dd, k0, k1, k2, k3, k5, hC, hbm⟩ := T.cls
  have pk : PK X [⟨some "value", e, kpos⟩] (tCons (tWk te) tNil) := pk_cons (pe_wk ha) pk_nil
  refine ⟨fun pins s σ H Q I h => wpAny_Call_Name_kw (ld_glob I hg hm (PySem.W.callWith_KW0 (h₀ := X.base) I.ok.mod.kin T.kC hall (thn (pk.run pos pins s σ H (fun vs H1 => ∃ v, vs = [v] ∧ ∀ a d, H1 a = none → H1 d = none → d ≠ a → Q (.ref a) (upd (upd H1 d (exd d [("value", v)])) a (exo a C (some d)))) I ⟨_, h, fun v G q => ⟨v, rfl, q⟩⟩) fun us s1 hh => ?_) hpl) hdb)⟩
  obtain ⟨vs, H1, I1, r1, v, rfl, q1⟩ := hh
  obtain ⟨u, rfl, ru⟩ := r1.one
  refine ⟨I1.kIn, ?_⟩
  rw [hks]
  show wpAny _ _ (call (.ref C) [] [("value", u)]) _ _ _
  obtain ⟨hp, g, dr, tk, os⟩ := s1
  have hsz : hp.objs.size ≤ hp.objs.size + 1 := Nat.le_succ _
  have hn : H1 (hp.objs.size + 1) = none := I1.hok.fresh hsz
  have kk : ∀ b o, hp.get? b = some o → ((hp.push (PySem.W.kdv_tup [])).push (PySem.HandSPX.excO C hp.objs.size)).get? b = some o := fun b o e => Heap.get?_push_of_some _ (Heap.get?_push_of_some _ e)
  have hget : ((hp.push (PySem.W.kdv_tup [])).push (PySem.HandSPX.excO C hp.objs.size)).get? (hp.objs.size + 1) = some (PySem.HandSPX.excO C hp.objs.size) := by heap_get
  have I2 : Inv X pins σ (upd H1 (hp.objs.size + 1) (exo (hp.objs.size + 1) C none)) ⟨(hp.push (PySem.W.kdv_tup [])).push (PySem.HandSPX.excO C hp.objs.size), g, dr, tk, os⟩ :=
    I1.laid (t' := tk) (a := hp.objs.size + 1) (o := exo (hp.objs.size + 1) C none) (h' := (hp.push (PySem.W.kdv_tup [])).push (PySem.HandSPX.excO C hp.objs.size)) kk hsz (exo_ok hget)
  have r2 : Vals [V.ref (hp.objs.size + 1), v] [Value.ref (hp.objs.size + 1), u] := .cons rfl (.cons ru .nil)
  have hq := xi_sp (E := E0) hn q1
  refine wpAny_call (PySem.HandSPX.call_ownK F.excBase_ValueError (fun Y => PySem.HandSPX.refsVE_contains Y bm hbm) (I1.kIn _ _ hC) (PySem.W.looks_findIn I1.kIn iC) (fun self => PySem.W.bind_fn I1.kIn self tI)
    (codeAny_mono (FO.run _ X.stack _ _ ⟨[Value.ref (hp.objs.size + 1)], [("value", u)]⟩ [Value.ref (hp.objs.size + 1), u] _ _ E0 ((hr.mono hk).make C [] [("value", u)]) (I2.env0.make C [] [("value", u)]) (bk _ _ _) r2 hq) fun r s' hq' => ?_))
  cases r with
  | error er => exact False.elim hq'
  | ok fl =>
    cases fl with
    | ret u =>
      obtain ⟨v, H', I3, rv, ev, q3⟩ := I2.after hq'
      subst ev
      exact ⟨rv, ⟨V.ref (hp.objs.size + 1), H', I3, rfl, q3⟩⟩
    | next => exact False.elim hq'
    | brk => exact False.elim hq'
    | cont => exact False.elim hq'
end
theorem kept_own {H : Hp} {a C d : Addr} {v : V} (na : H a = none) (nd : H d = none) (ne : d ≠ a) : Kept (upd (upd H d (exd d [("value", v)])) a (exo a C (some d))) a C [("value", v)] := ⟨d, .inr ⟨upd_same, upd_off ne upd_same⟩⟩
theorem own_mk {P : Program} {w : World} {K : PySem.W.Frag} {h base : Heap} {mg : Str → Option Value} {x : Str} {C f cc cda N : Addr} {nm q qual m file : Str} {bs bm sub : List Value} {sn : List Str} {ab : Bool} {col : Option Bool} {dd cld cdd od an : Option Addr} {k0 k1 k2 k3 k5 : Option Value}
    {cl ccl oc kV doc pm ct : Value} {csl ccs osl : Array (Option Value)} {cvs : Array Value} {tf : Tok} {p0 p1 p2 p3 p4 p5 p6 p7 p8 p9 q0 q1 : Pos} (X : K.In h) (G : h.Ns mainGlobals mg) (hm : mg x = some (.ref C))
    (lC : K.lookup C = some (excClassObj nm q C N bs bm true sn sub ab col dd k0 k1 k2 k3 k5 "ValueError.__new__")) (rC : PySem.HandSPX.refsVE bm = true) (sa : PySem.W.findIn K (.ref C) "__setattr__" = some (some (.builtin "object.__setattr__")))
    (ex : PySem.W.subIn K (.ref C) (.type "BaseException") = some true) (ty : PySem.W.typeIn K (.ref C) = some (.type "type")) (kc : PySem.W.keepIn K (.ref C) = true)
    (ini : PySem.W.findIn K (.ref C) "__init__" = some (some (.ref f))) (tyf : PySem.W.typeIn K (.ref f) = some (.type "function"))
    (l : K.lookup f = some ⟨oc, od, .func (PySem.W.ksFn "__init__" qual (xiArgs q0 q1) (xiBody m p0 p1 p2 p3 p4 p5 p6 p7 p8 p9) xiScope .none kV doc pm an (.ref cda) ct cc), osl⟩)
    (co : PySem.W.codeIn K (.ref cda) qual = true) (cell : K.lookup cc = some ⟨cl, cld, .cell (some (.ref C)), csl⟩) (rec_ : K.lookup cda = some ⟨ccl, cdd, .fields cvs, ccs⟩) (v2 : cvs[2]? = some (.str file tf)) (fl : ((P.main.file : Str) == file) = true)
    (top : (P.main.scope.names.lookup ("super" : Str)).isSome = false) (opq : PySem.W.nsIn K PySem.cStatics "thirdparty.any" = some none) (sup : PySem.W.ks_superIn K C C "__init__" = some (some (.builtin "ValueError.__init__"))) (veb : PySem.W.subIn K (.ref C) (.type "ValueError") = some true)
    (slf : PySem.W.mroIn K C (.ref C) = some true) (val : PySem.W.findIn K (.ref C) "value" = some none) (ms : PySem.W.nsIn K mainGlobals "super" = some none) (he : XiCall qual f cc cda m p0 p1 p2 p3 p4)
    (hb : ∀ us : List Value, us.length = 2 → bindArgs (PySem.W.ksFn "__init__" qual (xiArgs q0 q1) (xiBody m p0 p1 p2 p3 p4 p5 p6 p7 p8 p9) xiScope .none kV doc pm an (.ref cda) ct cc) ⟨us, []⟩ = pure ((["self", "value"] : List Str).zip us))
    (hbk : ∀ u v : Value, bindArgs (PySem.W.ksFn "__init__" qual (xiArgs q0 q1) (xiBody m p0 p1 p2 p3 p4 p5 p6 p7 p8 p9) xiScope .none kV doc pm an (.ref cda) ct cc) ⟨[u], [("value", v)]⟩ = pure ((["self", "value"] : List Str).zip [u, v])) : OwnX P w K mg base 1 x C :=
  ⟨f, _, ⟨⟨nm, q, N, bs, bm, sn, sub, ab, col, dd, k0, k1, k2, k3, k5, lC, rC⟩, sa, ex, ty, kc⟩, ini, tyf,
    ok_xi ⟨⟨nm, q, N, bs, bm, sn, sub, ab, col, dd, k0, k1, k2, k3, k5, lC, rC⟩, sa, ex, ty, kc⟩ ⟨co, ⟨cl, cld, csl, cell⟩, ⟨ccl, cdd, cvs, ccs, tf, rec_, v2⟩, fl, top, opq, sup, veb, slf, val⟩ l (PySem.W.mg_none_of X G ms) he, hm, L2.Binds.all hb, fun _ u v => .of_eq (hbk u v)⟩
/-! ## repr of any plain value -/
@[irreducible] def rReprV (K : PySem.W.Frag) : List V → Hp → VK → Prop := fun xs H Q => ∃ (x : V) (d : PyData), xs = [x] ∧ Dp K H x d ∧ d.showable = true ∧ d.hasDict = false ∧ d.depth ≤ 30 ∧ d.shown.length ≤ sizeLine ∧ Q (.str d.shown) H
theorem call_reprVK {X : Cx} {K : PySem.W.Frag} (hG : X.A.guards = some []) (hu : X.A.units + 64 < cLine) (h : X.K = K := by rfl) : CallR X (.builtin "repr") (rReprV K) := by
  subst h
  intro pins s σ H xs us Q I r h
  unfold rReprV at h
  obtain ⟨x, d, rfl, hd, hs, hn, hdp, hz, q⟩ := h
  obtain ⟨v, rfl, rv⟩ := vals1 r
  have ref : ∀ a : Addr, x = .ref a → wpAny (model X.prog X.w) X.A (call (.builtin "repr") [v]) (EP X pins σ Q) X.xe s := fun a e => by
    subst e
    cases rv
    obtain ⟨as, rd⟩ := Dp.reads I d _ _ hd rfl
    refine repr_of_reads' rd hs (PyData.noDict_hsm hn) hG (by omega) (fun b o e => e) (fun h' t tk hk => ?_) hz
    exact ⟨.str d.shown, H, I.kept hk, ⟨_, rfl⟩, q⟩
  cases hd with
  | non =>
    cases rv
    simp only [PyData.shown] at q
    exact PySem.P.repr_of_none ⟨.str _, H, I.tok _, ⟨_, rfl⟩, q⟩
  | bl b =>
    cases rv
    simp only [PyData.shown] at q
    exact PySem.P.repr_of_bool ⟨.str _, H, I.tok _, ⟨_, rfl⟩, q⟩
  | int i =>
    obtain ⟨t, rfl⟩ := rv
    simp only [PyData.shown] at q
    exact PySem.P.repr_of_int (by simpa [PyData.showable] using hs) ⟨.str _, H, I.tok _, ⟨_, rfl⟩, q⟩
  | str a =>
    obtain ⟨t, rfl⟩ := rv
    simp only [PyData.shown] at q hz
    exact PySem.P.repr_of_str ⟨.str _, H, I.tok _, ⟨_, rfl⟩, q⟩ hz
  | lst h1 h2 => exact ref _ rfl
  | tup h1 h2 => exact ref _ rfl
theorem rReprV_of {K : PySem.W.Frag} {H : Hp} {x : V} {d : PyData} {Q : VK} (hd : Dp K H x d) (h1 : d.showable = true) (h2 : d.hasDict = false) (h3 : d.depth ≤ 30) (h4 : d.shown.length ≤ sizeLine) (q : Q (.str d.shown) H) : rReprV K [x] H Q := by
  unfold rReprV
  exact ⟨x, d, rfl, hd, h1, h2, h3, h4, q⟩
/-! ## text * number -/
def rRepS : R2 := fun x y H Q => ∃ (a : Str) (n : Int), x = .str a ∧ y = .int n ∧ MulOk a n ∧ Q (.str (Txt.mul a n)) H
theorem op_rep_str {X : Cx} : OpR X (binaryOp .Mult) rRepS := by
  intro pins s σ H x y v u Q I r1 r2 h
  obtain ⟨a, n, rfl, rfl, hm, q⟩ := h
  obtain ⟨t, rfl⟩ := r1
  obtain ⟨t', rfl⟩ := r2
  exact SB.mul hm fun t2 k => ⟨.str _, H, I.tok _, ⟨_, rfl⟩, q⟩
/-- a list of ints shown -/
theorem r_reprVI {K : PySem.W.Frag} {H : Hp} {a : Addr} {ns : List Int} {Q : VK} (h1 : SqL K H a (iv ns)) (hl : ns.length ≤ 5000) (hz : ∀ n ∈ ns, n.natAbs.log2 < 1920) (q : Q (.str (dI ns).shown) H) : rReprV K [.ref a] H Q := by
  refine rReprV_of (dp_iv h1) ?_ ?_ ?_ ?_ q
  · simp only [dI, PyData.showable]
    exact show_ints ns hz
  · simp only [dI, PyData.hasDict]
    exact nod_ints ns
  · simp only [dI, PyData.depth, dep_ints]
    decide
  · obtain ⟨e1, e2⟩ := shown_ints_len ns hz
    have e3 := listText_len_le (PyData.shownAll (ns.map .int))
    simp only [dI, PyData.shown]
    rw [sizeLine_eq]
    omega
theorem short_of {d : PyData} (h1 : d.leavesShort 2000 = true) (h2 : d.bulk ≤ 8000) : d.shown.length ≤ sizeLine := by
  have := PyData.shown_le_bulk 2000 (by decide) d h1
  have : (2000 + 2) * d.bulk ≤ (2000 + 2) * 8000 := Nat.mul_le_mul_left _ h2
  rw [sizeLine_eq]
  omega
/-- two texts -/
def dT2 (a b : List Nat) : PyData := .list [.str (SX.S a), .str (SX.S b)]
theorem short_str {a : List Nat} (h : ∀ c ∈ a, c < 16 ^ 8) : (PyData.str (SX.S a)).leavesShort 2000 = true := by
  simp only [PyData.leavesShort, List.all_eq_true, decide_eq_true_eq]
  exact h
theorem r_reprT2 {K : PySem.W.Frag} {H : Hp} {p : Addr} {a b : List Nat} {Q : VK} (h1 : H p = some (.lst [.str (SX.S a), .str (SX.S b)])) (ha : ∀ c ∈ a, c < 16 ^ 8) (hb : ∀ c ∈ b, c < 16 ^ 8) (la : a.length ≤ 3000) (lb : b.length ≤ 3000) (q : Q (.str (dT2 a b).shown) H) : rReprV K [.ref p] H Q := by
  refine rReprV_of (.lst (seqL_of h1) (.cons (.str _) (.cons (.str _) .nil))) ?_ ?_ ?_ ?_ q
  · simp [PyData.showable, PyData.showableAll]
  · simp [PyData.hasDict, PyData.hasDictAll]
  · simp [PyData.depth, PyData.depthAll]
  · refine short_of ?_ ?_
    · simp only [PyData.leavesShort, PyData.leavesShortAll, Bool.and_true, Bool.and_eq_true]
      exact ⟨by simpa [PyData.leavesShort] using short_str ha, by simpa [PyData.leavesShort] using short_str hb⟩
    · simp only [PyData.bulk, PyData.bulkAll]
      have e1 : a.toArray.size = a.length := SX.S_len a
      have e2 : b.toArray.size = b.length := SX.S_len b
      omega
end Sq


set_option Elab.async false
set_option maxRecDepth 100000
set_option maxHeartbeats 4000000
namespace Sq
open PySem PySem.Spec PyProof.Rows L2
/-! ## a stop behind a statement: its ways meet there, the rest is shown once -/
@[irreducible] def tCut (a b : TS) : TS := tSeq a b
theorem pss_cut {X : Cx} {st : Stmt} {rest : List Stmt} {a b : TS} (h1 : PS X st a) (h2 : PSs X rest b) : PSs X (st :: rest) (tCut a b) := by
  unfold tCut
  exact pss_cons h1 h2
theorem cut_at {a b : TS} {D : Ends} {σ : L2.St} {H : Hp} (P : L2.St → Hp → Prop) (h1 : ∀ N : L2.St → Hp → Prop, (∀ σ' H', P σ' H' → N σ' H') → a { D with nx := N } σ H) (h2 : ∀ σ' H', P σ' H' → b D σ' H') : tCut a b D σ H := by
  unfold tCut
  exact h1 _ h2
end Sq


set_option Elab.async false
set_option maxRecDepth 100000
set_option maxHeartbeats 4000000
namespace Sq
open PySem PySem.Spec PyProof.Rows L2
/-! ## the text of a list read: how long it is -/
def shN (ns : List Int) : Nat := ((PyData.shownAll (ns.map .int)).map (·.length)).sum + 2 * ns.length
theorem shN_cons (n : Int) (r : List Int) : shN (n :: r) = (PyData.shown (.int n)).length + 2 + shN r := by
  unfold shN
  simp only [List.map_cons, PyData.shownAll, List.sum_cons, List.length_cons]
  omega
theorem shN_app : ∀ a b : List Int, shN (a ++ b) = shN a + shN b
  | [], b => by
    have : shN [] = 0 := rfl
    rw [List.nil_append, this, Nat.zero_add]
  | n :: r, b => by
    rw [List.cons_append, shN_cons, shN_cons, shN_app r b]
    omega
theorem shN_rep (n : Int) : ∀ t : Nat, shN (List.replicate t n) = t * ((PyData.shown (.int n)).length + 2)
  | 0 => by
    rw [Nat.zero_mul]
    rfl
  | t + 1 => by
    rw [List.replicate_succ, shN_cons, shN_rep n t, Nat.succ_mul]
    omega
theorem shown_nat {n : Int} (h : 0 ≤ n) : (PyData.shown (.int n)).length = (TL.numL n.toNat).length := by
  show (Str.ofString (toString n)).length = _
  have e : n = ((n.toNat : Nat) : Int) := (Int.toNat_of_nonneg h).symm
  conv => lhs; rw [e]
  rw [SX.num_S, SX.S_len]
theorem all_ints_len : ∀ ns : List Int, (PyData.shownAll (ns.map .int)).length = ns.length
  | [] => by simp [PyData.shownAll]
  | n :: r => by simp [PyData.shownAll, all_ints_len r]
theorem shown_dI (ns : List Int) : (dI ns).shown.length ≤ shN ns + 3 := by
  have e3 := listText_len_le (PyData.shownAll (ns.map .int))
  have e2 := all_ints_len ns
  unfold shN
  simp only [dI, PyData.shown]
  omega
def sumW (ws : List (List Nat)) : Nat := (ws.map fun w => w.length + 2).sum
theorem sum_join (a b : Nat) : ∀ (r : List (List Nat)) (w : List Nat), (TL.joinL [a, b] (w :: r)).length + 2 = sumW (w :: r)
  | [], w => by
    show w.length + 2 = _
    simp [sumW]
  | x :: r, w => by
    rw [joinL_ne (List.cons_ne_nil _ _), List.length_append, List.length_append]
    have := sum_join a b r x
    have e : sumW (w :: x :: r) = w.length + 2 + sumW (x :: r) := by simp [sumW]
    rw [e]
    simp only [List.length_cons, List.length_nil]
    omega
theorem sum_spl (u : List Nat) : sumW (TL.spl [44, 32] 0 [] u) = u.length + 2 := by
  cases e : TL.spl [44, 32] 0 [] u with
  | nil => exact absurd e (spl_ne2 _ _ _ _)
  | cons w r =>
    have j := join_spl (S := [44, 32]) (by simp) u.length u [] (Nat.le_refl _)
    rw [e] at j
    rw [← sum_join 44 32 r w, j]
    rfl
theorem wrd_lenN (n t : Nat) : (TL.numL n).length ≤ (wrd n t).length := by
  unfold wrd
  split
  · rw [List.length_append]
    omega
  · exact Nat.le_refl _
theorem shN_ungrp : ∀ gs : List (Int × Nat), (∀ p ∈ gs, 0 ≤ p.1 ∧ p.2 ≤ 999) → shN (ungrp gs) ≤ 999 * sumW (gs.map fun p => wrd p.1.toNat p.2)
  | [], _ => Nat.zero_le _
  | (n, t) :: r, h => by
    have ih := shN_ungrp r fun p hp => h p (List.mem_cons_of_mem _ hp)
    obtain ⟨n0, t9⟩ := h (n, t) (List.mem_cons_self ..)
    have e : ungrp ((n, t) :: r) = List.replicate t n ++ ungrp r := by simp [ungrp]
    have e2 : sumW (((n, t) :: r).map fun p => wrd p.1.toNat p.2) = (wrd n.toNat t).length + 2 + sumW (r.map fun p => wrd p.1.toNat p.2) := by simp [sumW]
    rw [e, shN_app, shN_rep, shown_nat (show 0 ≤ n from n0), e2, Nat.mul_add 999]
    have l := wrd_lenN n.toNat t
    have : t * ((TL.numL n.toNat).length + 2) ≤ 999 * ((wrd n.toNat t).length + 2) := Nat.mul_le_mul t9 (by omega)
    omega
/-- a list whose text can be made -/
def ShOk (ns : List Int) : Prop := (∀ k ∈ ns, 2 ≤ k ∧ k < 10 ^ 200) ∧ (dI ns).shown.length ≤ 5000000 ∧ ns.length ≤ 5000000
theorem due_show {u : List Nat} (ok : RdOk u) {ns : List Int} (h : dueR u = some ns) : ShOk ns := by
  have rd := due_read ok h
  obtain ⟨nw, _⟩ := readR_nice ok rd
  refine ⟨nw.1, ?_, nw.2.1⟩
  have e := shown_dI ns
  unfold dueR at h
  split at h
  · have : ns = [] := (Option.some.inj h).symm
    subst this
    have : shN [] = 0 := rfl
    omega
  · rename_i c
    obtain ⟨gs, eg, rfl⟩ := Option.map_eq_some_iff.mp h
    have eg2 : dueGs ((TL.spl [44, 32] 0 [] u).take (TL.spl [44, 32] 0 [] u).length) = some gs := by
      rw [List.take_length]
      exact eg
    obtain ⟨a, b, d⟩ := dueGs_some _ gs (Nat.le_refl _) eg2
    rw [List.take_length] at a
    have ew : wordsOf u = gs.map fun p => wrd p.1.toNat p.2 := by
      unfold wordsOf
      rw [if_neg c, a]
    have bd : ∀ p ∈ gs, 0 ≤ p.1 ∧ p.2 ≤ 999 := fun p hp => by
      obtain ⟨p2, pl, p1, pt⟩ := b p hp
      have mw : wrd p.1.toNat p.2 ∈ wordsOf u := by
        rw [ew]
        exact List.mem_map.mpr ⟨p, hp, rfl⟩
      exact ⟨by omega, (due_count ok (words_in mw) (dueW_wrd (n := p.1.toNat) (t := p.2) (by omega) pl p1 pt)).1⟩
    have z := shN_ungrp gs bd
    rw [← a, sum_spl] at z
    have := ok.1
    omega
theorem showable_I {ns : List Int} (h : ∀ n ∈ ns, n.natAbs.log2 < 1920) : (PyData.list [dI ns]).showable = true := by
  have := show_ints ns h
  simp [dI, PyData.showable, PyData.showableAll, this]
theorem r_reprLL {K : PySem.W.Frag} {H : Hp} {l r : Addr} {ns : List Int} {Q : VK} (h1 : H l = some (.lst [.ref r])) (h2 : H r = some (.lst (iv ns))) (hl : (dI ns).shown.length ≤ 6000000) (hz : ∀ n ∈ ns, n.natAbs.log2 < 1920) (q : Q (.str (PyData.list [dI ns]).shown) H) : rReprV K [.ref l] H Q := by
  refine rReprV_of (.lst (seqL_of h1) (.cons (dp_iv (seqL_of h2)) .nil)) (showable_I hz) ?_ ?_ ?_ q
  · simp [dI, PyData.hasDict, PyData.hasDictAll, nod_ints]
  · simp [dI, PyData.depth, PyData.depthAll, dep_ints]
  · have e3 := listText_len_le (PyData.shownAll [dI ns])
    have e4 : (PyData.shownAll [dI ns]) = [(dI ns).shown] := by simp [PyData.shownAll]
    rw [e4] at e3
    simp only [List.map_cons, List.map_nil, List.sum_cons, List.sum_nil, List.length_cons, List.length_nil] at e3
    have e5 : (PyData.list [dI ns]).shown = listText [(dI ns).shown] := by
      simp only [PyData.shown, e4]
    rw [e5, sizeLine_eq]
    omega
/-- a list of lists, or a tuple, against the empty list -/
theorem r_eqL0 {K : PySem.W.Frag} {H : Hp} {l b : Addr} {Q : VK} (h1 : H l = some (.lst [])) (h2 : H b = some (.lst [])) (q : Q (.bl true) H) : rEqQ K (.ref l) (.ref b) H Q :=
  rEqQ_of ⟨.list [], .list [], .lst (seqL_of h1) .nil, .lst (seqL_of h2) .nil, by decide, by decide, by simpa [PyData.eqv, PyData.eqvAll] using q⟩
theorem shaped_LL (ns : List Int) : SeqAt.shaped (PyData.list [dI ns]) = true := by
  unfold SeqAt.shaped dI
  simp [PyData.canLay0, PyData.canLayAll0, can_ints, PyData.depth, PyData.depthAll, dep_ints]
theorem r_eqL1 {K : PySem.W.Frag} {H : Hp} {l r b : Addr} {ns : List Int} {Q : VK} (h1 : H l = some (.lst [.ref r])) (h3 : H r = some (.lst (iv ns))) (h2 : H b = some (.lst [])) (q : Q (.bl false) H) : rEqQ K (.ref l) (.ref b) H Q :=
  rEqQ_of ⟨.list [dI ns], .list [], .lst (seqL_of h1) (.cons (dp_iv (seqL_of h3)) .nil), .lst (seqL_of h2) .nil, shaped_LL ns, by decide, by simpa [PyData.eqv, PyData.eqvAll] using q⟩
theorem r_neL0 {K : PySem.W.Frag} {H : Hp} {l b : Addr} {Q : VK} (h1 : H l = some (.lst [])) (h2 : H b = some (.lst [])) (q : Q (.bl false) H) : rNeQ K (.ref l) (.ref b) H Q :=
  rNeQ_of ⟨.list [], .list [], .lst (seqL_of h1) .nil, .lst (seqL_of h2) .nil, by decide, by decide, by simpa [PyData.eqv, PyData.eqvAll] using q⟩
theorem r_neL1 {K : PySem.W.Frag} {H : Hp} {l r b : Addr} {ns : List Int} {Q : VK} (h1 : H l = some (.lst [.ref r])) (h3 : H r = some (.lst (iv ns))) (h2 : H b = some (.lst [])) (q : Q (.bl true) H) : rNeQ K (.ref l) (.ref b) H Q :=
  rNeQ_of ⟨.list [dI ns], .list [], .lst (seqL_of h1) (.cons (dp_iv (seqL_of h3)) .nil), .lst (seqL_of h2) .nil, shaped_LL ns, by decide, by simpa [PyData.eqv, PyData.eqvAll] using q⟩
/-- the error told -/
def dTE (u : List Nat) : PyData := .tuple [.bool true, .bool true, .bool false, .str (SX.S u)]
theorem r_neTE {K : PySem.W.Frag} {H : Hp} {a b : Addr} {u : List Nat} {Q : VK} (h1 : H a = some (.tup [.bl true, .bl true, .bl false, .str (SX.S u)])) (h2 : H b = some (.tup [.bl true, .bl true, .bl false, .str (SX.S u)])) (so : PyData.strOk (SX.S u) = true) (q : Q (.bl false) H) : rNeQ K (.ref a) (.ref b) H Q := by
  have d : ∀ {x : Addr}, H x = some (.tup [.bl true, .bl true, .bl false, .str (SX.S u)]) → Dp K H (.ref x) (dTE u) := fun h => .tup (SqT.of h) (.cons (.bl _) (.cons (.bl _) (.cons (.bl _) (.cons (.str _) .nil))))
  have sh : SeqAt.shaped (dTE u) = true := by
    unfold SeqAt.shaped dTE
    simp [PyData.canLay0, PyData.canLayAll0, PyData.depth, PyData.depthAll, so]
  refine rNeQ_of ⟨dTE u, dTE u, d h1, d h2, sh, sh, ?_⟩
  have e : PyData.eqv (dTE u) (dTE u) = true := by
    unfold dTE
    simp [PyData.eqv, PyData.eqvAll]
  rw [e]
  exact q
end Sq


set_option Elab.async false
set_option maxRecDepth 100000
set_option maxHeartbeats 4000000
namespace Sq
open PySem PySem.Spec PyProof.Rows PyProof L2
/-! ## list(z) of a text of plain signs -/
section
variable {prog : Program} {w : World} {A : Around} {E : Value → Shared → Prop} {s : Shared}
theorem hint_txt {x : Str} {t : Tok} {Q : Bool → Shared → Prop} (h : Q false s) : wpAny (model prog w) A (Builtin.List.listLengthHint (.str x t)) Q E s := by
  have hT : s.TypeIs (.str x t) "str" := rfl
  unfold Builtin.List.listLengthHint
  refine wpAny_bind (wpAny_specialOf hT PySem.F.slot_str_len.lookup ?_)
  generalize hid : ("str.__len__" : String) = id0
  wp_delta
  rw [show splitId id0 = some ("str", "__len__") from by subst hid; decide +kernel]
  subst hid
  refine wpAny_bind (wpAny_isInstance (T := "str") (b := true) hT (by rw [isSubtype_type]; kernel_rfl) ?_)
  refine wpAny_ite_split (fun hab => absurd hab (by decide)) (fun _ => ?_)
  refine wpAny_ite_split (fun _ => ?_) (fun hab => absurd (by decide +kernel) hab)
  refine wpAny_bind (wpAny_typeOf hT ?_)
  exact wpAny_pure h
theorem ext_txt {R : Result → Shared → Prop} (hh : A.handled = none) (x : Str) (t : Tok) (ha : x.cps.all (· < 128) = true) (S : Addr) (res : Value) (c₀ : Nat) (hS : s.heap.get? S = some { cls := .type "list", data := .seq #[] c₀ })
    (hR : ∀ h' tk acc' c', (∀ b o, b ≠ S → s.heap.get? b = some o → h'.get? b = some o) → h'.get? S = some { cls := .type "list", dict := none, data := .seq acc' c', slots := #[] } →
      ItemsOf (SignAt x) acc' x.cps.size → R (.ok (.ret res)) { s with heap := h', toks := tk }) (hn : x.cps.size ≤ sizeLine) :
    wpAny (model prog w) A.in1 (Builtin.List.listExtendWith (.ref S) (.str x t) res)
      (fun fin s' => match fin with | .done f => R (.ok f) s' | .again c' => c'.quiet = true ∧ codeAny (model prog w) A c' R s') (fun e s' => R (.error e) s') s := by
  have hSI : S ≠ s.heap.objs.size := Nat.ne_of_lt (Heap.lt_size hS)
  have hSf : S ∉ [s.heap.objs.size] := fun hm => hSI (List.mem_singleton.mp hm)
  unfold Builtin.List.listExtendWith
  refine wpAny_bind (wpAny_typeOf (T := "str") (v := .str x t) rfl ?_)
  have h1 : Builtin.List.listSameRef (.ref S) (.str x t) = false := rfl
  have h2 : (Value.type "str" == Value.type "list") = false := by decide
  have h3 : (Value.type "str" == Value.type "tuple") = false := by decide
  simp only [h1, h2, h3, Bool.or_false, Bool.false_eq_true, if_false]
  refine wpAny_bind (wpAny_pyIter_ascii ha ?_)
  refine wpAny_bind (wpAny_holding (hint_txt ?_))
  rw [if_neg (by first | decide | decide +kernel)]
  have W := Walks.strAscii (prog := prog) (w := w) (A := A.in1) hh s.heap.objs.size x t
  have hst : (s.heap.push { cls := .type "str_ascii_iterator", data := .fields #[.str x t, .int 0 0] }).IsStrIter s.heap.objs.size "str_ascii_iterator" x t 0 := ⟨_, Heap.get?_push_size _ rfl, rfl, rfl⟩
  refine wpAny_pure ⟨plainId_quiet PySem.F.plain_extend_loop _, codeAny_extend_loopS W.toS hn _ hSf _ x.cps.size 0 _ _ _ rfl (Nat.zero_le _) hst (Heap.get?_push_of_some _ hS) (ItemsOf.nil _) fun s' acc' c' hm hS' hacc => ?_⟩
  rw [Moved.eq_with hm]
  refine hR s'.heap s'.toks acc' c' (fun b ob hb e => hm.heap b ob (fun hmem => ?_) (Heap.get?_push_of_some _ e)) hS' hacc
  rcases List.mem_cons.mp hmem with e' | hmem
  · exact hb e'
  · exact absurd (Heap.lt_size e) (by rw [List.mem_singleton.mp hmem]; exact Nat.lt_irrefl _)
theorem init_txt {R : Result → Shared → Prop} (hh : A.handled = none) (x : Str) (t : Tok) (ha : x.cps.all (· < 128) = true) (S : Addr) (hS : s.heap.get? S = some { cls := .type "list", data := .seq #[] })
    (hR : ∀ h' tk acc' c', (∀ b o, b ≠ S → s.heap.get? b = some o → h'.get? b = some o) → h'.get? S = some { cls := .type "list", dict := none, data := .seq acc' c', slots := #[] } →
      ItemsOf (SignAt x) acc' x.cps.size → R (.ok (.ret .none)) { s with heap := h', toks := tk }) (hn : x.cps.size ≤ sizeLine) :
    wpAny (model prog w) A.in1 (Builtin.«list.__init__» ⟨[.ref S, .str x t], []⟩)
      (fun fin s' => match fin with | .done f => R (.ok f) s' | .again c' => c'.quiet = true ∧ codeAny (model prog w) A c' R s') (fun e s' => R (.error e) s') s := by
  show wpAny _ _ (do let old ← Builtin.List.listItems (.ref S); Builtin.List.listUpdate (.ref S) (fun _ => #[]); letGo old.toList.reverse; Builtin.List.listExtendWith (.ref S) (.str x t) .none) _ _ s
  refine wpAny_bind ?_
  unfold Builtin.List.listItems
  refine wpAny_bind (wpAny_seqItems hS rfl (wpAny_pure ?_))
  show wpAny _ _ (updateSeq S (fun _ => #[]) >>= fun _ => letGo (#[] : Array Value).toList.reverse >>= fun _ => Builtin.List.listExtendWith (.ref S) (.str x t) .none) _ _ s
  refine wpAny_bind (wpAny_updateSeq hS rfl ?_)
  have hS₂ := Heap.get?_update_self (Obj.mapSeq (fun _ => (#[] : Array Value))) hS rfl
  have oth : ∀ b o, b ≠ S → s.heap.get? b = some o → (s.heap.update S (Obj.mapSeq (fun _ => (#[] : Array Value)))).get? b = some o :=
    fun b o hb e => (Heap.get?_update_other _ _ (Ne.symm hb)).trans e
  refine wpAny_bind (wpAny_letGo ?_)
  refine ext_txt hh x t ha S .none _ hS₂ (fun h' tk acc' c' hk hS' hacc => ?_) hn
  exact hR h' tk acc' c' (fun b o hb e => hk b o hb (oth b o hb e)) hS' hacc
theorem list_txt {x : Str} {t : Tok} {Q : Value → Shared → Prop} (hh : A.handled = none) (ha : x.cps.all (· < 128) = true) (hn : x.cps.size ≤ sizeLine)
    (hQ : ∀ h' tk acc' c', (∀ b o, s.heap.get? b = some o → h'.get? b = some o) →
      h'.get? s.heap.objs.size = some { cls := .type "list", dict := none, data := .seq acc' c', slots := #[] } → ItemsOf (SignAt x) acc' x.cps.size → Q (.ref s.heap.objs.size) { s with heap := h', toks := tk }) :
    wpAny (model prog w) A (call (.type "list") [.str x t]) Q E s := by
  refine callType_codes (Q₁ := fun obj s₁ => obj = .ref s.heap.objs.size ∧ s₁ = { s with heap := s.heap.push { cls := .type "list", data := .seq #[] } }) PySem.F.called_list (PySem.F.typeCall_list_1 _) PySem.F.entry_list_init
    (code_list_new _ ⟨rfl, rfl⟩) fun obj s₁ h₁ => ?_
  obtain ⟨rfl, rfl⟩ := h₁
  have hS : (s.heap.push { cls := .type "list", data := .seq #[] }).get? s.heap.objs.size = some { cls := .type "list", data := .seq #[] } := Heap.get?_push_size _ rfl
  refine ⟨⟨_, hS, rfl⟩, PySem.F.args_list_init_2 _ _, init_txt (A := A.in1) hh x t ha _ hS (fun h' tk acc' c' hk hS' hacc => ?_) hn⟩
  exact ⟨rfl, hQ h' tk acc' c' (fun b o e => hk b o (Nat.ne_of_lt (Heap.lt_size e)) (Heap.get?_push_of_some _ e)) hS' hacc⟩
end
theorem vals_by : ∀ (xs : List V) (us : List Value), us.length = xs.length → (∀ (j : Nat) (u : Value), us[j]? = some u → ∃ x, xs[j]? = some x ∧ RelV x u) → Vals xs us
  | [], [], _, _ => .nil
  | [], _ :: _, h, _ => nomatch h
  | _ :: _, [], h, _ => nomatch h
  | x :: xs, u :: us, h, k => by
    obtain ⟨y, e, r⟩ := k 0 u rfl
    cases e
    refine .cons r (vals_by xs us (Nat.succ.inj h) fun j v hj => k (j + 1) v hj)
/-- list(z): its signs -/
def rLstTxt : List V → Hp → VK → Prop := fun xs H Q => ∃ l : List Nat, xs = [.str (SX.S l)] ∧ l.all (· < 128) = true ∧ l.length ≤ sizeLine ∧ ∀ p, H p = none → Q (.ref p) (upd H p (.lst (l.map fun c => V.str (SX.S [c]))))
theorem call_listTxt {X : Cx} (hc : X.calm = true) : CallR X (.type "list") rLstTxt := by
  intro pins s σ H xs us Q I r h
  obtain ⟨l, rfl, ha, hz, q⟩ := h
  obtain ⟨u, rfl, t, rfl⟩ := vals1 r
  have ha2 : (SX.S l).cps.all (· < 128) = true := by
    rw [← Array.all_toList]
    exact ha
  have sz : (SX.S l).cps.size = l.length := SX.S_len l
  refine list_txt (I.ok.hd hc) ha2 (by rw [sz]; exact hz) fun h' tk acc c' hk e hi => ?_
  refine ⟨.ref s.heap.objs.size, upd H s.heap.objs.size (.lst (l.map fun c => V.str (SX.S [c]))), I.laid hk (Nat.le_refl _) ⟨by rw [List.length_map]; exact hz, acc.toList, c', ?_, by rw [Array.toArray_toList]; exact e⟩, rfl, q _ (I.hok.fresh (Nat.le_refl _))⟩
  refine vals_by _ _ (by rw [List.length_map, Array.length_toList, hi.1, sz]) fun j u hj => ?_
  obtain ⟨c, t', hc, rfl⟩ := hi.2 j u (by rw [← Array.getElem?_toList]; exact hj)
  refine ⟨.str (SX.S [c]), ?_, ⟨_, rfl⟩⟩
  have hc2 : l[j]? = some c := by simpa using hc
  rw [List.getElem?_map, hc2]
  rfl
end Sq

/-! ## own tactic words (local) -/
local macro_rules | `(tactic| walk_at "sq hp") => `(tactic| first
  | assumption
  | exact L2.upd_same
  | (refine Sq.Sep.get (by assumption) ?_; walk_at "sq hp")
  | (refine Sq.upd_keep (by assumption) ?_; walk_at "sq hp")
  | (refine Sq.Same.get (by assumption) ?_; walk_at "sq hp")
  | (refine Sq.upd_off (by assumption) ?_; walk_at "sq hp")
  | (refine Sq.upd_off (Ne.symm (by assumption)) ?_; walk_at "sq hp"))
local macro_rules | `(tactic| walk_at "sq sql") => `(tactic| first
  | assumption
  | exact Sq.seqL_of (by walk_at "sq hp")
  | exact L2.Same.seq (by assumption) (by assumption)
  | exact L2.Same.seq (Sq.Sep.same (by assumption)) (by assumption))
local macro_rules | `(tactic| walk_at "sq len") => `(tactic| (
  (try simp only [List.length_map, List.length_append, List.length_cons, List.length_nil, List.length_take, List.length_drop, List.length_reverse]); (try rw [PySem.sizeLine_eq]); omega))
local macro_rules | `(tactic| walk_at "sq side") => `(tactic| first
  | exact rfl
  | exact Nat.zero_le _
  | exact Sq.lit_len (Nat.le_of_ble_eq_true rfl)
  | ((with_reducible show L2.SqL _ _ _ _); walk_at "sq sql")
  | ((with_reducible show L2.SqT _ _ _ _); exact L2.SqT.of (by walk_at "sq hp"))
  | (apply Exists.intro; walk_at "sq sql")
  | ((with_reducible show _ = some _); walk_at "sq hp")
  | ((with_reducible show Sq.Sep _ _ _); assumption)
  | ((with_reducible show L2.ClsV _ _); first | exact .ty _ | exact .own _)
  | ((with_reducible show L2.TyX _ _ _ _); first | exact .base .non | exact .base (.bl _) | exact .base (.int _) | exact .base (.str _) | exact Sq.tyx_lst (by walk_at "sq sql") | exact Sq.tyx_tup (by exact L2.SqT.of (by walk_at "sq hp")) | assumption)
  | ((with_reducible show Sq.CPowW _ _); first | assumption | exact ⟨by decide, by decide, by decide⟩)
  | ((with_reducible show L2.CMulW _ _); first | assumption | exact (by decide +kernel))
  | ((with_reducible show L2.CDivW _ _); first | assumption | exact ⟨by decide, by decide⟩)
  | ((with_reducible show L2.tyV _ "list" _ _); exact Or.inl ⟨rfl, _, by walk_at "sq sql"⟩)
  | ((with_reducible show _ < PySem.sizeLine); walk_at "sq len")
  | ((with_reducible show _ ≤ PySem.sizeLine); walk_at "sq len")
  | ((with_reducible show (0 : Int) < _); first | assumption | decide | omega)
  | decide
  | omega)
local macro_rules | `(tactic| walk_at "sq go") => `(tactic| repeat (first
  | exact rfl
  | (fail_if_success (show ∃ W : Nat → Nat → L2.St → L2.Hp → Prop, _)
     fail_if_success (show ∃ W : Nat → Nat → L2.Hp → Prop, _)
     fail_if_success (show ∃ W : Nat → L2.St → L2.Hp → Prop, _)
     fail_if_success (show ∃ W : Nat → Nat → List L2.V → L2.St → L2.Hp → Prop, _)
     apply Exists.intro)
  | (apply And.intro; focus walk_at "sq side")
  | refine L2.iteT ?_
  | refine L2.iteF ?_))
namespace Sq
open PySem PySem.Spec PyProof.Rows L2
def topS (i : Nat) : Stmt := PySem.Challenge.pw_squeezelists_k41_texts_read.main.body.getD i (.Pass ⟨0, 0, 0, 0⟩)
structure Bt (mg : Str → Option Value) : Prop where
  «ValueError» : mg "ValueError" = none
  «abs» : mg "abs" = none
  «all» : mg "all" = none
  «int» : mg "int" = none
  «isinstance» : mg "isinstance" = none
  «len» : mg "len" = none
  «list» : mg "list" = none
  «min» : mg "min" = none
  «range» : mg "range" = none
  «repr» : mg "repr" = none
  «str» : mg "str" = none
section
variable {P : Program} {w : World} {K : PySem.W.Frag} {mg : Str → Option Value} {base : Heap}

/-! ### the source of draws: a list of three ints -/
abbrev s_law_draw : Stmt := topS 21
theorem sc_law_draw : FnScope ["rng", "limit", "found", "mixed"] ["rng", "limit"] (defScope s_law_draw) := ⟨rfl, rfl, rfl, by decide +kernel, rfl, by decide +kernel, by decide +kernel⟩

/-- as spDraw3, of a wider range -/
def spDrawW : Sp := fun vs H Q _ => ∃ (r : Addr) (m N : Int) (G : Hp), vs = [.ref r, .int m] ∧ Sep (rg3 r N) G H ∧ Keep (0 < m ∧ m < 2 ^ 1000 ∧ N < 2 ^ 60) ∧ ∀ v H', 0 ≤ v → v < m → Sep (rg3 r (N + 1)) G H' → Q (.int v) H'
theorem drawW3 {k : Nat} (c : Cal P w K mg base k "_law_draw" spDrawW []) : Cal P w K mg base k "_law_draw" spDraw3 [] := c.imp (Nat.le_refl _) fun vs H Q E h => by
  obtain ⟨r, m, N, G, e, hS, ⟨hm, hmb, hN⟩, q⟩ := h
  exact ⟨r, m, N, G, e, hS, ⟨hm, Int.lt_trans hmb (by decide), hN⟩, q⟩
theorem cal_drawW (D : DefAt K mg "_law_draw" s_law_draw ["rng", "limit"]) (B : Bt mg) : Cal P w K mg base 1 "_law_draw" spDrawW [] := by
  refine D.cal sc_law_draw (fun vs H Q E h => ?_) (fun f cdv A outer s H vs Q E hr h => ?_)
  · obtain ⟨r, m, N, G, rfl, _⟩ := h
    rfl
  · obtain ⟨r, m, N, G, rfl, hS, ⟨hm, hmb, hN⟩, q⟩ := h
    obtain ⟨a, b, c, gr, a0, b0, b1, c0, c1⟩ := id hS.inv
    have cm : CDivW a m := ⟨hm, Nat.lt_trans ((show Sm 1000 m by unfold Sm; omega).lg (by decide)) (by decide)⟩
    refine ⟨_, (pss_cons (ps_if (pt_cmpR op_gt (pe_ix (ix_listK (K := K)) (pv 0) pe_int (fun _ _ => rfl)) pe_int (nomark _)) (pss_cons (ps_set (i := 2) sc_law_draw.nd rfl (Or.inl rfl) (pe_op op_mod (pe_ix (ix_listK (K := K)) (pv 0) pe_int (fun _ _ => rfl)) (pv 1)))
  (pss_cons (ps_asg (pe_op op_fdivW (pe_ix (ix_listK (K := K)) (pv 0) pe_int (fun _ _ => rfl)) (pv 1)) (pg_sub (pv 0) pe_int set_list))
  (pss_one (ps_ret (pv 2))))) pss_nil)
  (pss_cons (ps_asg (pe_op op_add (pe_ix (ix_listK (K := K)) (pv 0) pe_int (fun _ _ => rfl)) pe_int) (pg_sub (pv 0) pe_int set_list))
  (pss_cons (ps_set (i := 3) sc_law_draw.nd rfl (Or.inl rfl) (pe_op op_mod (pe_op op_powW (pe_op op_add (pe_ix (ix_listK (K := K)) (pv 0) pe_int (fun _ _ => rfl)) (pe_op op_mulW pe_int (pe_ix (ix_listK (K := K)) (pv 0) pe_int (fun _ _ => rfl)))) pe_int) pe_int))
  (pss_cons (ps_set (i := 3) sc_law_draw.nd rfl (Or.inl rfl) (pe_op op_mod (pe_op op_powW (pe_op op_add (pv 3) (pe_op op_mulW pe_int (pe_ix (ix_listK (K := K)) (pv 0) pe_int (fun _ _ => rfl)))) pe_int) pe_int))
  (pss_one (ps_ret (pe_op op_mod (pe_op op_fdivW (pv 3) pe_int) (pv 1)))))))), ?_⟩
    have k1 : Sm 62 (c + 1) := by unfold Sm; omega
    have k2 : Sm 30 (998244353) := by unfold Sm; decide
    have k3 : Sm 25 (32452843) := by unfold Sm; decide
    have w1 : CMulW (998244353) (c + 1) := k2.wide k1 (by decide) (by decide) (by decide)
    have w2 : CMulW (32452843) (c + 1) := k3.wide k1 (by decide) (by decide) (by decide)
    have s1 : Sm 101 (b + 998244353 * (c + 1)) := (show Sm 100 b by unfold Sm; omega).add ((k2.mul k1).mono (by decide))
    have p1 : CPowW (b + 998244353 * (c + 1)) 3 := pow_ok s1 (by decide) (by decide) (by decide) (by decide)
    have p2 : ∀ y : Int, CPowW (y % 162259276829213363391578010288127 + 32452843 * (c + 1)) 3 := fun y => by
      have y0 := Int.emod_nonneg y (show (162259276829213363391578010288127 : Int) ≠ 0 by decide)
      have y1 := Int.emod_lt_of_pos y (show (0 : Int) < 162259276829213363391578010288127 by decide)
      exact pow_ok ((show Sm 107 (y % 162259276829213363391578010288127) by unfold Sm; omega).add ((k3.mul k1).mono (by decide))) (by decide) (by decide) (by decide) (by decide)
    have p3 := p2 ((b + 998244353 * (c + 1)) ^ (3 : Int).toNat)
    have v0 : ∀ y : Int, 0 ≤ y % m := fun y => Int.emod_nonneg y (show m ≠ 0 by omega)
    have v1 : ∀ y : Int, y % m < m := fun y => Int.emod_lt_of_pos y hm
    walk_at "sq go"
    refine ifD (fun h => ?_) (fun h => ?_)
    · walk_at "sq go"
      exact q _ _ (v0 _) (v1 _) (Sep3.redo hS ⟨a / m, b, c, upd_same, Int.ediv_nonneg a0 (by omega), b0, b1, c0, by omega⟩)
    · walk_at "sq go"
      exact q _ _ (v0 _) (v1 _) (Sep3.redo hS ⟨a, b, c + 1, upd_same, a0, b0, b1, by omega, by omega⟩)

abbrev s_law_rng : Stmt := topS 20
theorem sc_law_rng : FnScope ["script", "digits", "seed", "cell", "far"] ["script"] (defScope s_law_rng) := ⟨rfl, rfl, rfl, by decide +kernel, rfl, by decide +kernel, by decide +kernel⟩

def spRng (K : PySem.W.Frag) : Sp := fun vs H Q _ => ∃ (p : Addr) (ns : List Int), vs = [.ref p] ∧ SqL K H p (iv ns) ∧ Keep True ∧ ∀ r H', Same H H' → Sep (rg3 r 0) H H' → Q (.ref r) H'
theorem cal_rng (D : DefAt K mg "_law_rng" s_law_rng ["script"]) (B : Bt mg) : Cal P w K mg base 1 "_law_rng" (spRng K) [] := by
  refine D.cal sc_law_rng (fun vs H Q E h => ?_) (fun f cdv A outer s H vs Q E hr h => ?_)
  · obtain ⟨p, ns, rfl, _⟩ := h
    rfl
  · obtain ⟨p, ns, rfl, hS, _, q⟩ := h
    refine ⟨_, (pss_cons (ps_asg (pe_tup (pa_cons pe_int (pa_cons pe_int pa_nil))) (pg_tupK (K := K) (n := 2) rfl (pgs_cons (pg_name (i := 1) sc_law_rng.nd rfl (Or.inl rfl)) (pgs_cons (pg_name (i := 2) sc_law_rng.nd rfl (Or.inl rfl)) pgs_nil))))
  (pss_cons (ps_for PassesOwn.never rfl (pi_listK (K := K) (pe_slice (sl_listK (K := K)) (pv 0) po_none (po_some pe_int))) (pg_name (i := 3) sc_law_rng.nd rfl (Or.inl rfl))
   (pss_cons (ps_set (i := 4) sc_law_rng.nd rfl (Or.inl rfl) (pe_callB call_abs (by rfl) B.abs (by decide +kernel) (pa_cons (pv 3) pa_nil)))
  (pss_cons (ps_if (pt_cmpR op_ge (pv 4) (pe_op op_powW pe_int pe_int) (nomark _)) (pss_one (ps_set (i := 1) sc_law_rng.nd rfl (Or.inl rfl) (pe_op op_add (pe_op op_mulW (pv 1) (pe_op op_powW pe_int pe_int)) (pe_op op_mod (pv 4) (pe_op op_powW pe_int pe_int))))) pss_nil)
  (pss_one (ps_set (i := 2) sc_law_rng.nd rfl (Or.inl rfl) (pe_op op_mod (pe_op op_add (pe_op op_add (pe_op op_mulW (pv 2) pe_int) (pe_op op_mod (pv 3) pe_int)) pe_int) pe_int))))))
  (pss_one (ps_ret (pe_lst (pa_cons (pv 1) (pa_cons (pv 2) (pa_cons pe_int pa_nil)))))))), ?_⟩
    walk_at "sq go"
    intro T nT
    have sT := same_new (o := .tup [.int 0, .int 88675123]) nT
    have hST := sT.seq hS
    generalize hHT : upd H T (.tup [.int 0, .int 88675123]) = HT at sT hST
    have hTT : HT T = some (.tup [.int 0, .int 88675123]) := by rw [← hHT, upd_same]
    clear hHT
    walk_at "sq go"
    intro l nl
    have e63 : cutV (iv ns) none (some 63) = iv (ns.take 63) := by
      rw [show (63 : Int) = ((63 : Nat) : Int) from rfl, cut_to, iv_take]
    rw [e63]
    have len : (ns.take 63).length ≤ 63 := by
      rw [List.length_take]
      omega
    generalize ns.take 63 = ms at len ⊢
    have sl := same_new (o := .lst (iv ms)) nl
    have hl4 : SqL K (upd HT l (.lst (iv ms))) l (iv ms) := seqL_of upd_same
    walk_at "sq go"
    refine for_list (K := K) (a := l) (xs := iv ms) (fun i σ H' => Keep (∃ d s x y, σ = [some (.ref p), some (.int d), some (.int s), x, y] ∧ H' = upd HT l (.lst (iv ms)) ∧ 0 ≤ d ∧ Sm (201 * i + 10) d ∧ 0 ≤ s ∧ s < 2 ^ 61)) ⟨0, 88675123, none, none, rfl, rfl, by decide, by unfold Sm; decide, by decide, by decide⟩ (fun i σ H' _ h => ?_) (fun i x σ H' hx h => ?_) (fun σ H' h => ?_)
    · obtain ⟨_, _, _, _, _, rfl, _⟩ := h.o
      exact hl4
    · obtain ⟨d, sd, x1, y1, rfl, rfl, d0, dS, s0, s1⟩ := h.o
      have lt := (List.getElem?_eq_some_iff.mp hx).1
      rw [iv_len] at lt
      obtain ⟨c, hk, rfl⟩ := iv_get hx
      have t60 : Sm 200 ((10 : Int) ^ (60 : Int).toNat) := by unfold Sm; decide
      have wm : CMulW d (10 ^ (60 : Int).toNat) := dS.wide t60 (by omega) (by decide) (by omega)
      have wd : ∀ z : Int, CDivW z (10 ^ (60 : Int).toNat) := fun z => div_ok (by decide) (by decide)
      walk_at "sq go"
      have ws : CMulW sd 1000003 := Sm.wide (a := 61) (b := 20) (by unfold Sm; omega) (by unfold Sm; decide) (by decide) (by decide) (by decide)
      have y0 := fun y : Int => Int.emod_nonneg y (show (2305843009213693951 : Int) ≠ 0 by decide)
      have y1 := fun y : Int => Int.emod_lt_of_pos y (show (0 : Int) < 2305843009213693951 by decide)
      have z0 := fun y : Int => Int.emod_nonneg y (show ((10 : Int) ^ (60 : Int).toNat) ≠ 0 by decide)
      have z1 := fun y : Int => Int.emod_lt_of_pos y (show (0 : Int) < (10 : Int) ^ (60 : Int).toNat by decide)
      have zS : ∀ y : Int, Sm 200 (y % (10 : Int) ^ (60 : Int).toNat) := fun y => Sm.le t60 (z0 y) (Int.le_of_lt (z1 y))
      refine ifD (fun cb => ?_) (fun cb => ?_)
      · walk_at "sq go"
        refine ⟨_, _, _, _, rfl, rfl, ?_, ?_, y0 _, Int.lt_of_lt_of_le (y1 _) (by decide)⟩
        · exact Int.add_nonneg (Int.mul_nonneg d0 (by decide)) (z0 _)
        · have a1 := (dS.mul t60).add ((zS (if c < 0 then -c else c)).mono (show 200 ≤ 201 * i + 10 + 200 by omega))
          refine Sm.mono ?_ (show 201 * i + 10 + 200 + 1 ≤ 201 * (i + 1) + 10 by omega)
          trace_state
          exact a1
      · walk_at "sq go"
        exact ⟨_, _, _, _, rfl, rfl, d0, dS.mono (by omega), y0 _, Int.lt_of_lt_of_le (y1 _) (by decide)⟩
    · obtain ⟨d, sd, x1, y1, rfl, rfl, d0, dS, s0, s1⟩ := h.o
      walk_at "sq go"
      intro r nr
      have s2 := sT.trans sl
      have nr2 := s2.free nr
      exact q r _ (s2.trans (same_new nr)) ⟨⟨_, _, _, upd_same, d0, s0, by omega, by decide, by decide⟩, s2.trans (same_new nr), fun x hx => by rw [show x = r from hx]; exact nr2⟩

/-! ### lists shown -/
structure TxC (mg : Str → Option Value) : Prop where
  sep : ∃ u, mg "SEPARATOR" = some u ∧ L2.RelV (.str ", ") u
  pow : ∃ u, mg "POWER" = some u ∧ L2.RelV (.str "^") u
  non : ∃ u, mg "NO_REPLACEMENTS" = some u ∧ L2.RelV (.str "none") u
theorem s_sep : (", " : Str) = SX.S [44, 32] := by decide +kernel
theorem s_pow : ("^" : Str) = SX.S [94] := by decide +kernel
theorem s_none : ("none" : Str) = SX.S noneL := by decide +kernel
theorem s_num {k : Int} (h : 0 ≤ k) : Str.ofString (toString k) = SX.S (TL.numL k.toNat) := by
  obtain ⟨n, rfl⟩ := Int.eq_ofNat_of_zero_le h
  exact SX.num_S n
abbrev s_equal_neighbours : Stmt := topS 11
theorem sc_equal_neighbours : FnScope ["replacements", "found", "replacement"] ["replacements"] (defScope s_equal_neighbours) := ⟨rfl, rfl, rfl, by decide +kernel, rfl, by decide +kernel, by decide +kernel⟩

def spEqN (K : PySem.W.Frag) : Sp := fun vs H Q _ => ∃ (p : Addr) (ns : List Int), vs = [.ref p] ∧ SqL K H p (iv ns) ∧ Keep (ns.length ≤ 5000000) ∧ ∀ l H', Same H H' → H l = none → Prs H' l (grp ns) → Q (.ref l) H'
theorem cal_equal (D : DefAt K mg "equal_neighbours" s_equal_neighbours ["replacements"]) (B : Bt mg) : Cal P w K mg base 1 "equal_neighbours" (spEqN K) [] := by
  refine D.cal sc_equal_neighbours (fun vs H Q E h => ?_) (fun f cdv A outer s H vs Q E hr h => ?_)
  · obtain ⟨p, ns, rfl, _⟩ := h
    rfl
  · obtain ⟨p, ns, rfl, hS, ⟨len⟩, q⟩ := h
    refine ⟨_, (pss_cons (ps_set (i := 1) sc_equal_neighbours.nd rfl (Or.inl rfl) (pe_lst pa_nil))
  (pss_cons (ps_for PassesOwn.never rfl (pi_listK (K := K) (pv 0)) (pg_name (i := 2) sc_equal_neighbours.nd rfl (Or.inl rfl))
   (pss_one (ps_if (PW.pt (pw_and (pt_cmpR (op_neDK (K := K) hr.units) (pv 1) (pe_lst pa_nil) (nomark _)) (pw_and1 (pt_cmpR op_eq (pe_ix (ix_tupK (K := K)) (pe_ix (ix_listK (K := K)) (pv 1) (pe_un un_neg pe_int) (fun _ _ => rfl)) pe_int (fun _ _ => rfl)) (pv 2) (nomark _))))) (pss_one (ps_asg (pe_tup (pa_cons (pv 2) (pa_cons (pe_op op_add (pe_ix (ix_tupK (K := K)) (pe_ix (ix_listK (K := K)) (pv 1) (pe_un un_neg pe_int) (fun _ _ => rfl)) pe_int (fun _ _ => rfl)) pe_int) pa_nil))) (pg_sub (pv 1) (pe_un un_neg pe_int) set_list))) (pss_one (ps_expr (pe_bm PySem.F.plainAttrs_list PySem.F.slot_list_append PySem.F.type_list_append mt_append (pv 1) (pa_cons (pe_tup (pa_cons (pv 2) (pa_cons pe_int pa_nil))) pa_nil)))))))
  (pss_one (ps_ret (pv 1))))), ?_⟩
    walk_at "sq go"
    intro l nl
    have hS0 := (same_new (o := .lst []) nl).seq hS
    walk_at "sq go"
    refine for_list (K := K) (a := p) (xs := iv ns) (fun i σ H' => Keep (∃ x, σ = [some (.ref p), some (.ref l), x] ∧ Same H H' ∧ Prs H' l (grp (ns.take i)))) ⟨none, rfl, same_new nl, [], upd_same, rfl, fun i t p h => by simp at h⟩ (fun i σ H' _ h => ?_) (fun i x σ H' hx h => ?_) (fun σ H' h => ?_)
    · obtain ⟨x, _, s1, _⟩ := h.o
      exact s1.seq hS
    · obtain ⟨x, rfl, s1, pr⟩ := h.o
      obtain ⟨k, hk, rfl⟩ := iv_get hx
      have li : i < 5000000 := by
        have := (List.getElem?_eq_some_iff.mp hk).1
        omega
      have e1 : grp (ns.take (i + 1)) = grpS (grp (ns.take i)) k := by
        rw [List.take_add_one, hk]
        exact grp_snoc _ _
      have lg : (grp (ns.take i)).length ≤ 5000000 := by
        have := grp_len (ns.take i)
        rw [List.length_take] at this
        omega
      have step : ∀ {H1 : Hp}, Same H' H1 → ∀ b o, b ≠ l → H' b = some o → H1 b = some o := fun s b o _ e => s b o e
      walk_at "sq go"
      intro e ne
      have pr1 := pr.same (same_new (o := .lst []) ne)
      refine r_nePs pr1 (seqL_of upd_same) ?_
      have nn1 : ∀ {G : Hp} {a b : Addr} {u : HO}, G a = none → G b = some u → b ≠ a := fun h h2 z => by
        rw [z, h] at h2
        cases h2
      have sN : ∀ {H1 : Hp}, (∀ b o, b ≠ l → H' b = some o → H1 b = some o) → Same H H1 := fun kp b o e => kp b o (nn1 nl e) (s1 b o e)
      have lts : ∀ ts : List Addr, ts.length = (grp (ns.take i)).length → (ts.map V.ref).length < sizeLine := fun ts h => by
        rw [List.length_map, h]
        exact ltW lg
      walk_at "sq go"
      refine ifN (fun hne => ?_) (fun he => ?_)
      · obtain ⟨⟨a, c⟩, ea⟩ : ∃ z, (grp (ns.take i)).getLast? = some z := by
          cases ez : (grp (ns.take i)).getLast? with
          | none => exact absurd (List.getLast?_eq_none_iff.mp ez) hne
          | some z => exact ⟨z, rfl⟩
        obtain ⟨ts, t, j, hl, ix, at_, ht, fin⟩ := pr1.last ea
        walk_at "sq go"
        refine ifI (fun eq => ?_) (fun neq => ?_)
        · walk_at "sq go"
          intro T nT
          have hl2 := upd_keep (o := .tup [.int k, .int ((c : Int) + 1)]) nT hl
          walk_at "sq go"
          have nlT : T ≠ l := fun z => nn1 nT hl z.symm
          have keep : ∀ b o, b ≠ l → upd H' e (.lst []) b = some o → upd (upd (upd H' e (.lst [])) T (.tup [.int k, .int ((c : Int) + 1)])) l (.lst ((ts.map V.ref).set j (.ref T))) b = some o := fun b o n h => upd_off n (upd_keep nT h)
          refine ⟨_, rfl, sN fun b o n h => keep b o n (upd_keep ne h), ?_⟩
          rw [e1]
          have z := fin T k _ keep (upd_off nlT upd_same) upd_same
          unfold grpS
          rw [ea]
          simp only
          rw [if_pos eq, eq]
          exact z
        · obtain ⟨ts, hl, tl, fin⟩ := pr1.snoc (H' := H') (k := k)
          have lz := lts ts tl
          walk_at "sq go"
          intro T nT
          have nlT : T ≠ l := fun z => nn1 nT hl z.symm
          have hl2 := upd_keep (o := .tup [.int k, .int 1]) nT hl
          walk_at "sq go"
          have keep : ∀ b o, b ≠ l → upd H' e (.lst []) b = some o → upd (upd (upd H' e (.lst [])) T (.tup [.int k, .int 1])) l (.lst (ts.map V.ref ++ [.ref T])) b = some o := fun b o n h => upd_off n (upd_keep nT h)
          refine ⟨_, rfl, sN fun b o n h => keep b o n (upd_keep ne h), ?_⟩
          rw [e1]
          have z := fin T _ keep (upd_off nlT upd_same) upd_same
          unfold grpS
          rw [ea]
          simp only
          rw [if_neg neq]
          exact z
      · obtain ⟨ts, hl, tl, fin⟩ := pr1.snoc (H' := H') (k := k)
        have lz := lts ts tl
        walk_at "sq go"
        intro T nT
        have nlT : T ≠ l := fun z => nn1 nT hl z.symm
        have hl2 := upd_keep (o := .tup [.int k, .int 1]) nT hl
        walk_at "sq go"
        have keep : ∀ b o, b ≠ l → upd H' e (.lst []) b = some o → upd (upd (upd H' e (.lst [])) T (.tup [.int k, .int 1])) l (.lst (ts.map V.ref ++ [.ref T])) b = some o := fun b o n h => upd_off n (upd_keep nT h)
        refine ⟨_, rfl, sN fun b o n h => keep b o n (upd_keep ne h), ?_⟩
        rw [e1]
        have z := fin T _ keep (upd_off nlT upd_same) upd_same
        unfold grpS
        rw [he] at z ⊢
        exact z
    · obtain ⟨x, rfl, s1, pr⟩ := h.o
      walk_at "sq go"
      rw [iv_len, List.take_length] at pr
      exact q l H' s1 nl pr
/-- lists of texts -/
def dS (ws : List (List Nat)) : PyData := .list (ws.map fun w => .str (SX.S w))
theorem dpall_str {H : Hp} : ∀ ws : List (List Nat), DpAll K H (ws.map fun w => V.str (SX.S w)) (ws.map fun w => .str (SX.S w))
  | [] => .nil
  | n :: r => .cons (.str _) (dpall_str r)
theorem can_strs : ∀ ws : List (List Nat), (∀ w ∈ ws, PyData.strOk (SX.S w) = true) → PyData.canLayAll0 (ws.map fun w => .str (SX.S w)) = true
  | [], _ => by simp [PyData.canLayAll0]
  | w :: r, h => by simp [PyData.canLayAll0, PyData.canLay0, h w (List.mem_cons_self ..), can_strs r fun x hx => h x (List.mem_cons_of_mem _ hx)]
theorem dep_strs : ∀ ws : List (List Nat), PyData.depthAll (ws.map fun w => PyData.str (SX.S w)) = 0
  | [] => by simp [PyData.depthAll]
  | w :: r => by simp [PyData.depthAll, PyData.depth, dep_strs r]
theorem shaped_dS {ws : List (List Nat)} (h : ∀ w ∈ ws, PyData.strOk (SX.S w) = true) : SeqAt.shaped (dS ws) = true := by
  unfold SeqAt.shaped dS
  simp only [PyData.canLay0, can_strs ws h, PyData.depth, dep_strs]
  rfl
theorem r_neS0 {H : Hp} {l b : Addr} {ws : List (List Nat)} {Q : VK} (h1 : H l = some (.lst (ws.map fun w => V.str (SX.S w)))) (h2 : H b = some (.lst [])) (hk : ∀ w ∈ ws, PyData.strOk (SX.S w) = true) (q : Q (.bl (!decide (ws = []))) H) : rNeQ K (.ref l) (.ref b) H Q := by
  refine rNeQ_of ⟨dS ws, dI [], .lst (seqL_of h1) (dpall_str ws), dp_iv (seqL_of h2), shaped_dS hk, shaped_dI [], ?_⟩
  have e : PyData.eqv (dS ws) (dI []) = decide (ws = []) := by
    unfold dS dI
    cases ws with
    | nil => simp [PyData.eqv, PyData.eqvAll]
    | cons a r => simp [PyData.eqv, PyData.eqvAll]
  rw [e]
  exact q
local macro_rules | `(tactic| walk_at "sq side") => `(tactic| first
  | ((with_reducible show _ ≤ PySem.sizeLine); assumption)
  | ((with_reducible show _ < 1920); assumption))
theorem num_ok {n c : Nat} (h : c ∈ TL.numL n) : c < 0x110000 := by
  have := TL.numL_digits n c h
  omega
theorem strOk_S {a : List Nat} (h : ∀ c ∈ a, c < 0x110000) : PyData.strOk (SX.S a) = true := by
  unfold PyData.strOk
  rw [Array.all_eq_true_iff_forall_mem]
  intro c hc
  rw [decide_eq_true_eq]
  exact h c (by simpa using hc)
theorem wrd_ok (n t : Nat) : PyData.strOk (SX.S (wrd n t)) = true := strOk_S fun c hc => by
  unfold wrd at hc
  split at hc
  · simp only [List.mem_append, List.mem_cons] at hc
    rcases hc with z | z | z
    · exact num_ok z
    · omega
    · exact num_ok z
  · exact num_ok hc
theorem num_lg {k : Int} (h0 : 0 ≤ k) (h : k < 10 ^ 200) : k.natAbs.log2 < 1920 := Nat.lt_trans ((show Sm 700 k by unfold Sm; omega).lg (by decide)) (by decide)
abbrev s_show_list : Stmt := topS 12
theorem sc_show_list : FnScope ["replacements", "words", "number", "times"] ["replacements"] (defScope s_show_list) := ⟨rfl, rfl, rfl, by decide +kernel, rfl, by decide +kernel, by decide +kernel⟩

def spShow (K : PySem.W.Frag) : Sp := fun vs H Q _ => ∃ (p : Addr) (ns : List Int), vs = [.ref p] ∧ SqL K H p (iv ns) ∧ Keep (NiceW ns) ∧ ∀ H', Same H H' → Q (.str (SX.S (showL ns))) H'
theorem two_show (D : DefAt K mg "show_list" s_show_list ["replacements"]) (B : Bt mg) (tx : TxC mg) (c_equal_neighbours : Cal P w K mg base 1 "equal_neighbours" (spEqN K) []) : Def2 P w K mg base 2 "show_list" s_show_list ["replacements"] (spShow K) := by
  refine D.two sc_show_list (fun vs H Q E h => ?_) (fun f cdv A outer s H vs Q E hr h => ?_)
  · obtain ⟨p, ns, rfl, _⟩ := h
    rfl
  · obtain ⟨p, ns, rfl, hS, ⟨nice⟩, q⟩ := h
    obtain ⟨g_SEPARATOR, g_POWER, g_NO_REPLACEMENTS⟩ := tx
    refine ⟨_, (pss_cons (ps_set (i := 1) sc_show_list.nd rfl (Or.inl rfl) (pe_lst pa_nil))
  (pss_cons (ps_for PassesOwn.never rfl (pi_listK (K := K) (pe_c c_equal_neighbours hr (by first | decide | omega) (by rfl) (pa_cons (pv 0) pa_nil))) (pg_tupK (K := K) (n := 2) rfl (pgs_cons (pg_name (i := 2) sc_show_list.nd rfl (Or.inl rfl)) (pgs_cons (pg_name (i := 3) sc_show_list.nd rfl (Or.inl rfl)) pgs_nil)))
   (pss_one (ps_expr (pe_bm PySem.F.plainAttrs_list PySem.F.slot_list_append PySem.F.type_list_append mt_append (pv 1) (pa_cons (pe_op op_add_str (pe_callTy call_str_int (by rfl) B.str (by decide +kernel) (pa_cons (pv 2) pa_nil)) (pe_ifExp (pt_cmpR op_gt (pv 3) pe_int (nomark _)) (pe_op op_add_str (pe_gc (by rfl) g_POWER) (pe_callTy call_str_int (by rfl) B.str (by decide +kernel) (pa_cons (pv 3) pa_nil))) pe_str)) pa_nil)))))
  (pss_one (ps_ret (pe_ifExp (pt_cmpR (op_neDK (K := K) hr.units) (pv 1) (pe_lst pa_nil) (nomark _)) (pe_join (pe_gc (by rfl) g_SEPARATOR) (pv 1)) (pe_gc (by rfl) g_NO_REPLACEMENTS)))))), ?_⟩
    walk_at "sq go"
    intro W nW
    have sW := same_new (o := .lst []) nW
    have hS0 := sW.seq hS
    walk_at "sq go"
    refine ⟨⟨nice.2.1⟩, fun l H1 s1 nl pr => ?_⟩
    obtain ⟨ts, hl, tl, ht⟩ := id pr
    have hW1 : H1 W = some (.lst []) := s1 _ _ upd_same
    have nlW : l ≠ W := fun z => by
      rw [z, upd_same] at nl
      cases nl
    walk_at "sq go"
    have s2 := sW.trans s1
    refine for_list (K := K) (a := l) (xs := ts.map V.ref) (fun i σ H' => Keep (∃ x y, σ = [some (.ref p), some (.ref W), x, y] ∧ H' = upd H1 W (.lst (((wrds ns).take i).map fun w => .str (SX.S w))))) ⟨none, none, rfl, ?_⟩ (fun i σ H' _ h => ?_) (fun i x σ H' hx h => ?_) (fun σ H' h => ?_)
    · funext b
      by_cases hb : b = W
      · rw [hb, upd_same, hW1]
        rfl
      · rw [upd_ne hb]
    · obtain ⟨x, y, _, rfl⟩ := h.o
      exact seqL_of (upd_off nlW hl)
    · obtain ⟨x1, y1, rfl, rfl⟩ := h.o
      rw [List.getElem?_map] at hx
      obtain ⟨t, et, rfl⟩ := Option.map_eq_some_iff.mp hx
      have li := (List.getElem?_eq_some_iff.mp et).1
      have lg : i < (grp ns).length := by omega
      have ep := List.getElem?_eq_getElem lg
      generalize (grp ns)[i] = pq at ep
      obtain ⟨a, c⟩ := pq
      have htt : H1 t = some (.tup [.int a, .int ((c : Nat) : Int)]) := ht i t (a, c) et ep
      obtain ⟨⟨a2, a200⟩, c1, c500⟩ := nice.grp (a, c) (List.mem_of_getElem? ep)
      simp only at a2 a200 c1 c500
      have lga := num_lg (by omega) a200
      have lgc : ((c : Nat) : Int).natAbs.log2 < 1920 := num_lg (by omega) (by omega)
      have la := num_len (by omega) a200
      have lc := num_len7 c500
      have ewi : (wrds ns)[i]? = some (wrd a.toNat c) := by
        unfold wrds
        rw [List.getElem?_map, ep]
        rfl
      have eta : (((wrds ns).take (i + 1)).map fun w => V.str (SX.S w)) = (((wrds ns).take i).map fun w => V.str (SX.S w)) ++ [.str (SX.S (wrd a.toNat c))] := by
        rw [List.take_add_one, ewi, List.map_append]
        rfl
      have lacc : ((((wrds ns).take i).map fun w => V.str (SX.S w))).length < sizeLine := by
        rw [List.length_map, List.length_take]
        exact lt5 (by have := nice.words.2; omega)
      have ntW : t ≠ W := fun z => by
        rw [z, hW1] at htt
        cases htt
      have htW := upd_off (o := .lst (((wrds ns).take i).map fun w => .str (SX.S w))) ntW htt
      walk_at "sq go"
      refine ifD (fun c2 => ?_) (fun c2 => ?_)
      · have z1 : ("^" : Str).length + (Str.ofString (toString ((c : Nat) : Int))).length ≤ sizeLine := by
          rw [s_pow, s_num (by omega), SX.S_len, SX.S_len, sizeLine_eq, Int.toNat_natCast]
          show 1 + _ ≤ _
          omega
        have z2 : (Str.ofString (toString a)).length + (("^" : Str) ++ Str.ofString (toString ((c : Nat) : Int))).length ≤ sizeLine := by
          rw [s_pow, s_num (by omega), s_num (by omega), SX.S_cat, SX.S_len, SX.S_len, sizeLine_eq, Int.toNat_natCast, List.length_append]
          show _ + (1 + _) ≤ _
          omega
        walk_at "sq go"
        refine ⟨_, _, rfl, ?_⟩
        rw [upd_upd, eta, s_pow, s_num (by omega), s_num (by omega), SX.S_cat, SX.S_cat, Int.toNat_natCast]
        unfold wrd
        rw [if_pos (by omega)]
        rfl
      · have z2 : (Str.ofString (toString a)).length + ("" : Str).length ≤ sizeLine := by
          rw [s_num (by omega), SX.S_len, sizeLine_eq, show ("" : Str).length = 0 from by decide +kernel]
          omega
        walk_at "sq go"
        refine ⟨_, _, rfl, ?_⟩
        rw [upd_upd, eta, s_num (by omega), show ("" : Str) = SX.S [] from by decide +kernel, SX.S_cat, List.append_nil]
        unfold wrd
        rw [if_neg (by omega)]
    · obtain ⟨x1, y1, rfl, rfl⟩ := h.o
      walk_at "sq go"
      intro e ne
      have el : (ts.map V.ref).length = (wrds ns).length := by
        rw [List.length_map, tl]
        unfold wrds
        rw [List.length_map]
      rw [el, List.take_length] at ne ⊢
      have hk : ∀ w ∈ wrds ns, PyData.strOk (SX.S w) = true := fun w hw => by
        obtain ⟨pq, _, rfl⟩ := List.mem_map.mp hw
        exact wrd_ok _ _
      refine r_neS0 (upd_keep ne upd_same) upd_same hk ?_
      walk_at "sq go"
      have s3 : Same H (upd (upd H1 W (.lst ((wrds ns).map fun w => V.str (SX.S w)))) e (.lst [])) := fun b o h => upd_keep ne (by
        rw [upd_ne fun z => by rw [z, nW] at h; cases h]
        exact s2 b o h)
      refine ifN (fun hne => ?_) (fun he => ?_)
      · walk_at "sq go"
        have nn : ns ≠ [] := fun z => hne (by
          subst z
          rfl)
        obtain ⟨w1, w2⟩ := nice.words
        have sl := sum_le w1
        have ml := Nat.mul_le_mul_right 208 w2
        refine ⟨⟨_, rfl⟩, _, rfl, _, W, (wrds ns).map SX.S, rfl, rfl, .inl (seqL_of (upd_keep ne (by rw [List.map_map]; exact upd_same))), ?_, ?_⟩
        · rw [SX.lens, List.length_map, show (", " : Str).length = 2 from by decide +kernel]
          omega
        · rw [s_sep, SX.join_S]
          have z := q _ s3
          unfold showL at z
          rw [if_neg nn] at z
          exact z
      · have z := q _ s3
        have e0 : ns = [] := Classical.byContradiction fun z => wrds_ne z he
        unfold showL at z
        rw [if_pos e0, ← s_none] at z
        exact z

/-! ### any text read, also where it raises -/
structure RdC (mg : Str → Option Value) : Prop where
  dg : ∃ u, mg "DIGITS" = some u ∧ L2.RelV (.str "0123456789") u
  md : ∃ u, mg "MOST_DIGITS" = some u ∧ L2.RelV (.int 200) u
theorem s_digits : ("0123456789" : Str) = SX.S [48, 49, 50, 51, 52, 53, 54, 55, 56, 57] := by decide +kernel
theorem dig_in (c : Nat) : decide (c ∈ [48, 49, 50, 51, 52, 53, 54, 55, 56, 57]) = dig c := by
  unfold dig
  rw [Bool.eq_iff_iff, decide_eq_true_eq, Bool.and_eq_true, decide_eq_true_eq, decide_eq_true_eq]
  simp only [List.mem_cons, List.mem_nil_iff, or_false]
  omega
abbrev s_number_in : Stmt := topS 16
theorem sc_number_in : FnScope ["word", "sign"] ["word"] (defScope s_number_in) := ⟨rfl, rfl, rfl, by decide +kernel, rfl, by decide +kernel, by decide +kernel⟩

def spNumX : Sp := fun vs H Q _ => ∃ t : List Nat, vs = [.str (SX.S t)] ∧ Keep (t.length ≤ 5000 ∧ (numIn t = none → ∀ H', Same H H' → Q .non H') ∧ ∀ n, numIn t = some n → ∀ H', Same H H' → Q (.int ((n : Nat) : Int)) H')
theorem cal_number_in (D : DefAt K mg "number_in" s_number_in ["word"]) (B : Bt mg) (rd : RdC mg) : Cal P w K mg base 1 "number_in" spNumX [] := by
  refine D.cal sc_number_in (fun vs H Q E h => ?_) (fun f cdv A outer s H vs Q E hr h => ?_)
  · obtain ⟨n, rfl, _⟩ := h
    rfl
  · obtain ⟨t, rfl, ⟨len, q0, q1⟩⟩ := h
    obtain ⟨g_DIGITS, g_MOST_DIGITS⟩ := rd
    refine ⟨_, (pss_cons (ps_if (PW.pt (pw_or (pt_not (pt_chain op_le op_le pe_int (pe_callB call_len_str (by rfl) B.len boot_len (pa_cons (pv 0) pa_nil)) (pe_gc (by rfl) g_MOST_DIGITS))) (pw_or1 (pt_not (pt_val (pe_callB (cr_allK (K := K) rfl) (by rfl) B.all (by decide +kernel) (pa_cons (pe_lc (own := [("sign", 1)]) (g := gName 1) (by rfl) sc_number_in.nd (pi_str (pv 0)) (blkOk_by (own := [("sign", 1)]) (N := ["word", "sign"]) (sc := defScope s_number_in) (by decide +kernel)) (fun _ _ _ _ _ => (pg_name (i := 1) sc_number_in.nd rfl (Or.inl rfl))) (fun _ _ _ _ _ => pts_nil) (fun _ _ _ _ _ => (pe_cmpR op_in_str (pv 1) (pe_gc (by rfl) g_DIGITS) (by rfl)))) pa_nil))))))) (pss_one (ps_ret pe_non)) pss_nil)
  (pss_one (ps_ret (pe_callTy call_int_str (by rfl) B.int (by decide +kernel) (pa_cons (pv 0) pa_nil))))), ?_⟩
    have lS : (SX.S t).length = t.length := SX.S_len _
    walk_at "sq go"
    have none_if : ¬ (1 ≤ t.length ∧ t.length ≤ 200 ∧ t.all dig = true) → numIn t = none := fun z => if_neg z
    refine ifD (fun c1 => ?_) (fun c1 => ?_)
    · by_cases c2 : ((SX.S t).length : Int) ≤ 200
      · have d2 : decide (((SX.S t).length : Int) ≤ 200) = true := decide_eq_true c2
        walk_at "sq go"
        rw [d2]
        walk_at "sq go"
        intro D1 nD
        refine lc_it (walk_str (z := SX.S t)) (fun i H' => Keep (H' = upd H D1 (.lst ((t.take i).map fun c => V.bl (dig c))))) ⟨rfl⟩ (fun _ _ _ _ => trivial) (fun i x H1 H2 hi h hy => ?_) (fun H' h => ?_)
        · obtain rfl := h.o
          obtain ⟨rfl, c, hc, rfl⟩ := hy
          have hc2 : t[i]? = some c := by simpa using hc
          have hin : (!(Builtin.Str.occurrences ("0123456789" : Str) (SX.S [c]) 0 ("0123456789" : Str).length 1).isEmpty) = dig c := by
            rw [s_digits]
            exact (SX.in_one _ c).trans (dig_in c)
          have et : ((t.take i).map fun c => V.bl (dig c)) ++ [V.bl (dig c)] = (t.take (i + 1)).map fun c => V.bl (dig c) := by
            rw [List.take_add_one, hc2, List.map_append]
            rfl
          walk_at "sq go"
          rw [show (⟨#[c]⟩ : Str) = SX.S [c] from rfl, hin, upd_upd, et]
          exact ⟨rfl⟩
        · obtain rfl := h.o
          have el : (SX.S t).cps.size = t.length := SX.S_len _
          refine ⟨D1, t.map dig, rfl, seqL_of (by rw [upd_same, el, List.take_length, List.map_map]; rfl), ?_⟩
          rw [el, List.take_length]
          have sD := same_new (o := .lst (t.map fun c => V.bl (dig c))) nD
          have ea : (t.map dig).all id = t.all dig := by simp [List.all_map]
          refine ⟨(t.map dig).all id, rfl, ?_⟩
          rw [ea]
          cases hd : t.all dig with
          | true =>
            walk_at "sq go"
            have hn : numIn t = some (NumText.digitsVal t) := if_pos ⟨by omega, by omega, hd⟩
            refine ⟨SX.int_S hd (fun z => by subst z; exact absurd c1 (by decide)) (by omega), by rw [lS]; omega, q1 _ hn _ sD⟩
          | false =>
            walk_at "sq go"
            exact q0 (none_if fun z => by rw [hd] at z; exact absurd z.2.2 Bool.false_ne_true) _ sD
      · have d2 : decide (((SX.S t).length : Int) ≤ 200) = false := decide_eq_false c2
        walk_at "sq go"
        rw [d2]
        walk_at "sq go"
        exact q0 (none_if fun z => by omega) _ (.refl H)
    · walk_at "sq go"
      exact q0 (none_if fun z => by omega) _ (.refl H)
theorem rep_iv (z : Int) (t : Nat) : (List.replicate t [V.int z]).flatten = iv (List.replicate t z) := by
  induction t with
  | zero => rfl
  | succ n ih => rw [List.replicate_succ, List.flatten_cons, ih]; rfl
abbrev s_numbers_in : Stmt := topS 17
theorem sc_numbers_in : FnScope ["word", "first", "others", "number", "times"] ["word"] (defScope s_numbers_in) := ⟨rfl, rfl, rfl, by decide +kernel, rfl, by decide +kernel, by decide +kernel⟩

def spNumsX : Sp := fun vs H Q _ => ∃ t : List Nat, vs = [.str (SX.S t)] ∧ Keep (t.length ≤ 4100 ∧ (∀ c ∈ t, c < 0x110000) ∧ (∀ ns, numsIn t = some ns → ns.length ≤ 999) ∧ (numsIn t = none → ∀ H', Same H H' → Q .non H') ∧
  ∀ ns, numsIn t = some ns → ∀ l H', Same H H' → H l = none → H' l = some (.lst (iv ns)) → Q (.ref l) H')
theorem cal_numbers_in (D : DefAt K mg "numbers_in" s_numbers_in ["word"]) (B : Bt mg) (tx : TxC mg) (c_number_in : Cal P w K mg base 1 "number_in" spNumX []) : Cal P w K mg base 2 "numbers_in" spNumsX [] := by
  refine D.cal sc_numbers_in (fun vs H Q E h => ?_) (fun f cdv A outer s H vs Q E hr h => ?_)
  · obtain ⟨t, rfl, _⟩ := h
    rfl
  · obtain ⟨t, rfl, ⟨len, chr, few, q0, q1⟩⟩ := h
    obtain ⟨g_SEPARATOR, g_POWER, g_NO_REPLACEMENTS⟩ := tx
    refine ⟨_, (pss_cons (ps_asg (pe_split (pv 0) (pe_gc (by rfl) g_POWER)) (pg_star (K := K) rfl (pgs_cons (pg_name (i := 1) sc_numbers_in.nd rfl (Or.inl rfl)) (pgs_star (pg_name (i := 2) sc_numbers_in.nd rfl (Or.inl rfl)) pgs_nil))))
  (pss_cons (ps_set (i := 3) sc_numbers_in.nd rfl (Or.inl rfl) (pe_c c_number_in hr (by first | decide | omega) (by rfl) (pa_cons (pv 1) pa_nil)))
  (pss_cons (ps_set (i := 4) sc_numbers_in.nd rfl (Or.inl rfl) (pe_ifExp (pt_cmpR (op_neDK (K := K) hr.units) (pv 2) (pe_lst pa_nil) (nomark _)) (pe_c c_number_in hr (by first | decide | omega) (by rfl) (pa_cons (pe_ix (ix_listK (K := K)) (pv 2) pe_int (fun _ _ => rfl)) pa_nil)) pe_int))
  (pss_cons (ps_if (PW.pt (pw_or (pt_cmpR op_isN (pv 3) pe_non (nomark _)) (pw_or (pt_cmpR op_isN (pv 4) pe_non (nomark _)) (pw_or (pt_cmpR op_gt (pe_callB (len_seqK (K := K)) (by rfl) B.len boot_len (pa_cons (pv 2) pa_nil)) pe_int (nomark _)) (pw_or1 (pt_cmpR op_lt (pv 3) pe_int (nomark _))))))) (pss_one (ps_ret pe_non)) pss_nil)
  (pss_one (ps_ret (pe_op op_rep (pe_lst (pa_cons (pv 3) pa_nil)) (pv 4)))))))), ?_⟩
    obtain ⟨f0, o, es0⟩ := spl_ne 94 t
    have es : Txt.split (SX.S t) ("^" : Str) = (f0 :: o).map SX.S := by
      rw [s_pow, SX.split_S (by decide) (by decide), es0]
    have lw : (SX.S t).length + 2 ≤ sizeLine := by
      rw [SX.S_len, sizeLine_eq]
      omega
    have sub : ∀ x ∈ f0 :: o, ∃ a b, t = a ++ x ++ b := fun x hx => spl_in (S := [94]) (by rw [es0]; exact hx)
    have lsub : ∀ x ∈ f0 :: o, x.length ≤ 4100 := fun x hx => by
      obtain ⟨a, b, e⟩ := sub x hx
      have := congrArg List.length e
      rw [List.length_append, List.length_append] at this
      omega
    have csub : ∀ x ∈ f0 :: o, ∀ c ∈ x, c < 0x110000 := fun x hx c hc => by
      obtain ⟨a, b, e⟩ := sub x hx
      refine chr c ?_
      rw [e]
      simp [hc]
    have lo : o.length ≤ 4100 := by
      have := spl_count [94] t 0 []
      rw [es0, List.length_cons] at this
      omega
    walk_at "sq go"
    refine ⟨⟨_, rfl⟩, _, _, rfl, rfl, rfl, lw, fun l nl => ?_⟩
    rw [es]
    have hl : upd H l (.lst (((f0 :: o).map SX.S).map V.str)) l = some (.lst (V.str (SX.S f0) :: (o.map SX.S).map V.str)) := upd_same
    walk_at "sq go"
    refine ⟨by rw [List.length_map, List.length_map]; omega, fun O nO => ?_⟩
    have hO : upd (upd H l (.lst (((f0 :: o).map SX.S).map V.str))) O (.lst ((o.map SX.S).map V.str)) O = some (.lst (o.map fun w => V.str (SX.S w))) := by
      rw [upd_same, List.map_map]
      rfl
    have sO := (same_new (o := .lst (((f0 :: o).map SX.S).map V.str)) nl).trans (same_new (o := .lst ((o.map SX.S).map V.str)) nO)
    have en : numsIn t = (match f0 :: o with
      | [] => none
      | f :: o => match numIn f, (match o with | [] => some 1 | t :: _ => numIn t) with
        | some n, some t => if 1 < o.length ∨ n < 2 then none else some (List.replicate t (n : Int))
        | _, _ => none) := by
      unfold numsIn
      rw [es0] <;> rfl
    simp only at en
    have strO : ∀ w ∈ o, PyData.strOk (SX.S w) = true := fun w hw => strOk_S (csub w (List.mem_cons_of_mem _ hw))
    clear nl
    generalize upd (upd H l (.lst (((f0 :: o).map SX.S).map V.str))) O (.lst ((o.map SX.S).map V.str)) = H0 at *
    have lf0 := lsub f0 (List.mem_cons_self ..)
    -- the rest of the def, the first number known or not
    walk_at "sq go"
    refine ⟨⟨by omega, fun e1 H1 s1 => ?_, fun n1 e1 H1 s1 => ?_⟩⟩
    · have hO1 := s1 _ _ hO
      walk_at "sq go"
      intro e ne
      have hO2 := upd_keep (o := .lst []) ne hO1
      refine r_neS0 (ws := o) hO2 upd_same strO ?_
      have sA := (sO.trans s1).trans (same_new (o := .lst []) ne)
      have bad : numsIn t = none := by
        rw [en, e1]
      walk_at "sq go"
      refine ifN (fun c => ?_) (fun c => ?_)
      · obtain ⟨t1, o1, rfl⟩ : ∃ t1 o1, o = t1 :: o1 := by
          cases o with
          | nil => exact absurd rfl c
          | cons t1 o1 => exact ⟨t1, o1, rfl⟩
        have lt1 := lsub t1 (List.mem_cons_of_mem _ (List.mem_cons_self ..))
        walk_at "sq go"
        refine ⟨atI_nat (j := 0) rfl, ?_⟩
        walk_at "sq go"
        refine ⟨⟨by omega, fun e2 H2 s2 => ?_, fun n2 e2 H2 s2 => ?_⟩⟩
        · walk_at "sq go"
          exact q0 bad _ (sA.trans s2)
        · walk_at "sq go"
          exact q0 bad _ (sA.trans s2)
      · walk_at "sq go"
        exact q0 bad _ sA
    · have hO1 := s1 _ _ hO
      walk_at "sq go"
      intro e ne
      have hO2 := upd_keep (o := .lst []) ne hO1
      refine r_neS0 (ws := o) hO2 upd_same strO ?_
      have sA := (sO.trans s1).trans (same_new (o := .lst []) ne)
      walk_at "sq go"
      refine ifN (fun c => ?_) (fun c => ?_)
      · obtain ⟨t1, o1, rfl⟩ : ∃ t1 o1, o = t1 :: o1 := by
          cases o with
          | nil => exact absurd rfl c
          | cons t1 o1 => exact ⟨t1, o1, rfl⟩
        have lt1 := lsub t1 (List.mem_cons_of_mem _ (List.mem_cons_self ..))
        walk_at "sq go"
        refine ⟨atI_nat (j := 0) rfl, ?_⟩
        walk_at "sq go"
        refine ⟨⟨by omega, fun e2 H2 s2 => ?_, fun n2 e2 H2 s2 => ?_⟩⟩
        · have bad : numsIn t = none := by
            rw [en, e1]
            simp only [e2]
          walk_at "sq go"
          exact q0 bad _ (sA.trans s2)
        · have hO3 := s2 _ _ hO2
          have hen : numsIn t = if 1 < (t1 :: o1).length ∨ n1 < 2 then none else some (List.replicate n2 (n1 : Int)) := by
            rw [en, e1]
            simp only [e2]
          walk_at "sq go"
          refine ifD (fun c1 => ?_) (fun c1 => ?_)
          · walk_at "sq go"
            exact q0 (by rw [hen, if_pos (.inl (by rw [List.length_map] at c1; omega))]) _ (sA.trans s2)
          · walk_at "sq go"
            refine ifD (fun c2 => ?_) (fun c2 => ?_)
            · walk_at "sq go"
              exact q0 (by rw [hen, if_pos (.inr (by omega))]) _ (sA.trans s2)
            · have hs : numsIn t = some (List.replicate n2 (n1 : Int)) := by
                rw [hen, if_neg (by
                  rintro (z | z)
                  · rw [List.length_map] at c1
                    omega
                  · omega)]
              have l9 := few _ hs
              rw [List.length_replicate] at l9
              walk_at "sq go"
              intro e2 ne2
              walk_at "sq go"
              intro p np
              rw [Int.toNat_natCast, rep_iv] at *
              exact q1 _ hs p _ (sA.trans (s2.trans ((same_new ne2).trans (same_new np)))) ((sA.trans (s2.trans (same_new ne2))).free np) upd_same
      · have o0 : o = [] := c
        subst o0
        have hen : numsIn t = if 1 < 0 ∨ n1 < 2 then none else some (List.replicate 1 (n1 : Int)) := by
          rw [en, e1]
          rfl
        walk_at "sq go"
        refine ifD (fun c2 => ?_) (fun c2 => ?_)
        · walk_at "sq go"
          exact q0 (by rw [hen, if_pos (.inr (by omega))]) _ sA
        · have hs : numsIn t = some (List.replicate 1 (n1 : Int)) := by
            rw [hen, if_neg (by omega)]
          walk_at "sq go"
          intro e2 ne2
          walk_at "sq go"
          intro p np
          exact q1 _ hs p _ (sA.trans ((same_new ne2).trans (same_new np))) ((sA.trans (same_new ne2)).free np) upd_same
abbrev s_read_list : Stmt := topS 18
theorem sc_read_list : FnScope ["text", "found", "word", "numbers"] ["text"] (defScope s_read_list) := ⟨rfl, rfl, rfl, by decide +kernel, rfl, by decide +kernel, by decide +kernel⟩

def spReadX (CR : Addr) : Sp := fun vs H Q E => ∃ u : List Nat, vs = [.str (SX.S u)] ∧ Keep (RdOk u ∧ (∀ ns, readR u = some ns → ∀ l H', Same H H' → H l = none → H' l = some (.lst (iv ns)) → Q (.ref l) H') ∧
  (readR u = none → ∀ d H', Same H H' → H' d = some (.xd [("value", .str (SX.S u))]) → E (.ref CR) (some d) H'))
theorem two_readX {CR : Addr} (D : DefAt K mg "read_list" s_read_list ["text"]) (B : Bt mg) (tx : TxC mg) (c_numbers_in : Cal P w K mg base 2 "numbers_in" spNumsX []) (c_show_list : Cal P w K mg base 2 "show_list" (spShow K) []) (c_Unreadable : Rai P w K mg base 1 "Unreadable" CR) : Def2X P w K mg base 4 "read_list" s_read_list ["text"] (spReadX CR) := by
  refine D.twoX sc_read_list (fun vs H Q E h => ?_) (fun f cdv A outer s H vs Q E hr h tk => ?_)
  · obtain ⟨u, rfl, _⟩ := h
    rfl
  · obtain ⟨u, rfl, ⟨ok, q, qe⟩⟩ := h
    obtain ⟨g_SEPARATOR, g_POWER, g_NO_REPLACEMENTS⟩ := tx
    refine ⟨_, (pss_cons (ps_set (i := 1) sc_read_list.nd rfl (Or.inl rfl) (pe_lst pa_nil))
  (pss_cons (ps_for PassesOwn.leaving rfl (pi_listK (K := K) (pe_ifExp (pt_cmpR op_ne (pv 0) (pe_gc (by rfl) g_NO_REPLACEMENTS) (nomark _)) (pe_split (pv 0) (pe_gc (by rfl) g_SEPARATOR)) (pe_lst pa_nil))) (pg_name (i := 2) sc_read_list.nd rfl (Or.inl rfl))
   (pss_cons (ps_set (i := 3) sc_read_list.nd rfl (Or.inl rfl) (pe_c c_numbers_in hr (by first | decide | omega) (by rfl) (pa_cons (pv 2) pa_nil)))
  (pss_cons (ps_if (pt_cmpR op_isN (pv 3) pe_non (nomark _)) (pss_one (ps_rx c_Unreadable hr (by first | decide | omega) (by rfl) tk (pv 0))) pss_nil)
  (pss_one (ps_expr (pe_bm PySem.F.plainAttrs_list PySem.F.slot_list_extend PySem.F.type_list_extend mt_extend (pv 1) (pa_cons (pv 3) pa_nil)))))))
  (pss_cons (ps_if (pt_cmpR op_ne (pe_c c_show_list hr (by first | decide | omega) (by rfl) (pa_cons (pv 1) pa_nil)) (pv 0) (nomark _)) (pss_one (ps_rx c_Unreadable hr (by first | decide | omega) (by rfl) tk (pv 0))) pss_nil)
  (pss_one (ps_ret (pv 1)))))), ?_⟩
    walk_at "sq go"
    intro F nF
    have hF : upd H F (.lst []) F = some (.lst []) := upd_same
    have sF := same_new (o := .lst []) nF
    walk_at "sq go"
    by_cases e0 : u = noneL
    · subst e0
      have er : readR noneL = some [] := by rfl
      refine ifN (fun c => absurd (by rw [s_none]) c) (fun _ => ?_)
      walk_at "sq go"
      intro e ne
      have hF2 := upd_keep (o := .lst []) ne hF
      have he0 : upd (upd H F (.lst [])) e (.lst []) e = some (.lst []) := upd_same
      walk_at "sq go"
      refine for_list (K := K) (a := e) (xs := []) (fun i σ H' => Keep (σ = [some (.str (SX.S noneL)), some (.ref F), none, none] ∧ H' = upd (upd H F (.lst [])) e (.lst []))) ⟨rfl, rfl⟩ (fun i σ H' _ h => ?_) (fun i x σ H' hx h => ?_) (fun σ H' h => ?_)
      · obtain ⟨_, rfl⟩ := h.o
        exact seqL_of upd_same
      · cases hx
      · obtain ⟨rfl, rfl⟩ := h.o
        have hF3 : SqL K (upd (upd H F (.lst [])) e (.lst [])) F (iv []) := seqL_of hF2
        walk_at "sq go"
        refine ⟨⟨(fun k hk => nomatch hk), by decide, by decide⟩, fun H2 s2 => ?_⟩
        walk_at "sq go"
        exact q [] er F _ (sF.trans ((same_new ne).trans s2)) nF (s2 _ _ hF2)
    · have hd : decide (V.str (SX.S u) = V.str ("none" : Str)) = false := decide_eq_false fun z => by
        rw [s_none] at z
        exact e0 (SX.S_inj (V.str.inj z))
      rw [hd]
      have ew0 : wordsOf u = TL.spl [44, 32] 0 [] u := if_neg e0
      have es : Txt.split (SX.S u) (", " : Str) = (wordsOf u).map SX.S := by
        rw [s_sep, SX.split_S (by decide) (by decide), ew0]
      have lw : (SX.S u).length + 2 ≤ sizeLine := by
        have := ok.1
        rw [SX.S_len, sizeLine_eq]
        omega
      walk_at "sq go"
      refine ⟨⟨_, rfl⟩, _, _, rfl, rfl, rfl, lw, fun L nL => ?_⟩
      rw [es]
      have hL : upd (upd H F (.lst [])) L (.lst (((wordsOf u).map SX.S).map V.str)) L = some (.lst (((wordsOf u).map SX.S).map V.str)) := upd_same
      have hF2 := upd_keep (o := .lst (((wordsOf u).map SX.S).map V.str)) nL hF
      have nLF : L ≠ F := fun z => by
        rw [z, hF] at nL
        cases nL
      have sL : ∀ {G : Hp}, But F (upd (upd H F (.lst [])) L (.lst (((wordsOf u).map SX.S).map V.str))) G → Same H G := fun b c x e => by
        have ncF : c ≠ F := fun z => by
          rw [z, nF] at e
          cases e
        exact b _ _ ncF (upd_keep nL (by rw [upd_ne ncF]; exact e))
      walk_at "sq go"
      refine for_list (K := K) (a := L) (xs := ((wordsOf u).map SX.S).map V.str) (fun i σ H' => Keep (∃ x y a, σ = [some (.str (SX.S u)), some (.ref F), x, y] ∧ But F (upd (upd H F (.lst [])) L (.lst (((wordsOf u).map SX.S).map V.str))) H' ∧ i ≤ (wordsOf u).length ∧ numsAll ((wordsOf u).take i) = some a ∧ H' F = some (.lst (iv a)))) ⟨none, none, [], rfl, .refl _ _, Nat.zero_le _, rfl, hF2⟩ (fun i σ H' _ h => ?_) (fun i x σ H' hx h => ?_) (fun σ H' h => ?_)
      · obtain ⟨_, _, _, _, b, _⟩ := h.o
        exact seqL_of (b _ _ nLF hL)
      · obtain ⟨x1, y1, a, rfl, b, hi, ea, hFi⟩ := h.o
        rw [List.getElem?_map, List.getElem?_map] at hx
        obtain ⟨w0, ew, rfl⟩ := Option.map_eq_some_iff.mp hx
        obtain ⟨w, ew2, rfl⟩ := Option.map_eq_some_iff.mp ew
        have iw : ∃ x y, u = x ++ w ++ y := words_in (List.mem_of_getElem? ew2)
        have hi1 : i + 1 ≤ (wordsOf u).length := (List.getElem?_eq_some_iff.mp ew2).1
        have et := nums_take ew2 ea
        have lwd : w.length ≤ 4100 := by
          obtain ⟨x, y, e⟩ := iw
          have l := ok.1
          have := congrArg List.length e
          rw [List.length_append, List.length_append] at this
          omega
        have cwd : ∀ c ∈ w, c < 0x110000 := fun c hc => by
          obtain ⟨x, y, e⟩ := iw
          refine ok.2.1 c ?_
          rw [e]
          simp [hc]
        walk_at "sq go"
        refine ⟨⟨lwd, cwd, fun ns e => ?_, fun e H1 s1 => ?_, fun ns e l H1 s1 nl hl => ?_⟩⟩
        · obtain ⟨n, t, rfl, t9, _⟩ := nums_of ok iw e
          rw [List.length_replicate]
          exact t9
        · walk_at "sq go"
          intro d nd
          refine qe ?_ d _ ((sL b).trans (s1.trans (same_new nd))) upd_same
          unfold readR
          rw [nums_bad e (List.mem_of_getElem? ew2)]
        · have hF3 := s1 _ _ hFi
          rw [e] at et
          have nw := nums_niceW ok hi1 et
          have la : (iv a).length + (iv ns).length ≤ sizeLine := by
            have := nw.1.2.1
            rw [List.length_append] at this
            rw [iv_len, iv_len, sizeLine_eq]
            omega
          walk_at "sq go"
          refine ⟨_, _, a ++ ns, rfl, b.trans ((But.of s1).trans But.put), hi1, et, ?_⟩
          rw [upd_same]
          simp
      · obtain ⟨x1, y1, a, rfl, b, hi, ea, hFi⟩ := h.o
        have eg : (wordsOf u).take (((wordsOf u).map SX.S).map V.str).length = wordsOf u := by
          refine List.take_of_length_le ?_
          simp
        rw [eg] at ea
        have nw := (nums_niceW ok (Nat.le_refl _) (by rw [List.take_length]; exact ea)).1
        have er : readR u = if showL a = u then some a else none := by
          unfold readR
          rw [ea]
        walk_at "sq go"
        refine ⟨⟨nw⟩, fun H2 s2 => ?_⟩
        walk_at "sq go"
        refine ifN (fun c => ?_) (fun c => ?_)
        · walk_at "sq go"
          intro d nd
          refine qe ?_ d _ ((sL b).trans (s2.trans (same_new nd))) upd_same
          rw [er, if_neg fun z => c (by rw [z])]
        · walk_at "sq go"
          refine q a ?_ F _ ((sL b).trans s2) nF (s2 _ _ hFi)
          rw [er, if_pos (SX.S_inj (V.str.inj c))]

/-! ### the kind of a kept exception -/
structure Knd (K : PySem.W.Frag) (CL CN CC CU CR CS C : Addr) (b1 b2 b3 b4 b5 : Bool) : Prop where
  ec : ExcC K C
  xf : XfC K C
  nv : PySem.W.findIn K (.ref C) "value" = some none
  k1 : PySem.W.kitOne K (.ref C) (.ref CL) = some b1
  k2 : PySem.W.kitOne K (.ref C) (.ref CN) = some b2
  k3 : PySem.W.kitOne K (.ref C) (.ref CC) = some b3
  k4 : PySem.W.kitOne K (.ref C) (.ref CU) = some b4
  k5 : PySem.W.kitOne K (.ref C) (.ref CR) = some b5
  kS : PySem.W.kitOne K (.ref C) (.ref CS) = some true
  kV : PySem.W.kitOne K (.ref C) (.type "ValueError") = some true
  ex : PySem.W.exmOne K (.ref C) (.ref CS) = some true
theorem knd_mk {h : Heap} {CL CN CC CU CR CS C : Addr} {b1 b2 b3 b4 b5 : Bool} {y y1 y2 y3 y4 y5 y6 : Str} (_ : K.In h) (_ : mg y = some (.ref C)) (_ : mg y1 = some (.ref CL)) (_ : mg y2 = some (.ref CN)) (_ : mg y3 = some (.ref CC)) (_ : mg y4 = some (.ref CU)) (_ : mg y5 = some (.ref CR)) (_ : mg y6 = some (.ref CS))
    (hg : PySem.W.findIn K (.ref C) "__getattribute__" = some (some (.builtin "BaseException.__getattribute__"))) (hk : PySem.W.findIn K (.ref C) "__getattr__" = some none) (hs : PySem.W.subIn K (.ref C) (.type "BaseException") = some true) (hd : PySem.W.hasDictIn K C = true)
    (ha : PySem.W.findIn K (.ref C) "__class__" = some (some (.builtin "object.__class__"))) (hn : PySem.W.specialIn K (.builtin "object.__class__") "__get__" = some (some (.builtin "getset_descriptor.__get__"))) (ht : PySem.W.takesIn K (.builtin "object.__class__") = some true) (hm : PySem.W.mroIn K C (.type "object") = some true)
    (nv : PySem.W.findIn K (.ref C) "value" = some none) (k1 : PySem.W.kitOne K (.ref C) (.ref CL) = some b1) (k2 : PySem.W.kitOne K (.ref C) (.ref CN) = some b2) (k3 : PySem.W.kitOne K (.ref C) (.ref CC) = some b3) (k4 : PySem.W.kitOne K (.ref C) (.ref CU) = some b4) (k5 : PySem.W.kitOne K (.ref C) (.ref CR) = some b5)
    (kS : PySem.W.kitOne K (.ref C) (.ref CS) = some true) (kV : PySem.W.kitOne K (.ref C) (.type "ValueError") = some true) (x1 : PySem.W.subIn K (.ref CS) (.type "BaseException") = some true) (x2 : PySem.W.isClsIn K CS = true) (x3 : PySem.W.typeIn K (.ref CS) = some (.type "type")) (x4 : PySem.W.subIn K (.ref C) (.ref CS) = some true) : Knd K CL CN CC CU CR CS C b1 b2 b3 b4 b5 :=
  ⟨⟨hg, hk, hs, hd, ha, hn, ht, hm⟩, ⟨hg, hk, hs, hd⟩, nv, k1, k2, k3, k4, k5, kS, kV, exm_mk x1 x2 x3 x4⟩
structure Cls6 (mg : Str → Option Value) (CL CN CC CU CR CS : Addr) : Prop where
  l : mg "InvalidList" = some (.ref CL)
  n : mg "InvalidNumber" = some (.ref CN)
  c : mg "InvalidCharacter" = some (.ref CC)
  u : mg "NothingToUndo" = some (.ref CU)
  r : mg "Unreadable" = some (.ref CR)
  s : mg "SqueezeError" = some (.ref CS)

/-- signs that are looked at one by one -/
theorem r_neS1 {H : Hp} {l b : Addr} {cs : List Nat} {Q : VK} (h1 : H l = some (.lst (cs.map fun c => V.str (SX.S [c])))) (h2 : H b = some (.lst [])) (hk : ∀ c ∈ cs, c < 0x110000) (q : Q (.bl (!decide (cs = []))) H) : rNeQ K (.ref l) (.ref b) H Q := by
  refine r_neS0 (ws := cs.map fun c => [c]) (by rw [h1, List.map_map]; rfl) h2 (fun w hw => ?_) ?_
  · obtain ⟨c, hc, rfl⟩ := List.mem_map.mp hw
    exact strOk_S fun d hd => by
      rw [List.mem_singleton.mp hd]
      exact hk c hc
  · have e : decide (cs.map (fun c => [c]) = []) = decide (cs = []) := decide_eq_decide.mpr List.map_eq_nil_iff
    rw [e]
    exact q
abbrev s_law_number : Stmt := topS 22
theorem sc_law_number : FnScope ["word", "least", "sign"] ["word", "least"] (defScope s_law_number) := ⟨rfl, rfl, rfl, by decide +kernel, rfl, by decide +kernel, by decide +kernel⟩

def spLNum : Sp := fun vs H Q _ => ∃ t : List Nat, vs = [.str (SX.S t), .int 2] ∧ Keep (t.length ≤ 5000 ∧ (∀ c ∈ t, c < 0x110000) ∧ (lawNum t = none → ∀ H', Same H H' → Q .non H') ∧ ∀ n, lawNum t = some n → ∀ H', Same H H' → Q (.int ((n : Nat) : Int)) H')
theorem cal_lnum (D : DefAt K mg "_law_number" s_law_number ["word", "least"]) (B : Bt mg) : Cal P w K mg base 1 "_law_number" spLNum [] := by
  refine D.cal sc_law_number (fun vs H Q E h => ?_) (fun f cdv A outer s H vs Q E hr h => ?_)
  · obtain ⟨n, rfl, _⟩ := h
    rfl
  · obtain ⟨t, rfl, ⟨len, chr, q0, q1⟩⟩ := h
    refine ⟨_, (pss_cons (ps_if (PW.pt (pw_or (pt_not (pt_chain op_le op_le pe_int (pe_callB call_len_str (by rfl) B.len boot_len (pa_cons (pv 0) pa_nil)) pe_int)) (pw_or (pt_cmpR (op_neDK (K := K) hr.units) (pe_lc (own := [("sign", 2)]) (g := gName 2) (by rfl) sc_law_number.nd (pi_str (pv 0)) (blkOk_by (own := [("sign", 2)]) (N := ["word", "least", "sign"]) (sc := defScope s_law_number) (by decide +kernel)) (fun _ _ _ _ _ => (pg_name (i := 2) sc_law_number.nd rfl (Or.inl rfl))) (fun _ _ _ _ _ => (pts_one (pt_cmpR op_notin_str (pv 2) pe_str (by rfl)))) (fun _ _ _ _ _ => (pv 2))) (pe_lst pa_nil) (nomark _)) (pw_or1 (pt_cmpR op_eq (pe_ix ix_str (pv 0) pe_int (fun _ _ => rfl)) pe_str (nomark _)))))) (pss_one (ps_ret pe_non)) pss_nil)
  (pss_one (ps_ret (pe_ifExp (pt_cmpR op_ge (pe_callTy call_int_str (by rfl) B.int (by decide +kernel) (pa_cons (pv 0) pa_nil)) (pv 1) (nomark _)) (pe_callTy call_int_str (by rfl) B.int (by decide +kernel) (pa_cons (pv 0) pa_nil)) pe_non)))), ?_⟩
    have lS : (SX.S t).length = t.length := SX.S_len _
    have none_if : ¬ (1 ≤ t.length ∧ t.length ≤ 200 ∧ t.all dig = true ∧ t.headD 0 ≠ 48) → lawNum t = none := fun z => if_neg z
    walk_at "sq go"
    refine ifD (fun c1 => ?_) (fun c1 => ?_)
    · by_cases c2 : ((SX.S t).length : Int) ≤ 200
      · have d2 : decide (((SX.S t).length : Int) ≤ 200) = true := decide_eq_true c2
        walk_at "sq go"
        rw [d2]
        walk_at "sq go"
        intro D1 nD
        refine lc_it (walk_str (z := SX.S t)) (fun i H' => Keep (H' = upd H D1 (.lst (((t.take i).filter fun c => !dig c).map fun c => V.str (SX.S [c]))))) ⟨rfl⟩ (fun _ _ _ _ => trivial) (fun i x H1 H2 hi h hy => ?_) (fun H' h => ?_)
        · obtain rfl := h.o
          obtain ⟨rfl, c, hc, rfl⟩ := hy
          have hc2 : t[i]? = some c := by simpa using hc
          have hin : (!(Builtin.Str.occurrences ("0123456789" : Str) (SX.S [c]) 0 ("0123456789" : Str).length 1).isEmpty) = dig c := by
            rw [s_digits]
            exact (SX.in_one _ c).trans (dig_in c)
          walk_at "sq go"
          rw [show (⟨#[c]⟩ : Str) = SX.S [c] from rfl, hin]
          cases hd : dig c with
          | true =>
            have et : ((t.take (i + 1)).filter fun c => !dig c) = (t.take i).filter fun c => !dig c := by
              rw [List.take_add_one, hc2, List.filter_append]
              simp [hd]
            exact ⟨by rw [et]⟩
          | false =>
            have et : ((t.take (i + 1)).filter fun c => !dig c) = ((t.take i).filter fun c => !dig c) ++ [c] := by
              rw [List.take_add_one, hc2, List.filter_append]
              simp [hd]
            have lz : (((t.take i).filter fun c => !dig c).map fun c => V.str (SX.S [c])).length < sizeLine := by
              rw [List.length_map]
              have := List.length_filter_le (fun c => !dig c) (t.take i)
              rw [List.length_take] at this
              exact ltW (by omega)
            walk_at "sq go"
            rw [upd_upd, et, List.map_append]
            exact ⟨rfl⟩
        · obtain rfl := h.o
          have el : (SX.S t).cps.size = t.length := SX.S_len _
          rw [el, List.take_length]
          have sD := same_new (o := .lst ((t.filter fun c => !dig c).map fun c => V.str (SX.S [c]))) nD
          walk_at "sq go"
          intro e ne
          have sE := sD.trans (same_new (o := .lst []) ne)
          refine r_neS1 (upd_keep ne upd_same) upd_same (fun c hc => chr c ((List.mem_filter.mp hc).1)) ?_
          have ed : (t.filter fun c => !dig c) = [] ↔ t.all dig = true := by
            rw [List.filter_eq_nil_iff, List.all_eq_true]
            constructor
            · intro z c hc
              simpa using z c hc
            · intro z c hc
              simp [z c hc]
          walk_at "sq go"
          refine ifN (fun hne => ?_) (fun hnil => ?_)
          · walk_at "sq go"
            exact q0 (none_if fun z => hne (ed.mpr z.2.2.1)) _ sE
          · have hall := ed.mp hnil
            obtain ⟨c0, r0, rfl⟩ : ∃ c r, t = c :: r := by
              cases t with
              | nil => exact absurd c1 (by rw [lS]; decide)
              | cons c r => exact ⟨c, r, rfl⟩
            have l0 : (SX.S (c0 :: r0)).length ≤ sizeLine := by
              rw [lS, sizeLine_eq]
              omega
            have at0 : atI (SX.S (c0 :: r0)).cps.toList 0 = some c0 := atI_nat (j := 0) rfl
            walk_at "sq go"
            by_cases z48 : c0 = 48
            · subst z48
              have d0 : decide (V.str (⟨#[48]⟩ : Str) = V.str (Str.ofString "0")) = true := decide_eq_true (by decide)
              rw [d0]
              walk_at "sq go"
              exact q0 (none_if fun z => z.2.2.2 rfl) _ sE
            · have d0 : decide (V.str (⟨#[c0]⟩ : Str) = V.str (Str.ofString "0")) = false := decide_eq_false fun z => by
                have z2 : (⟨#[c0]⟩ : Str) = Str.ofString "0" := V.str.inj z
                have z3 : (⟨#[c0]⟩ : Str) = ⟨#[48]⟩ := z2.trans (by decide)
                injection z3 with z4
                have z5 := congrArg Array.toList z4
                exact z48 (List.cons.inj z5).1
              rw [d0]
              have hd : (c0 :: r0).all dig = true := hall
              have is : lawNum (c0 :: r0) = if 2 ≤ NumText.digitsVal (c0 :: r0) then some (NumText.digitsVal (c0 :: r0)) else none := if_pos ⟨by rw [lS] at c1; omega, by rw [lS] at c2; omega, hd, z48⟩
              have iS : intText? (SX.S (c0 :: r0)) = some ((NumText.digitsVal (c0 :: r0) : Nat) : Int) := SX.int_S hd (fun z => nomatch z) (by rw [lS] at c2; omega)
              walk_at "sq go"
              by_cases z2 : (2 : Int) ≤ ((NumText.digitsVal (c0 :: r0) : Nat) : Int)
              · rw [decide_eq_true z2]
                walk_at "sq go"
                exact q1 _ (by rw [is, if_pos (by omega)]) _ sE
              · rw [decide_eq_false z2]
                walk_at "sq go"
                exact q0 (by rw [is, if_neg (by omega)]) _ sE
      · have d2 : decide (((SX.S t).length : Int) ≤ 200) = false := decide_eq_false c2
        walk_at "sq go"
        rw [d2]
        walk_at "sq go"
        exact q0 (none_if fun z => by omega) _ (.refl H)
    · walk_at "sq go"
      exact q0 (none_if fun z => by omega) _ (.refl H)
theorem cut_lastI (xs : List Int) : cutV (iv xs) (some (-1)) none = iv (xs.drop (xs.length - 1)) := by
  unfold cutV
  have e1 : HT.sIx (iv xs).length 0 (some (-1)) = xs.length - 1 := by
    show (if (-1 : Int) < 0 then ((-1 : Int) + ((iv xs).length : Int)).toNat else min (-1 : Int).toNat (iv xs).length) = _
    rw [if_pos (by decide), iv_len]
    omega
  rw [e1, HT.sIx_none, iv_len, ← iv_drop]
  exact List.take_of_length_le (by rw [List.length_drop, iv_len]; omega)
theorem last_un {gs : List (Int × Nat)} (h : ∀ p ∈ gs, 1 ≤ p.2) (n : Int) : ((ungrp gs).drop ((ungrp gs).length - 1) = [n]) ↔ gs.getLast?.map Prod.fst = some n := by
  cases e : gs.getLast? with
  | none =>
    rw [List.getLast?_eq_none_iff] at e
    subst e
    constructor
    · intro z
      cases z
    · intro z
      cases z
  | some x =>
    obtain ⟨a, c⟩ := x
    have es := last_split e
    have hc : 1 ≤ c := h (a, c) (by rw [es]; simp)
    obtain ⟨k, rfl⟩ : ∃ k, c = k + 1 := ⟨c - 1, by omega⟩
    have eu : ungrp gs = (ungrp gs.dropLast ++ List.replicate k a) ++ [a] := by
      rw [es, ungrp_app, List.append_assoc, ← List.replicate_succ', ← es]
      simp [ungrp]
    rw [eu, show ((ungrp gs.dropLast ++ List.replicate k a) ++ [a]).length - 1 = (ungrp gs.dropLast ++ List.replicate k a).length by simp, List.drop_left]
    constructor
    · intro z
      rw [(List.cons.inj z).1]
      rfl
    · intro z
      have z1 : a = n := Option.some.inj z
      rw [z1]
abbrev s_law_due : Stmt := topS 23
theorem sc_law_due : FnScope ["written", "found", "word", "halves", "number", "times"] ["written"] (defScope s_law_due) := ⟨rfl, rfl, rfl, by decide +kernel, rfl, by decide +kernel, by decide +kernel⟩

def spLDue : Sp := fun vs H Q _ => ∃ u : List Nat, vs = [.str (SX.S u)] ∧ Keep (RdOk u ∧ (dueR u = none → ∀ l H', Same H H' → H l = none → H' l = some (.lst []) → Q (.ref l) H') ∧ ∀ ns, dueR u = some ns → ∀ (l r : Addr) H', Same H H' → H l = none → H r = none → H' l = some (.lst [.ref r]) → H' r = some (.lst (iv ns)) → Q (.ref l) H')
theorem cal_ldue (D : DefAt K mg "_law_due" s_law_due ["written"]) (B : Bt mg) (c_law_number : Cal P w K mg base 1 "_law_number" spLNum []) : Cal P w K mg base 2 "_law_due" spLDue [] := by
  refine D.cal sc_law_due (fun vs H Q E h => ?_) (fun f cdv A outer s H vs Q E hr h => ?_)
  · obtain ⟨n, rfl, _⟩ := h
    rfl
  · obtain ⟨u, rfl, ⟨ok, q0, q1⟩⟩ := h
    refine ⟨_, (pss_cons (ps_if (pt_cmpR op_eq (pv 0) pe_str (nomark _)) (pss_one (ps_ret (pe_lst (pa_cons (pe_lst pa_nil) pa_nil)))) pss_nil)
  (pss_cons (ps_set (i := 1) sc_law_due.nd rfl (Or.inl rfl) (pe_lst pa_nil))
  (pss_cons (ps_for PassesOwn.never rfl (pi_listK (K := K) (pe_split (pv 0) pe_str)) (pg_name (i := 2) sc_law_due.nd rfl (Or.inl rfl))
   (pss_cons (ps_set (i := 3) sc_law_due.nd rfl (Or.inl rfl) (pe_split (pv 2) pe_str))
  (pss_cons (ps_par (i := 4) (j := 5) rfl sc_law_due.nd rfl rfl (by decide) rfl rfl (pa_cons (pe_c c_law_number hr (by first | decide | omega) (by rfl) (pa_cons (pe_ix (ix_listK (K := K)) (pv 3) pe_int (fun _ _ => rfl)) (pa_cons pe_int pa_nil))) (pa_cons pe_int pa_nil)) (by rfl))
  (pss_cons (ps_if (pt_cmpR op_gt (pe_callB (len_seqK (K := K)) (by rfl) B.len boot_len (pa_cons (pv 3) pa_nil)) pe_int (nomark _)) (pss_one (ps_set (i := 5) sc_law_due.nd rfl (Or.inl rfl) (pe_c c_law_number hr (by first | decide | omega) (by rfl) (pa_cons (pe_ix (ix_listK (K := K)) (pv 3) pe_int (fun _ _ => rfl)) (pa_cons pe_int pa_nil))))) pss_nil)
  (pss_cons (ps_if (PW.pt (pw_or (pt_cmpR op_isN (pv 4) pe_non (nomark _)) (pw_or (pt_cmpR op_isN (pv 5) pe_non (nomark _)) (pw_or (pt_cmpR op_gt (pe_callB (len_seqK (K := K)) (by rfl) B.len boot_len (pa_cons (pv 3) pa_nil)) pe_int (nomark _)) (pw_or1 (pt_cmpR (op_eqDK (K := K) hr.units) (pe_slice (sl_listK (K := K)) (pv 1) (po_some (pe_un un_neg pe_int)) po_none) (pe_lst (pa_cons (pv 4) pa_nil)) (nomark _))))))) (pss_one (ps_ret (pe_lst pa_nil))) pss_nil)
  (pss_one (ps_set (i := 1) sc_law_due.nd rfl (Or.inl rfl) (pe_op op_cat (pv 1) (pe_op op_rep (pe_lst (pa_cons (pv 4) pa_nil)) (pv 5))))))))))
  (pss_one (ps_ret (pe_lst (pa_cons (pv 1) pa_nil))))))), ?_⟩
    have lS : (SX.S u).length = u.length := SX.S_len _
    walk_at "sq go"
    by_cases e0 : u = noneL
    · subst e0
      rw [show decide (V.str (SX.S noneL) = V.str ("none" : Str)) = true from decide_eq_true (by rw [s_none])]
      walk_at "sq go"
      intro r nr
      walk_at "sq go"
      intro l nl
      have sr := same_new (o := .lst []) nr
      have sl := sr.trans (same_new (o := .lst [V.ref r]) nl)
      exact q1 [] rfl l r _ sl (sr.free nl) nr upd_same (upd_keep nl upd_same)
    · have hd : decide (V.str (SX.S u) = V.str ("none" : Str)) = false := decide_eq_false fun z => by
        rw [s_none] at z
        exact e0 (SX.S_inj (V.str.inj z))
      rw [hd]
      walk_at "sq go"
      intro F nF
      have hF : upd H F (.lst []) F = some (.lst []) := upd_same
      have sF := same_new (o := .lst []) nF
      have ew0 : wordsOf u = TL.spl [44, 32] 0 [] u := if_neg e0
      have es : Txt.split (SX.S u) (", " : Str) = (wordsOf u).map SX.S := by
        rw [s_sep, SX.split_S (by decide) (by decide), ew0]
      have ed : dueR u = (dueGs (wordsOf u)).map ungrp := by
        unfold dueR
        rw [if_neg e0, ew0]
      have lw : (SX.S u).length + 2 ≤ sizeLine := by
        have := ok.1
        rw [SX.S_len, sizeLine_eq]
        omega
      walk_at "sq go"
      refine ⟨⟨_, rfl⟩, _, _, rfl, rfl, rfl, lw, fun L nL => ?_⟩
      rw [es]
      have hL : upd (upd H F (.lst [])) L (.lst (((wordsOf u).map SX.S).map V.str)) L = some (.lst (((wordsOf u).map SX.S).map V.str)) := upd_same
      have hF2 := upd_keep (o := .lst (((wordsOf u).map SX.S).map V.str)) nL hF
      have sL := sF.trans (same_new (o := .lst (((wordsOf u).map SX.S).map V.str)) nL)
      walk_at "sq go"
      refine for_list (K := K) (a := L) (xs := ((wordsOf u).map SX.S).map V.str) (fun i σ H' => Keep (∃ F2 x y z t gs, σ = [some (.str (SX.S u)), some (.ref F2), x, y, z, t] ∧ Same (upd (upd H F (.lst [])) L (.lst (((wordsOf u).map SX.S).map V.str))) H' ∧ i ≤ (wordsOf u).length ∧ dueGs ((wordsOf u).take i) = some gs ∧ (ungrp gs).length ≤ i * 999 ∧ H F2 = none ∧ H' F2 = some (.lst (iv (ungrp gs))))) ⟨F, none, none, none, none, [], rfl, .refl _, Nat.zero_le _, rfl, by decide, nF, hF2⟩ (fun i σ H' _ h => ?_) (fun i x σ H' hx h => ?_) (fun σ H' h => ?_)
      · obtain ⟨_, _, _, _, _, _, _, b, _⟩ := h.o
        exact seqL_of (b _ _ hL)
      · obtain ⟨F2, x1, x2, x3, x4, gs, rfl, b, hi, ea, lu, nF2, hFi⟩ := h.o
        rw [List.getElem?_map, List.getElem?_map] at hx
        obtain ⟨w0, ew, rfl⟩ := Option.map_eq_some_iff.mp hx
        obtain ⟨w, ew2, rfl⟩ := Option.map_eq_some_iff.mp ew
        have iw : ∃ x y, u = x ++ w ++ y := words_in (List.mem_of_getElem? ew2)
        have hi1 : i + 1 ≤ (wordsOf u).length := (List.getElem?_eq_some_iff.mp ew2).1
        have lwd : w.length ≤ 4100 := by
          obtain ⟨x, y, e⟩ := iw
          have l := ok.1
          have := congrArg List.length e
          rw [List.length_append, List.length_append] at this
          omega
        have cwd : ∀ c ∈ w, c < 0x110000 := fun c hc => by
          obtain ⟨x, y, e⟩ := iw
          refine ok.2.1 c ?_
          rw [e]
          simp [hc]
        obtain ⟨f0, o, es0⟩ := spl_ne 94 w
        have esw : Txt.split (SX.S w) ("^" : Str) = (f0 :: o).map SX.S := by
          rw [s_pow, SX.split_S (by decide) (by decide), es0]
        have lw2 : (SX.S w).length + 2 ≤ sizeLine := by
          rw [SX.S_len, sizeLine_eq]
          omega
        have sub : ∀ x ∈ f0 :: o, ∃ a b, w = a ++ x ++ b := fun x hx => spl_in (S := [94]) (by rw [es0]; exact hx)
        have lsub : ∀ x ∈ f0 :: o, x.length ≤ 4100 := fun x hx => by
          obtain ⟨a, b, e⟩ := sub x hx
          have := congrArg List.length e
          rw [List.length_append, List.length_append] at this
          omega
        have csub : ∀ x ∈ f0 :: o, ∀ c ∈ x, c < 0x110000 := fun x hx c hc => by
          obtain ⟨a, b, e⟩ := sub x hx
          refine cwd c ?_
          rw [e]
          simp [hc]
        have lo : o.length ≤ 4100 := by
          have := spl_count [94] w 0 []
          rw [es0, List.length_cons] at this
          omega
        have edw : dueW w = (match lawNum f0, (match o with | [] => some 1 | t :: _ => lawNum t) with
            | some n, some t => if 1 < o.length then none else some (n, t)
            | _, _ => none) := by
          unfold dueW
          rw [es0] <;> rfl
        have et := dueGs_take ew2
        rw [ea] at et
        have pos : ∀ p ∈ gs, 1 ≤ p.2 := fun p hp => ((dueGs_some i gs hi ea).2.1 p hp).2.2.1
        have bad_of : dueW w = none → dueR u = none := fun z => by
          rw [ed, dueGs_none (i := i + 1) (by rw [et]; unfold stepG; simp only [z])]
          rfl
        walk_at "sq go"
        refine ⟨⟨_, rfl⟩, _, _, rfl, rfl, rfl, lw2, fun l nl => ?_⟩
        rw [esw]
        have hl : upd H' l (.lst (((f0 :: o).map SX.S).map V.str)) l = some (.lst (V.str (SX.S f0) :: (o.map SX.S).map V.str)) := upd_same
        walk_at "sq go"
        refine ⟨atI_nat (j := 0) rfl, ?_⟩
        have lf0 := lsub f0 (List.mem_cons_self ..)
        have cf0 := csub f0 (List.mem_cons_self ..)
        have sl0 := same_new (o := .lst (((f0 :: o).map SX.S).map V.str)) nl
        have hF3 := upd_keep (o := .lst (((f0 :: o).map SX.S).map V.str)) nl hFi
        clear nl
        generalize upd H' l (.lst (((f0 :: o).map SX.S).map V.str)) = H0 at *
        walk_at "sq go"
        refine ⟨⟨by omega, cf0, fun e1 H1 s1 => ?_, fun n1 e1 H1 s1 => ?_⟩⟩
        · have hl1 := s1 _ _ hl
          have bad : dueR u = none := bad_of (by rw [edw, e1])
          walk_at "sq go"
          refine ifD (fun c1 => ?_) (fun c1 => ?_)
          · obtain ⟨t1, o1, rfl⟩ : ∃ t1 o1, o = t1 :: o1 := by
              cases o with
              | nil => exact absurd c1 (by simp)
              | cons t1 o1 => exact ⟨t1, o1, rfl⟩
            have lt1 := lsub t1 (List.mem_cons_of_mem _ (List.mem_cons_self ..))
            have ct1 := csub t1 (List.mem_cons_of_mem _ (List.mem_cons_self ..))
            walk_at "sq go"
            refine ⟨atI_nat (j := 1) rfl, ?_⟩
            walk_at "sq go"
            refine ⟨⟨by omega, ct1, fun e2 H2 s2 => ?_, fun n2 e2 H2 s2 => ?_⟩⟩
            · walk_at "sq go"
              intro R nR
              have z := (((sL.trans b).trans sl0).trans s1).trans s2
              exact q0 bad R _ (z.trans (same_new nR)) (z.free nR) upd_same
            · walk_at "sq go"
              intro R nR
              have z := (((sL.trans b).trans sl0).trans s1).trans s2
              exact q0 bad R _ (z.trans (same_new nR)) (z.free nR) upd_same
          · walk_at "sq go"
            intro R nR
            have z := (((sL.trans b).trans sl0).trans s1)
            exact q0 bad R _ (z.trans (same_new nR)) (z.free nR) upd_same
        · have hl1 := s1 _ _ hl
          walk_at "sq go"
          refine ifD (fun c1 => ?_) (fun c1 => ?_)
          · obtain ⟨t1, o1, rfl⟩ : ∃ t1 o1, o = t1 :: o1 := by
              cases o with
              | nil => exact absurd c1 (by simp)
              | cons t1 o1 => exact ⟨t1, o1, rfl⟩
            have lt1 := lsub t1 (List.mem_cons_of_mem _ (List.mem_cons_self ..))
            have ct1 := csub t1 (List.mem_cons_of_mem _ (List.mem_cons_self ..))
            walk_at "sq go"
            refine ⟨atI_nat (j := 1) rfl, ?_⟩
            walk_at "sq go"
            refine ⟨⟨by omega, ct1, fun e2 H2 s2 => ?_, fun n2 e2 H2 s2 => ?_⟩⟩
            · have bad : dueR u = none := bad_of (by rw [edw, e1]; simp only [e2])
              walk_at "sq go"
              intro R nR
              have z := (((sL.trans b).trans sl0).trans s1).trans s2
              exact q0 bad R _ (z.trans (same_new nR)) (z.free nR) upd_same
            · have hl2 := s2 _ _ hl1
              have hF4 := s2 _ _ (s1 _ _ hF3)
              have zb := ((b.trans sl0).trans s1).trans s2
              have z := sL.trans zb
              walk_at "sq go"
              refine ifD (fun c2 => ?_) (fun c2 => ?_)
              · have bad : dueR u = none := bad_of (by rw [edw, e1]; simp only [e2]; exact if_pos (by simp only [List.length_cons, List.length_map] at c2 ⊢; omega))
                walk_at "sq go"
                intro R nR
                exact q0 bad R _ (z.trans (same_new nR)) (z.free nR) upd_same
              · have dl : dueW w = some (n1, n2) := by
                  rw [edw, e1]
                  simp only [e2]
                  exact if_neg (by simp only [List.length_cons, List.length_map] at c2 ⊢; omega)
                walk_at "sq go"
                intro p np
                walk_at "sq go"
                intro q nq
                refine r_eqI (xs := (ungrp gs).drop ((ungrp gs).length - 1)) (ys := [(n1 : Int)]) (seqL_of (upd_keep nq (by rw [upd_same, cut_lastI]))) (seqL_of upd_same) ?_
                have hF5 := upd_keep (o := .lst (iv [(n1 : Int)])) nq (upd_keep (o := .lst (cutV (iv (ungrp gs)) (some (-1)) none)) np hF4)
                have zb5 := (zb.trans (same_new (o := .lst (cutV (iv (ungrp gs)) (some (-1)) none)) np)).trans (same_new (o := .lst (iv [(n1 : Int)])) nq)
                have z5 := sL.trans zb5
                walk_at "sq go"
                refine ifD (fun c3 => ?_) (fun c3 => ?_)
                · have bad : dueR u = none := by
                    rw [ed, dueGs_none (i := i + 1) (by rw [et]; unfold stepG; simp only [dl]; exact if_pos ((last_un pos _).mp c3))]
                    rfl
                  walk_at "sq go"
                  intro R nR
                  exact q0 bad R _ (z5.trans (same_new nR)) (z5.free nR) upd_same
                · walk_at "sq go"
                  obtain ⟨t9, _, _⟩ := due_count ok iw dl
                  intro v nv
                  have hF7 := upd_keep (o := .lst (iv [(n1 : Int)])) nv hF5
                  walk_at "sq go"
                  intro v2 nv2
                  have er : (List.replicate ((n2 : Nat) : Int).toNat [V.int (n1 : Int)]).flatten = iv (List.replicate n2 (n1 : Int)) := by rw [Int.toNat_natCast]; exact rep_iv _ _
                  rw [er] at *
                  have hF8 := upd_keep (o := .lst (iv (List.replicate n2 (n1 : Int)))) nv2 hF7
                  have lz : (iv (ungrp gs)).length + (iv (List.replicate n2 (n1 : Int))).length ≤ sizeLine := by
                    have := words_count u
                    have := ok.1
                    rw [iv_len, iv_len, sizeLine_eq, List.length_replicate]
                    omega
                  walk_at "sq go"
                  intro v3 nv3
                  have zb7 := (zb5.trans (same_new (o := .lst (iv [(n1 : Int)])) nv)).trans (same_new (o := .lst (iv (List.replicate n2 (n1 : Int)))) nv2)
                  have eun : ungrp (gs ++ [((n1 : Int), n2)]) = ungrp gs ++ List.replicate n2 (n1 : Int) := by
                    rw [ungrp_app]
                    simp [ungrp]
                  refine ⟨v3, _, _, _, _, gs ++ [((n1 : Int), n2)], rfl, zb7.trans (same_new nv3), hi1, ?_, ?_, (sL.trans zb7).free nv3, ?_⟩
                  · rw [et]
                    unfold stepG
                    simp only [dl]
                    exact if_neg fun c4 => c3 ((last_un pos _).mpr c4)
                  · rw [eun, List.length_append, List.length_replicate]
                    omega
                  · rw [upd_same, eun]
                    simp
          · have o0 : o = [] := by
              cases o with
              | nil => rfl
              | cons t1 o1 => exact absurd (by simp; omega) c1
            subst o0
            have hF4 := s1 _ _ hF3
            have zb := (b.trans sl0).trans s1
            have z := sL.trans zb
            have dl : dueW w = some (n1, 1) := by
              rw [edw, e1]
              exact if_neg (by simp)
            walk_at "sq go"
            intro p np
            walk_at "sq go"
            intro q nq
            refine r_eqI (xs := (ungrp gs).drop ((ungrp gs).length - 1)) (ys := [(n1 : Int)]) (seqL_of (upd_keep nq (by rw [upd_same, cut_lastI]))) (seqL_of upd_same) ?_
            have hF5 := upd_keep (o := .lst (iv [(n1 : Int)])) nq (upd_keep (o := .lst (cutV (iv (ungrp gs)) (some (-1)) none)) np hF4)
            have zb5 := (zb.trans (same_new (o := .lst (cutV (iv (ungrp gs)) (some (-1)) none)) np)).trans (same_new (o := .lst (iv [(n1 : Int)])) nq)
            have z5 := sL.trans zb5
            walk_at "sq go"
            refine ifD (fun c3 => ?_) (fun c3 => ?_)
            · have bad : dueR u = none := by
                rw [ed, dueGs_none (i := i + 1) (by rw [et]; unfold stepG; simp only [dl]; exact if_pos ((last_un pos _).mp c3))]
                rfl
              walk_at "sq go"
              intro R nR
              exact q0 bad R _ (z5.trans (same_new nR)) (z5.free nR) upd_same
            · walk_at "sq go"
              obtain ⟨t9, _, _⟩ := due_count ok iw dl
              intro v nv
              have hF7 := upd_keep (o := .lst (iv [(n1 : Int)])) nv hF5
              walk_at "sq go"
              intro v2 nv2
              have er : (List.replicate (1 : Int).toNat [V.int (n1 : Int)]).flatten = iv (List.replicate 1 (n1 : Int)) := rfl
              rw [er] at *
              have hF8 := upd_keep (o := .lst (iv (List.replicate 1 (n1 : Int)))) nv2 hF7
              have lz : (iv (ungrp gs)).length + (iv (List.replicate 1 (n1 : Int))).length ≤ sizeLine := by
                have := words_count u
                have := ok.1
                rw [iv_len, iv_len, sizeLine_eq, List.length_replicate]
                omega
              walk_at "sq go"
              intro v3 nv3
              have zb7 := (zb5.trans (same_new (o := .lst (iv [(n1 : Int)])) nv)).trans (same_new (o := .lst (iv (List.replicate 1 (n1 : Int)))) nv2)
              have eun : ungrp (gs ++ [((n1 : Int), 1)]) = ungrp gs ++ List.replicate 1 (n1 : Int) := by
                rw [ungrp_app]
                simp [ungrp]
              refine ⟨v3, _, _, _, _, gs ++ [((n1 : Int), 1)], rfl, zb7.trans (same_new nv3), hi1, ?_, ?_, (sL.trans zb7).free nv3, ?_⟩
              · rw [et]
                unfold stepG
                simp only [dl]
                exact if_neg fun c4 => c3 ((last_un pos _).mpr c4)
              · rw [eun, List.length_append, List.length_replicate]
                omega
              · rw [upd_same, eun]
                simp
      · obtain ⟨F2, x1, x2, x3, x4, gs, rfl, b, hi, ea, lu, nF2, hFi⟩ := h.o
        have eg : (wordsOf u).take (((wordsOf u).map SX.S).map V.str).length = wordsOf u := by
          refine List.take_of_length_le ?_
          simp
        rw [eg] at ea
        walk_at "sq go"
        intro l nl
        exact q1 _ (by rw [ed, ea]; rfl) l F2 _ ((sL.trans b).trans (same_new nl)) ((sL.trans b).free nl) nF2 upd_same (upd_keep nl hFi)
local macro_rules | `(tactic| walk_at "sq side") => `(tactic| first
  | ((with_reducible show ExcC _ _); assumption)
  | ((with_reducible show XfC _ _); assumption)
  | ((with_reducible show Kept _ _ _ _); assumption)
  | ((with_reducible show PySem.W.kitOne _ _ _ = some _); assumption)
  | ((with_reducible show PySem.W.kitAny _ _ _ = some _); assumption)
  | ((with_reducible show PySem.W.exmOne _ _ _ = some _); assumption)
  | ((with_reducible show PySem.W.findIn _ _ _ = some _); assumption))
abbrev s_law_told : Stmt := topS 24
theorem sc_law_told : FnScope ["written", "by_name", "e", "others"] ["written", "by_name"] (defScope s_law_told) := ⟨rfl, rfl, rfl, by decide +kernel, rfl, by decide +kernel, by decide +kernel⟩

def spLTold : Sp := fun vs H Q _ => ∃ (u : List Nat) (b : Bool), vs = [.str (SX.S u), .bl b] ∧ Keep (RdOk u ∧ (∀ ns, readR u = some ns → ∀ (l r : Addr) H', Same H H' → H l = none → H r = none → H' l = some (.lst [.ref r]) → H' r = some (.lst (iv ns)) → Q (.ref l) H') ∧
  (readR u = none → ∀ (l : Addr) H', Same H H' → H l = none → H' l = some (.tup [.bl true, .bl true, .bl false, .str (SX.S u)]) → Q (.ref l) H'))
theorem cal_ltold {CL CN CC CU CR CS : Addr} (D : DefAt K mg "_law_told" s_law_told ["written", "by_name"]) (B : Bt mg) (c6 : Cls6 mg CL CN CC CU CR CS) (kn : Knd K CL CN CC CU CR CS CR false false false false true)
    (two_read_listX : Def2X P w K mg base 4 "read_list" s_read_list ["text"] (spReadX CR)) : Cal P w K mg base 5 "_law_told" spLTold [] := by
  refine D.cal sc_law_told (fun vs H Q E h => ?_) (fun f cdv A outer s H vs Q E hr h => ?_)
  · obtain ⟨u, b, rfl, _⟩ := h
    rfl
  · obtain ⟨u, b, rfl, ⟨ok, q1, q0⟩⟩ := h
    obtain ⟨m_InvalidList, m_InvalidNumber, m_InvalidCharacter, m_NothingToUndo, m_Unreadable, m_SqueezeError⟩ := c6
    obtain ⟨ec, xf, nv, k1, k2, k3, k4, k5, kS, kV, ex⟩ := kn
    have kA : PySem.W.kitAny K (.ref CR) [.ref CC, .ref CL, .ref CN, .ref CU] = some false := by
      simp only [PySem.W.kitAny, k3, k1, k2, k4]
    have c_read_listX := two_read_listX.calX
    have c_read_listKX : CalKX P w K mg base 4 "read_list" ["text"] (spReadX CR) := two_read_listX.calKX (fun {α} (l : List α) => l) (fun {vs us} r => r) (fun kV doc pm an cdv ct ws hw => by
      obtain ⟨a, rfl⟩ := List.length_eq_one_iff.mp hw
      rfl) (fun zs H Q E h => ⟨by
        obtain ⟨u, rfl, _⟩ := h
        rfl, h⟩)
    refine ⟨_, (pss_one (ps_try_keep (i := 2) rfl rfl sc_law_told.nd rfl rfl rfl ⟨rfl, by decide, .inl m_SqueezeError⟩ takes0
   (fun W pn xe tk po => (pss_one (ps_ret (pe_lst (pa_cons (pe_ifExp (pt_val (pv 1)) (pe_ckx c_read_listKX hr (by first | decide | omega) tk (by rfl) (pk_cons (pv 0) pk_nil)) (pe_cx c_read_listX hr (by first | decide | omega) tk (by rfl) (pa_cons (pv 0) pa_nil))) pa_nil)))))
   (fun a cls d pn => (pss_cons (ps_set (i := 3) sc_law_told.nd rfl (Or.inl rfl) (pe_callB (call_isXT (K := K)) (by rfl) B.isinstance (by decide +kernel) (pa_cons (pv 2) (pa_cons (pe_tup (pa_cons (pe_glob (v := .ref _) (by rfl) m_InvalidCharacter rfl) (pa_cons (pe_glob (v := .ref _) (by rfl) m_InvalidList rfl) (pa_cons (pe_glob (v := .ref _) (by rfl) m_InvalidNumber rfl) (pa_cons (pe_glob (v := .ref _) (by rfl) m_NothingToUndo rfl) pa_nil))))) pa_nil))))
  (pss_one (ps_ret (pe_tup (pa_cons (pe_callB (call_isX (K := K)) (by rfl) B.isinstance (by decide +kernel) (pa_cons (pv 2) (pa_cons (pe_glob (v := .ref _) (by rfl) m_Unreadable rfl) pa_nil))) (pa_cons (pe_callB (call_isX (K := K)) (by rfl) B.isinstance (by decide +kernel) (pa_cons (pv 2) (pa_cons (pe_bltn (v := .ty "ValueError") (by rfl) B.ValueError (by decide +kernel) rfl) pa_nil))) (pa_cons (pv 3) (pa_cons (pe_xv (K := K) (pv 2)) pa_nil))))))))))), ?_⟩
    walk_at "sq go"
    cases b with
    | false =>
      walk_at "sq go"
      refine ⟨⟨ok, fun ns e l H1 s1 nl hl => ?_, fun e0 d H1 s1 hd => ⟨true, ex, fun _ ax na => ?_, fun z => nomatch z⟩⟩⟩
      · walk_at "sq go"
        intro L nL
        exact q1 ns e L l _ (s1.trans (same_new nL)) (s1.free nL) nl upd_same (upd_keep nL hl)
      · skip
        have s3 := s1.trans (same_new (o := Xo ax (.ref CR) (some d)) na)
        have ka := kept_new (C := CR) na hd
        walk_at "sq go"
        intro T nT
        have ka2 := ka.same (same_new (o := .tup [.ref CC, .ref CL, .ref CN, .ref CU]) nT)
        have s4 := s3.trans (same_new (o := .tup [.ref CC, .ref CL, .ref CN, .ref CU]) nT)
        walk_at "sq go"
        refine ⟨.cons (.own _) (.cons (.own _) (.cons (.own _) (.cons (.own _) .nil))), ?_⟩
        walk_at "sq go"
        intro T2 nT2
        exact q0 e0 T2 _ (s4.trans (same_new nT2)) (s4.free nT2) upd_same
    | true =>
      walk_at "sq go"
      refine ⟨⟨ok, fun ns e l H1 s1 nl hl => ?_, fun e0 d H1 s1 hd => ⟨true, ex, fun _ ax na => ?_, fun z => nomatch z⟩⟩⟩
      · walk_at "sq go"
        intro L nL
        exact q1 ns e L l _ (s1.trans (same_new nL)) (s1.free nL) nl upd_same (upd_keep nL hl)
      · skip
        have s3 := s1.trans (same_new (o := Xo ax (.ref CR) (some d)) na)
        have ka := kept_new (C := CR) na hd
        walk_at "sq go"
        intro T nT
        have ka2 := ka.same (same_new (o := .tup [.ref CC, .ref CL, .ref CN, .ref CU]) nT)
        have s4 := s3.trans (same_new (o := .tup [.ref CC, .ref CL, .ref CN, .ref CU]) nT)
        walk_at "sq go"
        refine ⟨.cons (.own _) (.cons (.own _) (.cons (.own _) (.cons (.own _) .nil))), ?_⟩
        walk_at "sq go"
        intro T2 nT2
        exact q0 e0 T2 _ (s4.trans (same_new nT2)) (s4.free nT2) upd_same

theorem same_at {G H : Hp} {o : Addr} {u : HO} (s : Same G H) (n : G o = none) : Same G (upd H o u) := fun b x e => upd_off (fun z => by
  rw [z, n] at e
  cases e) (s b x e)
abbrev s_law_right : Stmt := topS 28
theorem sc_law_right : FnScope ["one", "due", "by_name", "told"] ["one"] (defScope s_law_right) := ⟨rfl, rfl, rfl, by decide +kernel, rfl, by decide +kernel, by decide +kernel⟩

def spLRight : Sp := fun vs H Q _ => ∃ u : List Nat, vs = [.str (SX.S u)] ∧ Keep (RdOk u) ∧ ∀ H', Same H H' → Q (.bl true) H'
theorem cal_lright (D : DefAt K mg "_law_right" s_law_right ["one"]) (B : Bt mg) (c_law_due : Cal P w K mg base 2 "_law_due" spLDue []) (c_law_told : Cal P w K mg base 5 "_law_told" spLTold []) : CalG P w K mg base 6 "_law_right" spLRight := by
  refine D.calG sc_law_right (fun vs H Q E h => ?_) (fun f cdv A outer s H vs Q E hG hr h => ?_)
  · obtain ⟨u, rfl, _⟩ := h
    rfl
  · obtain ⟨u, rfl, ⟨ok⟩, q⟩ := h
    refine ⟨_, (pss_cons (ps_set (i := 1) sc_law_right.nd rfl (Or.inl rfl) (pe_c c_law_due hr (by first | decide | omega) (by rfl) (pa_cons (pv 0) pa_nil)))
  (pss_cons (ps_for PassesOwn.never rfl (pi_listK (K := K) (pe_lst (pa_cons pe_bl (pa_cons pe_bl pa_nil)))) (pg_name (i := 2) sc_law_right.nd rfl (Or.inl rfl))
   (pss_cons (ps_set (i := 3) sc_law_right.nd rfl (Or.inl rfl) (pe_c c_law_told hr (by first | decide | omega) (by rfl) (pa_cons (pv 0) (pa_cons (pv 2) pa_nil))))
  (pss_cons (ps_if (PW.pt (pw_or (PW.pt (pw_and (pt_cmpR (op_eqDK (K := K) hr.units) (pv 1) (pe_lst pa_nil) (nomark _)) (pw_and1 (pt_cmpR (op_neDK (K := K) hr.units) (pv 3) (pe_tup (pa_cons pe_bl (pa_cons pe_bl (pa_cons pe_bl (pa_cons (pv 0) pa_nil))))) (nomark _))))) (pw_or1 (PW.pt (pw_and (pt_cmpR (op_neDK (K := K) hr.units) (pv 1) (pe_lst pa_nil) (nomark _)) (pw_and1 (pt_cmpR op_ne (pe_callB (call_reprVK (K := K) hG hr.units) (by rfl) B.repr (by decide +kernel) (pa_cons (pv 3) pa_nil)) (pe_callB (call_reprVK (K := K) hG hr.units) (by rfl) B.repr (by decide +kernel) (pa_cons (pv 1) pa_nil)) (nomark _)))))))) (pss_one (ps_ret pe_bl)) pss_nil)
  (pss_one (ps_if (pt_cmpR (op_neDK (K := K) hr.units) (pv 1) (pe_lst pa_nil) (nomark _)) (pss_one (ps_expr (pe_bm PySem.F.plainAttrs_list PySem.F.slot_list_append PySem.F.type_list_append mt_append (pe_ix (ix_listK (K := K)) (pv 3) pe_int (fun _ _ => rfl)) (pa_cons pe_int pa_nil)))) pss_nil)))))
  (pss_one (ps_ret (pe_or (pe_cmpR (op_eqDK (K := K) hr.units) (pv 1) (pe_lst pa_nil) (nomark _)) (pe_one (pe_cmpR op_eq (pe_callB (call_reprVK (K := K) hG hr.units) (by rfl) B.repr (by decide +kernel) (pa_cons (pe_c c_law_told hr (by first | decide | omega) (by rfl) (pa_cons (pv 0) (pa_cons pe_bl pa_nil))) pa_nil)) (pe_callB (call_reprVK (K := K) hG hr.units) (by rfl) B.repr (by decide +kernel) (pa_cons (pv 1) pa_nil)) (nomark _)))))))), ?_⟩
    have so : PyData.strOk (SX.S u) = true := strOk_S ok.2.1
    have dr := due_eq ok
    walk_at "sq go"
    refine ⟨⟨ok, fun e0 l H1 s1 nl hl => ?_, fun ns en l r H1 s1 nl nr hl hr => ?_⟩⟩
    · have er : readR u = none := by rw [← dr, e0]
      walk_at "sq go"
      intro L nL
      have hL : upd H1 L (.lst [.bl false, .bl true]) L = some (.lst [.bl false, .bl true]) := upd_same
      have sL := same_new (o := .lst [.bl false, .bl true]) nL
      have hl1 := upd_keep (o := .lst [.bl false, .bl true]) nL hl
      have s2 := s1.trans sL
      generalize upd H1 L (.lst [.bl false, .bl true]) = H2 at *
      refine ⟨L, rfl, ⟨_, seqL_of hL⟩, ?_⟩
      refine for_list (K := K) (a := L) (xs := [.bl false, .bl true]) (fun i σ H' => Keep (∃ x y, σ = [some (.str (SX.S u)), some (.ref l), x, y] ∧ Same H2 H')) ⟨_, _, rfl, .refl _⟩ (fun i σ H' _ h => ?_) (fun i x σ H' hx h => ?_) (fun σ H' h => ?_)
      · obtain ⟨_, _, _, b⟩ := h.o
        exact seqL_of (b _ _ hL)
      · obtain ⟨x1, x2, rfl, b⟩ := h.o
        obtain ⟨bb, rfl⟩ : ∃ bb : Bool, x = .bl bb := by
          match i, hx with
          | 0, hx => exact ⟨false, (Option.some.inj hx).symm⟩
          | 1, hx => exact ⟨true, (Option.some.inj hx).symm⟩
        have hl2 := b _ _ hl1
        walk_at "sq go"
        refine ⟨⟨ok, fun ns e => absurd (er.symm.trans e) (fun z => nomatch z), fun _ t H3 s3 nt ht => ?_⟩⟩
        have hl3 := s3 _ _ hl2
        walk_at "sq go"
        intro p np
        have s4 := (b.trans s3).trans (same_new (o := .lst []) np)
        have hl4 := upd_keep (o := .lst []) np hl3
        have ht4 := upd_keep (o := .lst []) np ht
        refine r_eqL0 hl4 upd_same ?_
        clear np
        generalize upd H3 p (.lst []) = H4 at *
        walk_at "sq go"
        intro T nT
        have s5 := s4.trans (same_new (o := .tup [.bl true, .bl true, .bl false, .str (SX.S u)]) nT)
        have hl5 := upd_keep (o := .tup [.bl true, .bl true, .bl false, .str (SX.S u)]) nT hl4
        refine r_neTE (upd_keep nT ht4) upd_same so ?_
        clear nT
        generalize upd H4 T (.tup [.bl true, .bl true, .bl false, .str (SX.S u)]) = H5 at *
        walk_at "sq go"
        intro p2 n2
        have s6 := s5.trans (same_new (o := .lst []) n2)
        have hl6 := upd_keep (o := .lst []) n2 hl5
        refine r_neL0 hl6 upd_same ?_
        clear n2
        generalize upd H5 p2 (.lst []) = H6 at *
        walk_at "sq go"
        intro p3 n3
        have s7 := s6.trans (same_new (o := .lst []) n3)
        have hl7 := upd_keep (o := .lst []) n3 hl6
        refine r_neL0 hl7 upd_same ?_
        walk_at "sq go"
        exact ⟨_, _, rfl, s7⟩
      · obtain ⟨x1, x2, rfl, b⟩ := h.o
        have hl2 := b _ _ hl1
        walk_at "sq go"
        intro p np
        refine r_eqL0 (upd_keep np hl2) upd_same ?_
        walk_at "sq go"
        exact q _ ((s2.trans b).trans (same_new np))
    · have er : readR u = some ns := by rw [← dr, en]
      obtain ⟨sk, sl, sn⟩ := due_show ok en
      have lgs : ∀ n ∈ ns, n.natAbs.log2 < 1920 := fun n hn => num_lg (by have := sk n hn; omega) (sk n hn).2
      walk_at "sq go"
      intro L nL
      have hL : upd H1 L (.lst [.bl false, .bl true]) L = some (.lst [.bl false, .bl true]) := upd_same
      have sL := same_new (o := .lst [.bl false, .bl true]) nL
      have hl1 := upd_keep (o := .lst [.bl false, .bl true]) nL hl
      have hr1 := upd_keep (o := .lst [.bl false, .bl true]) nL hr
      have s2 := s1.trans sL
      generalize upd H1 L (.lst [.bl false, .bl true]) = H2 at *
      refine ⟨L, rfl, ⟨_, seqL_of hL⟩, ?_⟩
      refine for_list (K := K) (a := L) (xs := [.bl false, .bl true]) (fun i σ H' => Keep (∃ x y, σ = [some (.str (SX.S u)), some (.ref l), x, y] ∧ Same H2 H')) ⟨_, _, rfl, .refl _⟩ (fun i σ H' _ h => ?_) (fun i x σ H' hx h => ?_) (fun σ H' h => ?_)
      · obtain ⟨_, _, _, b⟩ := h.o
        exact seqL_of (b _ _ hL)
      · obtain ⟨x1, x2, rfl, b⟩ := h.o
        obtain ⟨bb, rfl⟩ : ∃ bb : Bool, x = .bl bb := by
          match i, hx with
          | 0, hx => exact ⟨false, (Option.some.inj hx).symm⟩
          | 1, hx => exact ⟨true, (Option.some.inj hx).symm⟩
        have hl2 := b _ _ hl1
        have hr2 := b _ _ hr1
        walk_at "sq go"
        refine ⟨⟨ok, fun ns2 e t v H3 s3 nt nv ht hv => ?_, fun e => absurd (er.symm.trans e) (fun z => nomatch z)⟩⟩
        obtain rfl : ns2 = ns := Option.some.inj (e.symm.trans er)
        have hl3 := s3 _ _ hl2
        have hr3 := s3 _ _ hr2
        have nv2 : H2 v = none := b.free nv
        walk_at "sq go"
        intro p np
        have s4 := (b.trans s3).trans (same_new (o := .lst []) np)
        have hl4 := upd_keep (o := .lst []) np hl3
        have hr4 := upd_keep (o := .lst []) np hr3
        have ht4 := upd_keep (o := .lst []) np ht
        have hv4 := upd_keep (o := .lst []) np hv
        refine r_eqL1 hl4 hr4 upd_same ?_
        clear np
        generalize upd H3 p (.lst []) = H4 at *
        walk_at "sq go"
        intro p2 n2
        have s5 := s4.trans (same_new (o := .lst []) n2)
        have hl5 := upd_keep (o := .lst []) n2 hl4
        have hr5 := upd_keep (o := .lst []) n2 hr4
        have ht5 := upd_keep (o := .lst []) n2 ht4
        have hv5 := upd_keep (o := .lst []) n2 hv4
        refine r_neL1 hl5 hr5 upd_same ?_
        clear n2
        generalize upd H4 p2 (.lst []) = H5 at *
        walk_at "sq go"
        refine r_reprLL ht5 hv5 (by omega) lgs ?_
        walk_at "sq go"
        refine r_reprLL hl5 hr5 (by omega) lgs ?_
        walk_at "sq go"
        refine ifN (fun c => absurd rfl c) (fun _ => ?_)
        walk_at "sq go"
        intro p3 n3
        have s6 := s5.trans (same_new (o := .lst []) n3)
        have hl6 := upd_keep (o := .lst []) n3 hl5
        have hr6 := upd_keep (o := .lst []) n3 hr5
        have ht6 := upd_keep (o := .lst []) n3 ht5
        have hv6 := upd_keep (o := .lst []) n3 hv5
        refine r_neL1 hl6 hr6 upd_same ?_
        clear n3
        generalize upd H5 p3 (.lst []) = H6 at *
        have lz : (iv ns2).length < sizeLine := by
          rw [iv_len]
          exact ltW sn
        have a0 : atI [V.ref v] 0 = some (.ref v) := atI_nat (j := 0) rfl
        walk_at "sq go"
        exact ⟨_, _, rfl, same_at s6 nv2⟩
      · obtain ⟨x1, x2, rfl, b⟩ := h.o
        have hl2 := b _ _ hl1
        have hr2 := b _ _ hr1
        walk_at "sq go"
        intro p np
        have s4 := (b.trans (same_new (o := .lst []) np))
        have hl4 := upd_keep (o := .lst []) np hl2
        have hr4 := upd_keep (o := .lst []) np hr2
        refine r_eqL1 hl4 hr4 upd_same ?_
        clear np
        generalize upd H' p (.lst []) = H4 at *
        walk_at "sq go"
        refine ⟨⟨ok, fun ns2 e t v H5 s5 nt nv ht hv => ?_, fun e => absurd (er.symm.trans e) (fun z => nomatch z)⟩⟩
        obtain rfl : ns2 = ns := Option.some.inj (e.symm.trans er)
        have hl5 := s5 _ _ hl4
        have hr5 := s5 _ _ hr4
        walk_at "sq go"
        refine r_reprLL ht hv (by omega) lgs ?_
        walk_at "sq go"
        refine r_reprLL hl5 hr5 (by omega) lgs ?_
        walk_at "sq go"
        rw [decide_eq_true rfl]
        exact q _ ((s2.trans s4).trans s5)

theorem sl_mid {a : List Nat} {i j : Nat} (hij : i ≤ j) (hi : i ≤ a.length) : Txt.slice (SX.S a) (some (i : Int)) (some (j : Int)) = SX.S ((a.drop i).take (j - i)) := by
  have go : ∀ m : Nat, i ≤ m → m ≤ a.length → Txt.slice (SX.S a) (some (i : Int)) (some (m : Int)) = SX.S ((a.drop i).take (m - i)) := fun m h1 h2 => by
    have e := beq_iff_eq.mp (PyProof.Rows.slice_closesL (x := SX.S a) (i := (i : Int)) (j := (m : Int)) (by omega) (by omega) (by rw [SX.S_len]; omega))
    rw [e, Int.toNat_natCast, show ((m : Int) - (i : Int)).toNat = m - i by omega]
  by_cases h : j ≤ a.length
  · exact go j hij h
  · have e2 : Txt.slice (SX.S a) (some (i : Int)) (some (j : Int)) = Txt.slice (SX.S a) (some (i : Int)) (some (a.length : Int)) := by
      unfold Txt.slice
      rw [SX.S_len, SX.idx_hi (by omega)]
    rw [e2, go a.length hi (Nat.le_refl _), List.take_of_length_le (by rw [List.length_drop]; omega), List.take_of_length_le (by rw [List.length_drop]; omega)]
theorem pre_one (c d : Nat) (r : List Nat) : TL.pre [c] (d :: r) = (d == c) := by
  show ([d] == [c]) = (d == c)
  cases h : d == c
  · have : d ≠ c := by simpa using h
    simp [this]
  · have : d = c := by simpa using h
    simp [this]
theorem spl_tw : ∀ (l acc f : List Nat) (o : List (List Nat)), TL.spl [94] 0 acc l = f :: o → f = acc ++ l.takeWhile (· != 94)
  | [], acc, f, o, h => by
    rw [TL.spl_nil] at h
    rw [← (List.cons.inj h).1]
    simp
  | c :: r, acc, f, o, h => by
    by_cases e : c = 94
    · subst e
      rw [TL.spl_hit (by rw [pre_one]; rfl)] at h
      rw [← (List.cons.inj h).1]
      simp
    · rw [TL.spl_miss (by rw [pre_one]; simpa using e)] at h
      have := spl_tw r (acc ++ [c]) f o h
      rw [this, List.takeWhile_cons, if_pos (by simpa using e)]
      simp
theorem tw_tw : ∀ y : List Nat, (y.takeWhile (· != 94)).takeWhile dig = y.takeWhile dig
  | [] => rfl
  | c :: r => by
    by_cases e : c = 94
    · subst e
      rfl
    · rw [List.takeWhile_cons, if_pos (by simpa using e), List.takeWhile_cons, List.takeWhile_cons, tw_tw r]
theorem small_mem : ∀ (l acc x y : List Nat), l = x ++ 94 :: y → ∃ f o p, TL.spl [94] 0 acc l = f :: o ∧ p ∈ o ∧ p.takeWhile dig = y.takeWhile dig
  | [], acc, x, y, h => by simp at h
  | c :: r, acc, x, y, h => by
    by_cases e : c = 94
    · subst e
      rw [TL.spl_hit (by rw [pre_one]; rfl)]
      show ∃ f o p, acc :: TL.spl [94] 0 [] r = f :: o ∧ _
      cases x with
      | nil =>
        have er : r = y := (List.cons.inj h).2
        subst er
        obtain ⟨f, o, es⟩ := spl_ne 94 r
        refine ⟨_, _, f, rfl, by rw [es]; exact List.mem_cons_self .., ?_⟩
        rw [spl_tw r [] f o es, List.nil_append, tw_tw]
      | cons d x =>
        have er : r = x ++ 94 :: y := (List.cons.inj h).2
        obtain ⟨f, o, p, es, hp, t⟩ := small_mem r [] x y er
        exact ⟨_, _, p, rfl, by rw [es]; exact List.mem_cons_of_mem _ hp, t⟩
    · rw [TL.spl_miss (by rw [pre_one]; simpa using e)]
      cases x with
      | nil => exact absurd (List.cons.inj h).1 e
      | cons d x =>
        have er : r = x ++ 94 :: y := (List.cons.inj h).2
        exact small_mem r (acc ++ [c]) x y er
theorem tw_take {p : List Nat} {k : Nat} (h : k ≤ (p.takeWhile dig).length) {c : Nat} (hc : p[k]? = some c) (hd : dig c = true) : k + 1 ≤ (p.takeWhile dig).length := by
  induction p generalizing k with
  | nil => simp at hc
  | cons a r ih =>
    cases k with
    | zero =>
      have e : a = c := by simpa using hc
      subst e
      rw [List.takeWhile_cons, if_pos hd]
      simp
    | succ k =>
      cases ha : dig a with
      | true =>
        rw [List.takeWhile_cons, if_pos ha] at h ⊢
        simp only [List.length_cons] at h ⊢
        have := ih (k := k) (by omega) (by simpa using hc)
        omega
      | false =>
        rw [List.takeWhile_cons, if_neg (by simp [ha])] at h
        simp at h
theorem tw_end {p : List Nat} {k : Nat} (h : k ≤ (p.takeWhile dig).length) (hc : ∀ c, p[k]? = some c → dig c = false) : (p.takeWhile dig).length = k := by
  induction p generalizing k with
  | nil =>
    simp at h
    simp [h]
  | cons a r ih =>
    cases k with
    | zero =>
      have ha := hc a rfl
      rw [List.takeWhile_cons, if_neg (by simp [ha])]
      rfl
    | succ k =>
      cases ha : dig a with
      | true =>
        rw [List.takeWhile_cons, if_pos ha] at h ⊢
        simp only [List.length_cons] at h ⊢
        rw [ih (k := k) (by omega) (fun c z => hc c (by simpa using z))]
      | false =>
        rw [List.takeWhile_cons, if_neg (by simp [ha])] at h
        simp at h
def digL : List Nat := [48, 49, 50, 51, 52, 53, 54, 55, 56, 57]
theorem dig_any : ∀ c : Nat, c < 256 → (digL.any fun d => d == c) = dig c := by decide +kernel
theorem dp_dig {H : Hp} : ∀ l : List Nat, DpAll K H (l.map fun c => V.str (SX.S [c])) (l.map fun c => PyData.str (SX.S [c]))
  | [] => .nil
  | c :: r => .cons (.str _) (dp_dig r)
theorem shaped_dig : SeqAt.shaped (.list (digL.map fun c => PyData.str (SX.S [c]))) = true := by decide +kernel
theorem shaped_str {l : List Nat} (h : ∀ c ∈ l, c < 256) : SeqAt.shaped (.str (SX.S l)) = true := by
  have so : PyData.strOk (SX.S l) = true := strOk_S fun c hc => Nat.lt_trans (h c hc) (by decide)
  unfold SeqAt.shaped
  simp [PyData.canLay0, PyData.depth, so]
theorem r_inDig {H : Hp} {p : Addr} {l : List Nat} {Q : VK} (h : H p = some (.lst (digL.map fun c => V.str (SX.S [c])))) (hl : ∀ c ∈ l, c < 256) (b : Bool) (e : (digL.any fun d => [d] == l) = b) (q : Q (.bl b) H) : rInQ K (.str (SX.S l)) (.ref p) H Q := by
  refine rInQ_of ⟨.str (SX.S l), digL.map fun c => PyData.str (SX.S [c]), .str _, .lst (seqL_of h) (dp_dig _), shaped_str hl, shaped_dig, ?_⟩
  have e2 : ((digL.map fun c => PyData.str (SX.S [c])).any fun z => PyData.eqv z (.str (SX.S l))) = b := by
    rw [List.any_map, ← e]
    refine congrArg (fun f => digL.any f) (funext fun d => ?_)
    show PyData.eqv (.str (SX.S [d])) (.str (SX.S l)) = _
    simp only [PyData.eqv]
    exact SX.S_beq [d] l
  rw [e2]
  exact q
abbrev s_law_small : Stmt := topS 27
theorem sc_law_small : FnScope ["written", "part", "digits"] ["written"] (defScope s_law_small) := ⟨rfl, rfl, rfl, by decide +kernel, rfl, by decide +kernel, by decide +kernel⟩

def spSmall : Sp := fun vs H Q _ => ∃ u : List Nat, vs = [.str (SX.S u)] ∧ Keep (u.length ≤ 5000 ∧ (∀ c ∈ u, c < 256)) ∧ ∀ (b : Bool) H', (b = true → ∀ x y, u = x ++ 94 :: y → (y.takeWhile dig).length ≤ 3) → Same H H' → Q (.bl b) H'
theorem cal_small (D : DefAt K mg "_law_small" s_law_small ["written"]) (B : Bt mg) : Cal P w K mg base 1 "_law_small" spSmall [] := by
  refine D.cal sc_law_small (fun vs H Q E h => ?_) (fun f cdv A outer s H vs Q E hr h => ?_)
  · obtain ⟨u, rfl, _⟩ := h
    rfl
  · obtain ⟨u, rfl, ⟨len, chr⟩, q⟩ := h
    refine ⟨_, (pss_cons (ps_for PassesOwn.never rfl (pi_listK (K := K) (pe_slice (sl_listK (K := K)) (pe_split (pv 0) pe_str) (po_some pe_int) po_none)) (pg_name (i := 1) sc_law_small.nd rfl (Or.inl rfl))
   (pss_cons (ps_set (i := 2) sc_law_small.nd rfl (Or.inl rfl) pe_str)
  (pss_cons (ps_while PassesOwn.never (pt_cmpR (op_inDK (K := K) ((fun {A : Around} {k : Nat} (r : Room k A) => (by have := r.un; omega : A.units + 65 < cLine)) hr)) (pe_slice sl_str (pv 1) (po_some (pe_callB call_len_str (by rfl) B.len boot_len (pa_cons (pv 2) pa_nil))) (po_some (pe_op op_add (pe_callB call_len_str (by rfl) B.len boot_len (pa_cons (pv 2) pa_nil)) pe_int))) (pe_callTy (call_listTxt (by rfl)) (by rfl) B.list (by decide +kernel) (pa_cons pe_str pa_nil)) (by rfl))
   (pss_one (ps_set (i := 2) sc_law_small.nd rfl (Or.inl rfl) (pe_slice sl_str (pv 1) po_none (po_some (pe_op op_add (pe_callB call_len_str (by rfl) B.len boot_len (pa_cons (pv 2) pa_nil)) pe_int))))))
  (pss_one (ps_if (PW.pt (pw_or (pt_cmpR op_gt (pe_callB call_len_str (by rfl) B.len boot_len (pa_cons (pv 2) pa_nil)) pe_int (nomark _)) (pw_or1 (PW.pt (pw_and (pt_cmpR op_eq (pe_callB call_len_str (by rfl) B.len boot_len (pa_cons (pv 2) pa_nil)) pe_int (nomark _)) (pw_and1 (pt_cmpR op_gt_str (pv 2) pe_str (nomark _)))))))) (pss_one (ps_ret pe_bl)) pss_nil)))))
  (pss_one (ps_ret pe_bl))), ?_⟩
    have lu : (SX.S u).length + 2 ≤ sizeLine := by
      rw [SX.S_len, sizeLine_eq]
      omega
    obtain ⟨f0, o, es0⟩ := spl_ne 94 u
    have es : Txt.split (SX.S u) ("^" : Str) = (f0 :: o).map SX.S := by
      rw [s_pow, SX.split_S (by decide) (by decide), es0]
    have lsub : ∀ x ∈ f0 :: o, x.length ≤ 5000 ∧ ∀ c ∈ x, c < 256 := fun x hx => by
      obtain ⟨a, b, e⟩ := spl_in (S := [94]) (l := u) (w := x) (by rw [es0]; exact hx)
      have := congrArg List.length e
      rw [List.length_append, List.length_append] at this
      exact ⟨by omega, fun c hc => chr c (by rw [e]; simp [hc])⟩
    walk_at "sq go"
    refine ⟨⟨_, rfl⟩, _, _, rfl, rfl, rfl, lu, fun L nL => ?_⟩
    rw [es]
    have hL : upd H L (.lst (((f0 :: o).map SX.S).map V.str)) L = some (.lst (((f0 :: o).map SX.S).map V.str)) := upd_same
    have sL := same_new (o := .lst (((f0 :: o).map SX.S).map V.str)) nL
    walk_at "sq go"
    intro M nM
    have eM : cutV (((f0 :: o).map SX.S).map V.str) (some 1) none = (o.map SX.S).map V.str := cut_from _ 1
    rw [eM]
    have hM : upd (upd H L (.lst (((f0 :: o).map SX.S).map V.str))) M (.lst ((o.map SX.S).map V.str)) M = some (.lst ((o.map SX.S).map V.str)) := upd_same
    have sM := sL.trans (same_new (o := .lst ((o.map SX.S).map V.str)) nM)
    clear nM
    generalize upd (upd H L (.lst (((f0 :: o).map SX.S).map V.str))) M (.lst ((o.map SX.S).map V.str)) = H1 at *
    refine ⟨M, rfl, ⟨_, seqL_of hM⟩, ?_⟩
    refine for_list (K := K) (a := M) (xs := (o.map SX.S).map V.str) (fun i σ H' => Keep (∃ x y, σ = [some (.str (SX.S u)), x, y] ∧ Same H1 H' ∧ ∀ j p, j < i → o[j]? = some p → (p.takeWhile dig).length ≤ 3)) ⟨_, _, rfl, .refl _, fun j p z => absurd z (Nat.not_lt_zero _)⟩ (fun i σ H' _ h => ?_) (fun i x σ H' hx h => ?_) (fun σ H' h => ?_)
    · obtain ⟨_, _, _, b, _⟩ := h.o
      exact seqL_of (b _ _ hM)
    · obtain ⟨x1, x2, rfl, b, all⟩ := h.o
      rw [List.getElem?_map, List.getElem?_map] at hx
      obtain ⟨w0, ew, rfl⟩ := Option.map_eq_some_iff.mp hx
      obtain ⟨p, ep, rfl⟩ := Option.map_eq_some_iff.mp ew
      obtain ⟨lp, cp⟩ := lsub p (List.mem_cons_of_mem _ (List.mem_of_getElem? ep))
      have ltw : (p.takeWhile dig).length ≤ p.length := (List.takeWhile_prefix dig).length_le
      have lpS : (SX.S p).length ≤ sizeLine := by
        rw [SX.S_len, sizeLine_eq]
        omega
      walk_at "sq go"
      refine ⟨fun m σ G => Keep (∃ k, m = p.length - k ∧ σ = [some (.str (SX.S u)), some (.str (SX.S p)), some (.str (SX.S (p.take k)))] ∧ k ≤ (p.takeWhile dig).length ∧ Same H1 G), ⟨_, ⟨0, rfl, rfl, Nat.zero_le _, b⟩⟩, fun m σ G h => ?_⟩
      obtain ⟨k, rfl, rfl, hk, bG⟩ := h.o
      have lk : (SX.S (p.take k)).length = k := by
        rw [SX.S_len, List.length_take]
        omega
      walk_at "sq go"
      refine fun T nT => ?_
      have hT : upd G T (.lst (digL.map fun c => V.str (SX.S [c]))) T = some (.lst (digL.map fun c => V.str (SX.S [c]))) := upd_same
      rw [show cpsOfBytes 0 0 "0123456789".toByteArray.data.toList = digL from by decide +kernel]
      have bT := bG.trans (same_new (o := .lst (digL.map fun c => V.str (SX.S [c]))) nT)
      clear nT
      generalize upd G T (.lst (digL.map fun c => V.str (SX.S [c]))) = G2 at *
      rw [lk, C8.cutS_slice, show ((k : Nat) : Int) + 1 = ((k + 1 : Nat) : Int) by omega, sl_mid (by omega) (by omega), show k + 1 - k = 1 by omega]
      cases hc : p[k]? with
      | none =>
        have ek : (p.drop k).take 1 = [] := by
          rw [List.drop_eq_nil_of_le (List.getElem?_eq_none_iff.mp hc)]
          rfl
        rw [ek]
        refine r_inDig hT (fun c z => nomatch z) false rfl ?_
        have et := tw_end hk (fun c z => by rw [hc] at z; cases z)
        walk_at "sq go"
        refine ifD (fun c3 => ?_) (fun c3 => ?_)
        · walk_at "sq go"
          exact q false _ (fun z => nomatch z) (sM.trans bT)
        · have k3 : (p.takeWhile dig).length ≤ 3 := by
            rw [lk] at c3
            omega
          have all1 : ∀ j p2, j < i + 1 → o[j]? = some p2 → (p2.takeWhile dig).length ≤ 3 := fun j p2 hj hp => by
            rcases Nat.lt_succ_iff_lt_or_eq.mp hj with z | z
            · exact all j p2 z hp
            · rw [z, ep] at hp
              rw [← Option.some.inj hp]
              exact k3
          walk_at "sq go"
          refine ifD (fun c4 => ?_) (fun c4 => ?_)
          · walk_at "sq go"
            refine ifD (fun c5 => ?_) (fun c5 => ?_)
            · walk_at "sq go"
              exact q false _ (fun z => nomatch z) (sM.trans bT)
            · walk_at "sq go"
              exact ⟨_, _, rfl, bT, all1⟩
          · walk_at "sq go"
            exact ⟨_, _, rfl, bT, all1⟩
      | some c =>
        have ek : (p.drop k).take 1 = [c] := by
          have hl := List.getElem?_eq_some_iff.mp hc
          rw [List.drop_eq_getElem_cons hl.1, hl.2]
          rfl
        rw [ek]
        have c256 : c < 256 := cp c (List.mem_of_getElem? hc)
        refine r_inDig hT (fun d z => by rw [List.mem_singleton.mp z]; exact c256) (dig c) (by rw [← dig_any c c256]; refine congrArg (fun f => digL.any f) (funext fun d => ?_); simp) ?_
        cases hd : dig c with
        | false =>
          have et := tw_end hk (fun c2 z => by
            rw [hc] at z
            rw [← Option.some.inj z]
            exact hd)
          walk_at "sq go"
          refine ifD (fun c3 => ?_) (fun c3 => ?_)
          · walk_at "sq go"
            exact q false _ (fun z => nomatch z) (sM.trans bT)
          · have k3 : (p.takeWhile dig).length ≤ 3 := by
              rw [lk] at c3
              omega
            have all1 : ∀ j p2, j < i + 1 → o[j]? = some p2 → (p2.takeWhile dig).length ≤ 3 := fun j p2 hj hp => by
              rcases Nat.lt_succ_iff_lt_or_eq.mp hj with z | z
              · exact all j p2 z hp
              · rw [z, ep] at hp
                rw [← Option.some.inj hp]
                exact k3
            walk_at "sq go"
            refine ifD (fun c4 => ?_) (fun c4 => ?_)
            · walk_at "sq go"
              refine ifD (fun c5 => ?_) (fun c5 => ?_)
              · walk_at "sq go"
                exact q false _ (fun z => nomatch z) (sM.trans bT)
              · walk_at "sq go"
                exact ⟨_, _, rfl, bT, all1⟩
            · walk_at "sq go"
              exact ⟨_, _, rfl, bT, all1⟩
        | true =>
          have k1 := tw_take hk hc hd
          refine ⟨true, rfl, fun σ' G' => σ' = [some (.str (SX.S u)), some (.str (SX.S p)), some (.str (SX.S (p.take (k + 1))))] ∧ Same H1 G', fun σ' G' z => ⟨p.length - (k + 1), by omega, ⟨k + 1, rfl, z.1, k1, z.2⟩⟩, ?_⟩
          walk_at "sq go"
          rw [lk, C8.cutS_slice, show ((k : Nat) : Int) + 1 = ((k + 1 : Nat) : Int) by omega, SX.slice_to (by omega), Int.toNat_natCast]
          exact ⟨rfl, bT⟩
    · obtain ⟨x1, x2, rfl, b, all⟩ := h.o
      walk_at "sq go"
      refine q true _ (fun _ x y e => ?_) (sM.trans b)
      obtain ⟨f, o2, p, es2, hp, t⟩ := small_mem u [] x y e
      rw [es0] at es2
      obtain rfl := (List.cons.inj es2).2
      obtain ⟨j, hj⟩ := List.getElem?_of_mem hp
      rw [← t]
      exact all j p (by have := (List.getElem?_eq_some_iff.mp hj).1; simpa using this) hj

/-- a word of a text: few signs, all of them plain -/
def Wd (n : Nat) (w : List Nat) : Prop := w.length ≤ n ∧ ∀ c ∈ w, c < 128
abbrev tx (ws : List (List Nat)) : List V := ws.map fun w => V.str (SX.S w)
theorem same_updQ {G G' : Hp} {p : Addr} {u : HO} (h : Same G G') : Same (upd G p u) (upd G' p u) := fun b x e => by
  by_cases hb : b = p
  · rw [hb, upd_same] at e ⊢
    exact e
  · rw [upd_ne hb] at e ⊢
    exact h b x e
theorem pickQ {a b c d : Int} {w : Int} {P : Int → Prop} (h0 : 0 ≤ w) (h1 : w < 4) (pa : P a) (pb : P b) (pc : P c) (pd : P d) : ∃ v, atI [V.int a, .int b, .int c, .int d] w = some (.int v) ∧ P v := by
  rcases (show w = 0 ∨ w = 1 ∨ w = 2 ∨ w = 3 by omega) with z | z | z | z <;> rw [z]
  · exact ⟨a, atI_nat (j := 0) rfl, pa⟩
  · exact ⟨b, atI_nat (j := 1) rfl, pb⟩
  · exact ⟨c, atI_nat (j := 2) rfl, pc⟩
  · exact ⟨d, atI_nat (j := 3) rfl, pd⟩
abbrev s_law_parts : Stmt := topS 25
theorem sc_law_parts : FnScope ["rng", "found", "last", "place", "far", "number", "times"] ["rng"] (defScope s_law_parts) := ⟨rfl, rfl, rfl, by decide +kernel, rfl, by decide +kernel, by decide +kernel⟩

def spParts : Sp := fun vs H Q _ => ∃ (r : Addr) (N : Int) (G : Hp), vs = [.ref r] ∧ Sep (rg3 r N) G H ∧ Keep (N < 2 ^ 59) ∧
  ∀ p ws H', G p = none → ws.length ≤ 20 → (∀ w ∈ ws, Wd 210 w) → Sep (rg3 r (N + 200)) (upd G p (.lst (tx ws))) H' → Q (.ref p) H'
theorem cal_parts (D : DefAt K mg "_law_parts" s_law_parts ["rng"]) (B : Bt mg) (c_law_draw : Cal P w K mg base 1 "_law_draw" spDrawW []) : Cal P w K mg base 2 "_law_parts" spParts [] := by
  refine D.cal sc_law_parts (fun vs H Q E h => ?_) (fun f cdv A outer s H vs Q E hr h => ?_)
  · obtain ⟨r, N, G, rfl, _⟩ := h
    rfl
  · obtain ⟨r, N, G, rfl, hS, ⟨hN⟩, q⟩ := h
    refine ⟨_, (pss_cons (ps_par (i := 1) (j := 2) rfl sc_law_parts.nd rfl rfl (by decide) rfl rfl (pa_cons (pe_lst pa_nil) (pa_cons pe_int pa_nil)) (by rfl))
  (pss_cons (ps_for PassesOwn.never rfl (pi_range1 (by rfl) B.range (pa_cons (pe_c c_law_draw hr (by first | decide | omega) (by rfl) (pa_cons (pv 0) (pa_cons (pe_ix (ix_listK (K := K)) (pe_lst (pa_cons pe_int (pa_cons pe_int (pa_cons pe_int pa_nil)))) (pe_c c_law_draw hr (by first | decide | omega) (by rfl) (pa_cons (pv 0) (pa_cons pe_int pa_nil))) (fun _ _ => rfl)) pa_nil))) pa_nil)) (pg_name (i := 3) sc_law_parts.nd rfl (Or.inl rfl))
   (pss_cons (ps_set (i := 4) sc_law_parts.nd rfl (Or.inl rfl) (pe_op op_mulW (pe_op op_mulW (pe_op op_mulW (pe_op op_powW pe_int pe_int) (pe_op op_powW pe_int pe_int)) (pe_op op_powW pe_int pe_int)) (pe_op op_powW pe_int pe_int)))
  (pss_cons (ps_set (i := 5) sc_law_parts.nd rfl (Or.inl rfl) (pe_op op_add pe_int (pe_c c_law_draw hr (by first | decide | omega) (by rfl) (pa_cons (pv 0) (pa_cons (pe_ix (ix_listK (K := K)) (pe_lst (pa_cons pe_int (pa_cons pe_int (pa_cons (pe_op op_powW pe_int pe_int) (pa_cons (pv 4) pa_nil))))) (pe_c c_law_draw hr (by first | decide | omega) (by rfl) (pa_cons (pv 0) (pa_cons pe_int pa_nil))) (fun _ _ => rfl)) pa_nil)))))
  (pss_cut (ps_if (pt_cmpR op_eq (pv 5) (pv 2) (nomark _)) (pss_one (ps_set (i := 5) sc_law_parts.nd rfl (Or.inl rfl) (pe_op op_add (pv 5) pe_int))) pss_nil)
  (pss_cons (ps_set (i := 6) sc_law_parts.nd rfl (Or.inl rfl) (pe_ix (ix_listK (K := K)) (pe_lst (pa_cons pe_int (pa_cons pe_int (pa_cons pe_int (pa_cons (pe_op op_add pe_int (pe_c c_law_draw hr (by first | decide | omega) (by rfl) (pa_cons (pv 0) (pa_cons pe_int pa_nil)))) pa_nil))))) (pe_c c_law_draw hr (by first | decide | omega) (by rfl) (pa_cons (pv 0) (pa_cons pe_int pa_nil))) (fun _ _ => rfl)))
  (pss_cons (ps_expr (pe_bm PySem.F.plainAttrs_list PySem.F.slot_list_append PySem.F.type_list_append mt_append (pv 1) (pa_cons (pe_op op_add_str (pe_callTy call_str_int (by rfl) B.str (by decide +kernel) (pa_cons (pv 5) pa_nil)) (pe_ix (ix_listK (K := K)) (pe_lst (pa_cons pe_str (pa_cons (pe_op op_add_str pe_str (pe_callTy call_str_int (by rfl) B.str (by decide +kernel) (pa_cons (pv 6) pa_nil))) pa_nil))) (pe_callTy call_int1 (by rfl) B.int (by decide +kernel) (pa_cons (pe_cmpR op_gt (pv 6) pe_int (nomark _)) pa_nil)) (fun _ _ => rfl))) pa_nil)))
  (pss_one (ps_set (i := 2) sc_law_parts.nd rfl (Or.inl rfl) (pv 5)))))))))
  (pss_one (ps_ret (pv 1))))), ?_⟩
    walk_at "sq go"
    intro p np
    have gp := hS.free np
    have hS1 := hS.new np (.lst [])
    walk_at "sq go"
    intro e1 ne1
    have hS2 := hS1.on (same_new (o := .lst [.int 3, .int 9, .int 15]) ne1)
    have he1 : upd (upd H p (.lst [])) e1 (.lst [.int 3, .int 9, .int 15]) e1 = some (.lst [.int 3, .int 9, .int 15]) := upd_same
    have ge1 := hS1.free ne1
    have hS3 := hS1.new ne1 (.lst [.int 3, .int 9, .int 15])
    walk_at "sq go"
    refine ⟨⟨by omega, by decide, by omega⟩, fun a1 H1 a10 a11 hS4 => ?_⟩
    obtain ⟨m, em, m1, m15⟩ : ∃ m : Int, atI [V.int 3, .int 9, .int 15] a1 = some (.int m) ∧ 1 ≤ m ∧ m ≤ 15 := by
      rcases (show a1 = 0 ∨ a1 = 1 ∨ a1 = 2 by omega) with z | z | z <;> rw [z]
      · exact ⟨3, atI_nat (j := 0) rfl, by decide, by decide⟩
      · exact ⟨9, atI_nat (j := 1) rfl, by decide, by decide⟩
      · exact ⟨15, atI_nat (j := 2) rfl, by decide, by decide⟩
    have he4 := hS4.get (upd_same (o := .lst [.int 3, .int 9, .int 15]))
    have hS5 := hS4.weak (same_new (o := .lst [.int 3, .int 9, .int 15]) ge1)
    walk_at "sq go"
    refine ⟨⟨by omega, by omega, by omega⟩, fun tn H2 t0 t1 hS6 => ?_⟩
    have k60 : CPowW 10 60 := pow_ok (show Sm 4 10 by unfold Sm; decide) (by decide) (by decide) (by decide) (by decide)
    have k6 : CPowW 10 6 := pow_ok (show Sm 4 10 by unfold Sm; decide) (by decide) (by decide) (by decide) (by decide)
    have k19 : CPowW 10 19 := pow_ok (show Sm 4 10 by unfold Sm; decide) (by decide) (by decide) (by decide) (by decide)
    have t60 : Sm 200 ((10 : Int) ^ (60 : Int).toNat) := by unfold Sm; decide
    have t19 : Sm 64 ((10 : Int) ^ (19 : Int).toNat) := by unfold Sm; decide
    have w1 : CMulW ((10 : Int) ^ (60 : Int).toNat) ((10 : Int) ^ (60 : Int).toNat) := t60.wide t60 (by decide) (by decide) (by decide)
    have w2 : CMulW ((10 : Int) ^ (60 : Int).toNat * (10 : Int) ^ (60 : Int).toNat) ((10 : Int) ^ (60 : Int).toNat) := (t60.mul t60).wide t60 (by decide) (by decide) (by decide)
    have w3 : CMulW ((10 : Int) ^ (60 : Int).toNat * (10 : Int) ^ (60 : Int).toNat * (10 : Int) ^ (60 : Int).toNat) ((10 : Int) ^ (19 : Int).toNat) := ((t60.mul t60).mul t60).wide t19 (by decide) (by decide) (by decide)
    walk_at "sq go"
    refine for_range (lo := 0) (n := tn.toNat) (fun i σ H' => Keep (∃ (ws : List (List Nat)) (last : Int) (x1 x2 x3 x4 : Option V), σ = [some (.ref r), some (.ref p), some (.int last), x1, x2, x3, x4] ∧ Sep (rg3 r (N + 2 + 5 * i)) (upd G p (.lst (tx ws))) H' ∧ ws.length = i ∧ (∀ w ∈ ws, Wd 210 w)))
      ⟨[], 0, none, none, none, none, rfl, Sep3.mono hS6 (by omega), rfl, fun k z => nomatch z⟩ (fun i σ H' hi h => ?_) (fun σ H' h => ?_)
    · obtain ⟨ws, last, x1, x2, x3, x4, rfl, hs, hl, hw⟩ := h.o
      walk_at "sq go"
      intro e2 ne2
      have ge2 := hs.free ne2
      have hs1 := hs.new ne2 (.lst [.int 4, .int 60, .int ((10 : Int) ^ (6 : Int).toNat), .int ((10 : Int) ^ (60 : Int).toNat * (10 : Int) ^ (60 : Int).toNat * (10 : Int) ^ (60 : Int).toNat * (10 : Int) ^ (19 : Int).toNat)])
      walk_at "sq go"
      refine ⟨⟨by omega, by decide, by omega⟩, fun a2 H3 a20 a24 hs2 => ?_⟩
      have he2 := hs2.get (upd_same (o := .lst [.int 4, .int 60, .int ((10 : Int) ^ (6 : Int).toNat), .int ((10 : Int) ^ (60 : Int).toNat * (10 : Int) ^ (60 : Int).toNat * (10 : Int) ^ (60 : Int).toNat * (10 : Int) ^ (19 : Int).toNat)]))
      obtain ⟨m2, em2, m20, m21⟩ := pickQ (a := 4) (b := 60) (c := (10 : Int) ^ (6 : Int).toNat) (d := (10 : Int) ^ (60 : Int).toNat * (10 : Int) ^ (60 : Int).toNat * (10 : Int) ^ (60 : Int).toNat * (10 : Int) ^ (19 : Int).toNat) (w := a2) (P := fun v => 1 ≤ v ∧ v ≤ 10 ^ 199) a20 a24 ⟨by decide, by decide⟩ ⟨by decide, by decide⟩ ⟨by decide, by decide⟩ ⟨by decide +kernel, by decide +kernel⟩
      have hs3 := hs2.weak (same_new (o := .lst [.int 4, .int 60, .int ((10 : Int) ^ (6 : Int).toNat), .int ((10 : Int) ^ (60 : Int).toNat * (10 : Int) ^ (60 : Int).toNat * (10 : Int) ^ (60 : Int).toNat * (10 : Int) ^ (19 : Int).toNat)]) ge2)
      walk_at "sq go"
      refine ⟨⟨by omega, Int.lt_of_le_of_lt m21 (by decide +kernel), by omega⟩, fun dn H4 d0 d1 hs4 => ?_⟩
      walk_at "sq go"
      refine cut_at (fun σ G' => ∃ (n : Int) (y3 y4 y6 : Option V), σ = [some (.ref r), some (.ref p), some (.int last), y3, y4, some (.int n), y6] ∧ G' = H4 ∧ 2 ≤ n ∧ n ≤ 10 ^ 199 + 3) (fun N hN => ?_) (fun σ' H5 h5 => ?_)
      · walk_at "sq go"
        refine ifD (fun c1 => ?_) (fun c1 => ?_)
        · walk_at "sq go"
          exact hN _ _ ⟨_, _, _, _, rfl, rfl, by omega, by omega⟩
        · walk_at "sq go"
          exact hN _ _ ⟨_, _, _, _, rfl, rfl, by omega, by omega⟩
      · obtain ⟨n, y3, y4, y6, rfl, rfl, n2, nb⟩ := h5
        walk_at "sq go"
        refine ⟨⟨by omega, by decide, by omega⟩, fun a3 H5 a30 a39 hs5 => ?_⟩
        walk_at "sq go"
        intro e3 ne3
        have ge3 := hs5.free ne3
        have hs6 := hs5.new ne3 (.lst [.int 1, .int 1, .int 2, .int (2 + a3)])
        walk_at "sq go"
        refine ⟨⟨by omega, by decide, by omega⟩, fun a4 H6 a40 a44 hs7 => ?_⟩
        have he3 := hs7.get (upd_same (o := .lst [.int 1, .int 1, .int 2, .int (2 + a3)]))
        obtain ⟨t, et, t1, t101⟩ := pickQ (a := 1) (b := 1) (c := 2) (d := 2 + a3) (w := a4) (P := fun v => 1 ≤ v ∧ v ≤ 101) a40 a44 ⟨by decide, by decide⟩ ⟨by decide, by decide⟩ ⟨by decide, by decide⟩ ⟨by omega, by omega⟩
        have hs8 := hs7.weak (same_new (o := .lst [.int 1, .int 1, .int 2, .int (2 + a3)]) ge3)
        have hp8 := hs8.get upd_same
        obtain ⟨kn, rfl⟩ : ∃ kn : Nat, n = (kn : Int) := ⟨n.toNat, (Int.toNat_of_nonneg (by omega)).symm⟩
        obtain ⟨kt, rfl⟩ : ∃ kt : Nat, t = (kt : Int) := ⟨t.toNat, (Int.toNat_of_nonneg (by omega)).symm⟩
        have n200 : ((kn : Nat) : Int) < 10 ^ 200 := Int.lt_of_le_of_lt nb (by decide +kernel)
        have ln : (TL.numL kn).length ≤ 200 := TL.numL_len (by decide) (by
          have e : ((10 : Int) ^ 200) = ((10 ^ 200 : Nat) : Int) := by norm_cast
          rw [e] at n200
          exact Int.ofNat_lt.mp n200)
        have lt3 : (TL.numL kt).length ≤ 3 := TL.numL_len (by decide) (by omega)
        walk_at "sq go"
        refine ⟨num_lg (by omega) n200, ?_⟩
        rw [SX.num_S]
        walk_at "sq go"
        refine ⟨num_lg (by omega) (Int.lt_of_le_of_lt t101 (by decide +kernel)), ?_⟩
        rw [SX.num_S]
        have lz1 : ("^" : Str).length + (SX.S (TL.numL kt)).length ≤ sizeLine := by
          rw [s_pow, SX.S_len, SX.S_len, sizeLine_eq]
          simp only [List.length_cons, List.length_nil]
          omega
        walk_at "sq go"
        intro e4 ne4
        have ge4 := hs8.free ne4
        have hs9 := hs8.new ne4 (.lst [.str ("" : Str), .str (("^" : Str) ++ SX.S (TL.numL kt))])
        have he4 := hs9.get (upd_same (o := .lst [.str ("" : Str), .str (("^" : Str) ++ SX.S (TL.numL kt))]))
        have hp9 := upd_keep (o := .lst [.str ("" : Str), .str (("^" : Str) ++ SX.S (TL.numL kt))]) ne4 hp8
        walk_at "sq go"
        refine Or.inr ⟨decide ((1 : Int) < (kt : Int)), rfl, ?_⟩
        have l20 : ws.length + 1 ≤ 20 := by omega
        have wdn : ∀ c ∈ TL.numL kn, c < 128 := fun c hc => by
          have := all_digits (dig_num kn) c hc
          omega
        have wdt : ∀ c ∈ TL.numL kt, c < 128 := fun c hc => by
          have := all_digits (dig_num kt) c hc
          omega
        by_cases c5 : (1 : Int) < (kt : Int)
        · rw [decide_eq_true c5]
          have a1 : atI [V.str ("" : Str), V.str (("^" : Str) ++ SX.S (TL.numL kt))] 1 = some (V.str (("^" : Str) ++ SX.S (TL.numL kt))) := atI_nat (j := 1) rfl
          have lz2 : (SX.S (TL.numL kn)).length + (("^" : Str) ++ SX.S (TL.numL kt)).length ≤ sizeLine := by
            rw [s_pow, SX.S_cat, SX.S_len, SX.S_len, sizeLine_eq]
            simp only [List.length_cons, List.length_nil, List.length_append]
            omega
          walk_at "sq go"
          have npe : p ≠ e4 := fun z => by
            rw [← z, upd_same] at ge4
            cases ge4
          have hs10 := hs9.put (upd_keep ge4 upd_same) (.lst (tx (ws ++ [TL.numL kn ++ ([94] ++ TL.numL kt)])))
          have w1 : Same (upd G p (.lst (tx (ws ++ [TL.numL kn ++ ([94] ++ TL.numL kt)])))) (upd (upd (upd G p (.lst (tx ws))) e4 (.lst [.str ("" : Str), .str (("^" : Str) ++ SX.S (TL.numL kt))])) p (.lst (tx (ws ++ [TL.numL kn ++ ([94] ++ TL.numL kt)])))) := by
            have z := same_updQ (p := p) (u := .lst (tx (ws ++ [TL.numL kn ++ ([94] ++ TL.numL kt)]))) (same_new (o := .lst [.str ("" : Str), .str (("^" : Str) ++ SX.S (TL.numL kt))]) ge4)
            rw [upd_upd] at z
            exact z
          have ew : tx ws ++ [V.str (SX.S (TL.numL kn) ++ (("^" : Str) ++ SX.S (TL.numL kt)))] = tx (ws ++ [TL.numL kn ++ ([94] ++ TL.numL kt)]) := by
            rw [s_pow, SX.S_cat, SX.S_cat]
            simp [tx]
          rw [ew]
          refine ⟨ws ++ [TL.numL kn ++ ([94] ++ TL.numL kt)], _, _, _, _, _, rfl, Sep3.mono (hs10.weak w1) (by omega), by simp [hl], fun w hw2 => ?_⟩
          rcases List.mem_append.mp hw2 with z | z
          · exact hw w z
          · rw [List.mem_singleton.mp z]
            exact ⟨by rw [List.length_append, List.length_append]; simp only [List.length_cons, List.length_nil]; omega, fun c hc => by
              rcases List.mem_append.mp hc with z | z
              · exact wdn c z
              · rcases List.mem_append.mp z with z | z
                · rw [List.mem_singleton.mp z]
                  decide
                · exact wdt c z⟩
        · rw [decide_eq_false c5]
          have a1 : atI [V.str ("" : Str), V.str (("^" : Str) ++ SX.S (TL.numL kt))] 0 = some (V.str ("" : Str)) := atI_nat (j := 0) rfl
          have lz2 : (SX.S (TL.numL kn)).length + ("" : Str).length ≤ sizeLine := by
            rw [show ("" : Str) = SX.S [] from by decide, SX.S_len, SX.S_len, sizeLine_eq]
            simp only [List.length_nil]
            omega
          walk_at "sq go"
          have npe : p ≠ e4 := fun z => by
            rw [← z, upd_same] at ge4
            cases ge4
          have hs10 := hs9.put (upd_keep ge4 upd_same) (.lst (tx (ws ++ [TL.numL kn])))
          have w1 : Same (upd G p (.lst (tx (ws ++ [TL.numL kn])))) (upd (upd (upd G p (.lst (tx ws))) e4 (.lst [.str ("" : Str), .str (("^" : Str) ++ SX.S (TL.numL kt))])) p (.lst (tx (ws ++ [TL.numL kn])))) := by
            have z := same_updQ (p := p) (u := .lst (tx (ws ++ [TL.numL kn]))) (same_new (o := .lst [.str ("" : Str), .str (("^" : Str) ++ SX.S (TL.numL kt))]) ge4)
            rw [upd_upd] at z
            exact z
          have ew : tx ws ++ [V.str (SX.S (TL.numL kn) ++ ("" : Str))] = tx (ws ++ [TL.numL kn]) := by
            rw [show ("" : Str) = SX.S [] from by decide, SX.S_cat, List.append_nil]
            simp [tx]
          rw [ew]
          refine ⟨ws ++ [TL.numL kn], _, _, _, _, _, rfl, Sep3.mono (hs10.weak w1) (by omega), by simp [hl], fun w hw2 => ?_⟩
          rcases List.mem_append.mp hw2 with z | z
          · exact hw w z
          · rw [List.mem_singleton.mp z]
            exact ⟨by omega, wdn⟩
    · obtain ⟨ws, last, x1, x2, x3, x4, rfl, hs, hl, hw⟩ := h.o
      walk_at "sq go"
      exact q p ws H' gp (by omega) hw (Sep3.mono hs (by omega))

def bAll : List Str := [("0" : Str), ("1" : Str), ("1^2" : Str), ("02" : Str), ("2^1" : Str), ("2^0" : Str), ("2^02" : Str), ("-2" : Str), ("2." : Str), ("" : Str), (" " : Str), ("none" : Str), ("2^" : Str), ("^2" : Str), ("2^2^2" : Str), ("2, 2" : Str), ("3^2, 3" : Str), (Txt.mul ("9" : Str) 200), (Txt.mul ("9" : Str) 201), ("2^-1" : Str), (" 2" : Str), ("2 " : Str), ("2,3" : Str), ("x" : Str), ("2^3" : Str), ("1_0" : Str), ("+2" : Str)]
theorem bAll_ok : (bAll.all fun z => decide (z.cps.toList.length ≤ 210) && z.cps.toList.all (fun c => decide (c < 128))) = true := by decide +kernel
theorem bAll_len : bAll.length = 27 := rfl
theorem sumW_app (a b : List (List Nat)) : sumW (a ++ b) = sumW a + sumW b := by
  unfold sumW
  rw [List.map_append, List.sum_append]
theorem sumW_cut (ws : List (List Nat)) (k d : Nat) : sumW (ws.take k) + sumW (ws.drop (k + d)) ≤ sumW ws := by
  have e1 : sumW ws = sumW (ws.take k) + sumW (ws.drop k) := by rw [← sumW_app, List.take_append_drop]
  have e2 : sumW (ws.drop k) = sumW ((ws.drop k).take d) + sumW ((ws.drop k).drop d) := by rw [← sumW_app, List.take_append_drop]
  rw [List.drop_drop] at e2
  omega
theorem join_sg {p : Nat → Prop} {s : List Nat} (hs : ∀ c ∈ s, p c) : ∀ ws : List (List Nat), (∀ w ∈ ws, ∀ c ∈ w, p c) → ∀ c ∈ TL.joinL s ws, p c
  | [], _, c, hc => by cases hc
  | [a], h, c, hc => h a (List.mem_cons_self ..) c hc
  | a :: b :: r, h, c, hc => by
    rw [joinL_ne (List.cons_ne_nil _ _)] at hc
    rcases List.mem_append.mp hc with z | z
    · exact h a (List.mem_cons_self ..) c z
    · rcases List.mem_append.mp z with z | z
      · exact hs c z
      · exact join_sg hs (b :: r) (fun w hw => h w (List.mem_cons_of_mem _ hw)) c z
abbrev s_law_bent : Stmt := topS 26
theorem sc_law_bent : FnScope ["rng", "written", "words", "some", "spot", "signs", "turn", "cut", "sign"] ["rng", "written"] (defScope s_law_bent) := ⟨rfl, rfl, rfl, by decide +kernel, rfl, by decide +kernel, by decide +kernel⟩

def spBentT : Sp := fun vs H Q _ => ∃ (r : Addr) (u : List Nat) (N : Int) (G : Hp), vs = [.ref r, .str (SX.S u)] ∧ Sep (rg3 r N) G H ∧ Keep (u.length ≤ 4500 ∧ (∀ c ∈ u, c < 128) ∧ N < 2 ^ 59) ∧
  ∀ (w : List Nat) H', w.length ≤ 5000 → (∀ c ∈ w, c < 128) → Sep (rg3 r (N + 20)) G H' → Q (.str (SX.S w)) H'
theorem cal_bentT (D : DefAt K mg "_law_bent" s_law_bent ["rng", "written"]) (B : Bt mg) (c_law_draw : Cal P w K mg base 1 "_law_draw" spDrawW []) : Cal P w K mg base 2 "_law_bent" spBentT [] := by
  refine D.cal sc_law_bent (fun vs H Q E h => ?_) (fun f cdv A outer s H vs Q E hr h => ?_)
  · obtain ⟨r, u, N, G, rfl, _⟩ := h
    rfl
  · obtain ⟨r, u, N, G, rfl, hS, ⟨lu, cu, hN⟩, q⟩ := h
    refine ⟨_, (pss_cons (ps_if (pt_cmpR op_gt (pe_c c_law_draw hr (by first | decide | omega) (by rfl) (pa_cons (pv 0) (pa_cons pe_int pa_nil))) pe_int (nomark _)) (pss_cons (ps_set (i := 2) sc_law_bent.nd rfl (Or.inl rfl) (pe_split (pv 1) pe_str))
  (pss_cons (ps_set (i := 3) sc_law_bent.nd rfl (Or.inl rfl) (pe_lst (pa_cons pe_str (pa_cons pe_str (pa_cons pe_str (pa_cons pe_str (pa_cons pe_str (pa_cons pe_str (pa_cons pe_str (pa_cons pe_str (pa_cons pe_str (pa_cons pe_str (pa_cons pe_str (pa_cons pe_str (pa_cons pe_str (pa_cons pe_str pa_nil))))))))))))))))
  (pss_cons (ps_set (i := 3) sc_law_bent.nd rfl (Or.inl rfl) (pe_op op_cat (pv 3) (pe_lst (pa_cons pe_str (pa_cons pe_str (pa_cons pe_str (pa_cons (pe_op op_rep_str pe_str pe_int) (pa_cons (pe_op op_rep_str pe_str pe_int) (pa_cons pe_str (pa_cons pe_str (pa_cons pe_str pa_nil)))))))))))
  (pss_cons (ps_set (i := 3) sc_law_bent.nd rfl (Or.inl rfl) (pe_op op_cat (pv 3) (pe_lst (pa_cons pe_str (pa_cons pe_str (pa_cons pe_str (pa_cons pe_str (pa_cons pe_str pa_nil))))))))
  (pss_cons (ps_set (i := 4) sc_law_bent.nd rfl (Or.inl rfl) (pe_c c_law_draw hr (by first | decide | omega) (by rfl) (pa_cons (pv 0) (pa_cons (pe_callB (len_seqK (K := K)) (by rfl) B.len boot_len (pa_cons (pv 2) pa_nil)) pa_nil))))
  (pss_one (ps_ret (pe_join pe_str (pe_op op_cat (pe_op op_cat (pe_slice (sl_listK (K := K)) (pv 2) po_none (po_some (pv 4))) (pe_lst (pa_cons (pe_ix (ix_listK (K := K)) (pv 3) (pe_c c_law_draw hr (by first | decide | omega) (by rfl) (pa_cons (pv 0) (pa_cons (pe_callB (len_seqK (K := K)) (by rfl) B.len boot_len (pa_cons (pv 3) pa_nil)) pa_nil))) (fun _ _ => rfl)) pa_nil))) (pe_slice (sl_listK (K := K)) (pv 2) (po_some (pe_op op_add (pv 4) (pe_c c_law_draw hr (by first | decide | omega) (by rfl) (pa_cons (pv 0) (pa_cons pe_int pa_nil))))) po_none)))))))))) pss_nil)
  (pss_cons (ps_set (i := 5) sc_law_bent.nd rfl (Or.inl rfl) pe_str)
  (pss_cons (ps_for PassesOwn.never rfl (pi_range1 (by rfl) B.range (pa_cons (pe_op op_add pe_int (pe_c c_law_draw hr (by first | decide | omega) (by rfl) (pa_cons (pv 0) (pa_cons pe_int pa_nil)))) pa_nil)) (pg_name (i := 6) sc_law_bent.nd rfl (Or.inl rfl))
   (pss_cons (ps_set (i := 7) sc_law_bent.nd rfl (Or.inl rfl) (pe_c c_law_draw hr (by first | decide | omega) (by rfl) (pa_cons (pv 0) (pa_cons (pe_op op_add (pe_callB call_len_str (by rfl) B.len boot_len (pa_cons (pv 1) pa_nil)) pe_int) pa_nil))))
  (pss_cons (ps_set (i := 8) sc_law_bent.nd rfl (Or.inl rfl) (pe_op op_rep_str (pe_ix ix_str (pv 5) (pe_c c_law_draw hr (by first | decide | omega) (by rfl) (pa_cons (pv 0) (pa_cons (pe_callB call_len_str (by rfl) B.len boot_len (pa_cons (pv 5) pa_nil)) pa_nil))) (fun _ _ => rfl)) (pe_c c_law_draw hr (by first | decide | omega) (by rfl) (pa_cons (pv 0) (pa_cons pe_int pa_nil)))))
  (pss_one (ps_set (i := 1) sc_law_bent.nd rfl (Or.inl rfl) (pe_op op_add_str (pe_op op_add_str (pe_slice sl_str (pv 1) po_none (po_some (pv 7))) (pv 8)) (pe_slice sl_str (pv 1) (po_some (pe_op op_add (pv 7) (pe_c c_law_draw hr (by first | decide | omega) (by rfl) (pa_cons (pv 0) (pa_cons pe_int pa_nil))))) po_none)))))))
  (pss_one (ps_ret (pv 1)))))), ?_⟩
    have luS : (SX.S u).length = u.length := SX.S_len _
    have lu2 : (SX.S u).length + 2 ≤ sizeLine := by
      rw [SX.S_len, sizeLine_eq]
      omega
    walk_at "sq go"
    refine ⟨⟨by omega, by decide, by omega⟩, fun a0 H1 a00 a01 hS1 => ?_⟩
    walk_at "sq go"
    refine ifD (fun c1 => ?_) (fun c1 => ?_)
    · have es : Txt.split (SX.S u) (", " : Str) = (TL.spl [44, 32] 0 [] u).map SX.S := by
        rw [s_sep, SX.split_S (by decide) (by decide)]
      have wn := spl_ne2 [44, 32] u 0 []
      have wl := spl_count [44, 32] u 0 []
      have wsum := sum_spl u
      have wc : ∀ w ∈ TL.spl [44, 32] 0 [] u, ∀ c ∈ w, c < 128 := fun w hw c hc => by
        obtain ⟨a, b, e⟩ := spl_in hw
        exact cu c (by rw [e]; simp [hc])
      generalize TL.spl [44, 32] 0 [] u = ws at *
      have mo1 : MulOk ("9" : Str) 200 := by unfold MulOk; decide +kernel
      have mo2 : MulOk ("9" : Str) 201 := by unfold MulOk; decide +kernel
      walk_at "sq go"
      refine ⟨⟨_, rfl⟩, _, _, rfl, rfl, rfl, lu2, fun L nL => ?_⟩
      rw [es]
      have gL := hS1.free nL
      have hS2 := hS1.new nL (.lst ((ws.map SX.S).map V.str))
      walk_at "sq go"
      intro A1 nA1
      have gA1 := hS2.free nA1
      have hS3 := hS2.new nA1 (.lst [.str ("0" : Str), .str ("1" : Str), .str ("1^2" : Str), .str ("02" : Str), .str ("2^1" : Str), .str ("2^0" : Str), .str ("2^02" : Str), .str ("-2" : Str), .str ("2." : Str), .str ("" : Str), .str (" " : Str), .str ("none" : Str), .str ("2^" : Str), .str ("^2" : Str)])
      walk_at "sq go"
      intro A2 nA2
      have gA2 := hS3.free nA2
      have hS4 := hS3.new nA2 (.lst [.str ("2^2^2" : Str), .str ("2, 2" : Str), .str ("3^2, 3" : Str), .str (Txt.mul ("9" : Str) 200), .str (Txt.mul ("9" : Str) 201), .str ("2^-1" : Str), .str (" 2" : Str), .str ("2 " : Str)])
      have hA4 := hS4.get (upd_keep gA2 (upd_same (o := .lst [.str ("0" : Str), .str ("1" : Str), .str ("1^2" : Str), .str ("02" : Str), .str ("2^1" : Str), .str ("2^0" : Str), .str ("2^02" : Str), .str ("-2" : Str), .str ("2." : Str), .str ("" : Str), .str (" " : Str), .str ("none" : Str), .str ("2^" : Str), .str ("^2" : Str)])))
      have hB4 := hS4.get (upd_same (o := .lst [.str ("2^2^2" : Str), .str ("2, 2" : Str), .str ("3^2, 3" : Str), .str (Txt.mul ("9" : Str) 200), .str (Txt.mul ("9" : Str) 201), .str ("2^-1" : Str), .str (" 2" : Str), .str ("2 " : Str)]))
      walk_at "sq go"
      intro A3 nA3
      have gA3 := hS4.free nA3
      have hS5 := hS4.new nA3 (.lst ([.str ("0" : Str), .str ("1" : Str), .str ("1^2" : Str), .str ("02" : Str), .str ("2^1" : Str), .str ("2^0" : Str), .str ("2^02" : Str), .str ("-2" : Str), .str ("2." : Str), .str ("" : Str), .str (" " : Str), .str ("none" : Str), .str ("2^" : Str), .str ("^2" : Str)] ++ [.str ("2^2^2" : Str), .str ("2, 2" : Str), .str ("3^2, 3" : Str), .str (Txt.mul ("9" : Str) 200), .str (Txt.mul ("9" : Str) 201), .str ("2^-1" : Str), .str (" 2" : Str), .str ("2 " : Str)]))
      walk_at "sq go"
      intro A4 nA4
      have gA4 := hS5.free nA4
      have hS6 := hS5.new nA4 (.lst [.str ("2,3" : Str), .str ("x" : Str), .str ("2^3" : Str), .str ("1_0" : Str), .str ("+2" : Str)])
      have hA6 := hS6.get (upd_keep gA4 (upd_same (o := .lst ([.str ("0" : Str), .str ("1" : Str), .str ("1^2" : Str), .str ("02" : Str), .str ("2^1" : Str), .str ("2^0" : Str), .str ("2^02" : Str), .str ("-2" : Str), .str ("2." : Str), .str ("" : Str), .str (" " : Str), .str ("none" : Str), .str ("2^" : Str), .str ("^2" : Str)] ++ [.str ("2^2^2" : Str), .str ("2, 2" : Str), .str ("3^2, 3" : Str), .str (Txt.mul ("9" : Str) 200), .str (Txt.mul ("9" : Str) 201), .str ("2^-1" : Str), .str (" 2" : Str), .str ("2 " : Str)]))))
      have hB6 := hS6.get (upd_same (o := .lst [.str ("2,3" : Str), .str ("x" : Str), .str ("2^3" : Str), .str ("1_0" : Str), .str ("+2" : Str)]))
      walk_at "sq go"
      intro A5 nA5
      have gA5 := hS6.free nA5
      have eAll : [.str ("0" : Str), .str ("1" : Str), .str ("1^2" : Str), .str ("02" : Str), .str ("2^1" : Str), .str ("2^0" : Str), .str ("2^02" : Str), .str ("-2" : Str), .str ("2." : Str), .str ("" : Str), .str (" " : Str), .str ("none" : Str), .str ("2^" : Str), .str ("^2" : Str)] ++ [.str ("2^2^2" : Str), .str ("2, 2" : Str), .str ("3^2, 3" : Str), .str (Txt.mul ("9" : Str) 200), .str (Txt.mul ("9" : Str) 201), .str ("2^-1" : Str), .str (" 2" : Str), .str ("2 " : Str)] ++ [.str ("2,3" : Str), .str ("x" : Str), .str ("2^3" : Str), .str ("1_0" : Str), .str ("+2" : Str)] = bAll.map V.str := rfl
      rw [eAll]
      have hS7 := hS6.new nA5 (.lst (bAll.map V.str))
      have z4 := (((same_new (o := .lst [.str ("0" : Str), .str ("1" : Str), .str ("1^2" : Str), .str ("02" : Str), .str ("2^1" : Str), .str ("2^0" : Str), .str ("2^02" : Str), .str ("-2" : Str), .str ("2." : Str), .str ("" : Str), .str (" " : Str), .str ("none" : Str), .str ("2^" : Str), .str ("^2" : Str)]) gA1).trans (same_new (o := .lst [.str ("2^2^2" : Str), .str ("2, 2" : Str), .str ("3^2, 3" : Str), .str (Txt.mul ("9" : Str) 200), .str (Txt.mul ("9" : Str) 201), .str ("2^-1" : Str), .str (" 2" : Str), .str ("2 " : Str)]) gA2)).trans (same_new (o := .lst ([.str ("0" : Str), .str ("1" : Str), .str ("1^2" : Str), .str ("02" : Str), .str ("2^1" : Str), .str ("2^0" : Str), .str ("2^02" : Str), .str ("-2" : Str), .str ("2." : Str), .str ("" : Str), .str (" " : Str), .str ("none" : Str), .str ("2^" : Str), .str ("^2" : Str)] ++ [.str ("2^2^2" : Str), .str ("2, 2" : Str), .str ("3^2, 3" : Str), .str (Txt.mul ("9" : Str) 200), .str (Txt.mul ("9" : Str) 201), .str ("2^-1" : Str), .str (" 2" : Str), .str ("2 " : Str)])) gA3)).trans (same_new (o := .lst [.str ("2,3" : Str), .str ("x" : Str), .str ("2^3" : Str), .str ("1_0" : Str), .str ("+2" : Str)]) gA4)
      have sG := ((same_new (o := .lst ((ws.map SX.S).map V.str)) gL).trans z4).trans (same_new (o := .lst (bAll.map V.str)) gA5)
      have hL7 := upd_keep (o := .lst (bAll.map V.str)) gA5 (z4 _ _ (upd_same (o := .lst ((ws.map SX.S).map V.str))))
      have hA7 := upd_same (H := (upd (upd (upd (upd (upd G L (.lst ((ws.map SX.S).map V.str))) A1 (.lst [.str ("0" : Str), .str ("1" : Str), .str ("1^2" : Str), .str ("02" : Str), .str ("2^1" : Str), .str ("2^0" : Str), .str ("2^02" : Str), .str ("-2" : Str), .str ("2." : Str), .str ("" : Str), .str (" " : Str), .str ("none" : Str), .str ("2^" : Str), .str ("^2" : Str)])) A2 (.lst [.str ("2^2^2" : Str), .str ("2, 2" : Str), .str ("3^2, 3" : Str), .str (Txt.mul ("9" : Str) 200), .str (Txt.mul ("9" : Str) 201), .str ("2^-1" : Str), .str (" 2" : Str), .str ("2 " : Str)])) A3 (.lst ([.str ("0" : Str), .str ("1" : Str), .str ("1^2" : Str), .str ("02" : Str), .str ("2^1" : Str), .str ("2^0" : Str), .str ("2^02" : Str), .str ("-2" : Str), .str ("2." : Str), .str ("" : Str), .str (" " : Str), .str ("none" : Str), .str ("2^" : Str), .str ("^2" : Str)] ++ [.str ("2^2^2" : Str), .str ("2, 2" : Str), .str ("3^2, 3" : Str), .str (Txt.mul ("9" : Str) 200), .str (Txt.mul ("9" : Str) 201), .str ("2^-1" : Str), .str (" 2" : Str), .str ("2 " : Str)]))) A4 (.lst [.str ("2,3" : Str), .str ("x" : Str), .str ("2^3" : Str), .str ("1_0" : Str), .str ("+2" : Str)]))) (a := A5) (o := .lst (bAll.map V.str))
      clear z4 hS6 hA6 hB6 hS5 hS4 hA4 hB4 hS3 gA5 gA4 gA3 gA2 gA1 nA5 nA4 nA3 nA2 nA1
      generalize upd (upd (upd (upd (upd (upd G L (.lst ((ws.map SX.S).map V.str))) A1 (.lst [.str ("0" : Str), .str ("1" : Str), .str ("1^2" : Str), .str ("02" : Str), .str ("2^1" : Str), .str ("2^0" : Str), .str ("2^02" : Str), .str ("-2" : Str), .str ("2." : Str), .str ("" : Str), .str (" " : Str), .str ("none" : Str), .str ("2^" : Str), .str ("^2" : Str)])) A2 (.lst [.str ("2^2^2" : Str), .str ("2, 2" : Str), .str ("3^2, 3" : Str), .str (Txt.mul ("9" : Str) 200), .str (Txt.mul ("9" : Str) 201), .str ("2^-1" : Str), .str (" 2" : Str), .str ("2 " : Str)])) A3 (.lst ([.str ("0" : Str), .str ("1" : Str), .str ("1^2" : Str), .str ("02" : Str), .str ("2^1" : Str), .str ("2^0" : Str), .str ("2^02" : Str), .str ("-2" : Str), .str ("2." : Str), .str ("" : Str), .str (" " : Str), .str ("none" : Str), .str ("2^" : Str), .str ("^2" : Str)] ++ [.str ("2^2^2" : Str), .str ("2, 2" : Str), .str ("3^2, 3" : Str), .str (Txt.mul ("9" : Str) 200), .str (Txt.mul ("9" : Str) 201), .str ("2^-1" : Str), .str (" 2" : Str), .str ("2 " : Str)]))) A4 (.lst [.str ("2,3" : Str), .str ("x" : Str), .str ("2^3" : Str), .str ("1_0" : Str), .str ("+2" : Str)])) A5 (.lst (bAll.map V.str)) = G5 at *
      generalize upd (upd (upd (upd (upd (upd H1 L (.lst ((ws.map SX.S).map V.str))) A1 (.lst [.str ("0" : Str), .str ("1" : Str), .str ("1^2" : Str), .str ("02" : Str), .str ("2^1" : Str), .str ("2^0" : Str), .str ("2^02" : Str), .str ("-2" : Str), .str ("2." : Str), .str ("" : Str), .str (" " : Str), .str ("none" : Str), .str ("2^" : Str), .str ("^2" : Str)])) A2 (.lst [.str ("2^2^2" : Str), .str ("2, 2" : Str), .str ("3^2, 3" : Str), .str (Txt.mul ("9" : Str) 200), .str (Txt.mul ("9" : Str) 201), .str ("2^-1" : Str), .str (" 2" : Str), .str ("2 " : Str)])) A3 (.lst ([.str ("0" : Str), .str ("1" : Str), .str ("1^2" : Str), .str ("02" : Str), .str ("2^1" : Str), .str ("2^0" : Str), .str ("2^02" : Str), .str ("-2" : Str), .str ("2." : Str), .str ("" : Str), .str (" " : Str), .str ("none" : Str), .str ("2^" : Str), .str ("^2" : Str)] ++ [.str ("2^2^2" : Str), .str ("2, 2" : Str), .str ("3^2, 3" : Str), .str (Txt.mul ("9" : Str) 200), .str (Txt.mul ("9" : Str) 201), .str ("2^-1" : Str), .str (" 2" : Str), .str ("2 " : Str)]))) A4 (.lst [.str ("2,3" : Str), .str ("x" : Str), .str ("2^3" : Str), .str ("1_0" : Str), .str ("+2" : Str)])) A5 (.lst (bAll.map V.str)) = H7 at *
      clear eAll mo1 mo2 es
      have hL8 := hS7.get hL7
      have hA8 := hS7.get hA7
      walk_at "sq go"
      refine ⟨⟨by
        rw [List.length_map, List.length_map]
        have := List.length_pos_iff.mpr wn
        omega, Int.lt_of_le_of_lt (show _ ≤ (10000 : Int) by rw [List.length_map, List.length_map]; omega) (by decide), by omega⟩, fun spot H8 s0 s1 hS8 => ?_⟩
      have hL9 := hS8.get hL7
      have hA9 := hS8.get hA7
      have len8 : (SX.S u).length ≤ sizeLine := Nat.le_trans (Nat.le_add_right _ 2) lu2
      clear hS1 hS2 hS
      refine ⟨⟨_, rfl⟩, ?_⟩
      walk_at "sq go"
      intro F1 nF1
      obtain ⟨k, rfl⟩ : ∃ k : Nat, spot = (k : Int) := ⟨spot.toNat, (Int.toNat_of_nonneg s0).symm⟩
      have eF1 : cutV ((ws.map SX.S).map V.str) none (some ((k : Nat) : Int)) = tx (ws.take k) := by
        rw [cut_to, ← List.map_take, ← List.map_take, List.map_map]
        rfl
      rw [eF1]
      have gF1 := hS8.free nF1
      have hS9 := hS8.new nF1 (.lst (tx (ws.take k)))
      have hA10 := hS9.get (upd_keep gF1 hA7)
      walk_at "sq go"
      refine ⟨⟨by
        rw [List.length_map, bAll_len]
        decide, by
        rw [List.length_map, bAll_len]
        decide, by omega⟩, fun pk H9 p0 p1 hS10 => ?_⟩
      rw [List.length_map, bAll_len] at p1
      have hA11 := hS10.get (upd_keep gF1 hA7)
      obtain ⟨w1, ew1, hw1⟩ : ∃ w1 : List Nat, atI (bAll.map V.str) pk = some (V.str (SX.S w1)) ∧ Wd 210 w1 := by
        obtain ⟨j, rfl⟩ : ∃ j : Nat, pk = (j : Int) := ⟨pk.toNat, (Int.toNat_of_nonneg p0).symm⟩
        have hj : j < bAll.length := by
          rw [bAll_len]
          omega
        have hm := List.all_eq_true.mp bAll_ok _ (List.getElem_mem hj)
        rw [Bool.and_eq_true, decide_eq_true_eq, List.all_eq_true] at hm
        refine ⟨bAll[j].cps.toList, atI_nat (by rw [List.getElem?_map, List.getElem?_eq_getElem hj] <;> rfl), hm.1, fun c hc => of_decide_eq_true (hm.2 c hc)⟩
      walk_at "sq go"
      intro F2 nF2
      have gF2 := hS10.free nF2
      have hS11 := hS10.new nF2 (.lst (tx [w1]))
      have hF11 := hS11.get (upd_keep gF2 (upd_same (o := .lst (tx (ws.take k)))))
      have lF : (tx (ws.take k)).length + (tx [w1]).length ≤ sizeLine := by
        rw [List.length_map, List.length_map, List.length_take, sizeLine_eq]
        simp only [List.length_cons, List.length_nil]
        omega
      have hF12 := hS11.get (upd_same (o := .lst (tx [w1])))
      walk_at "sq go"
      intro F3 nF3
      have gF3 := hS11.free nF3
      have hS12 := hS11.new nF3 (.lst (tx (ws.take k) ++ tx [w1]))
      have hL12 := hS12.get (upd_keep gF3 (upd_keep gF2 (upd_keep gF1 hL7)))
      walk_at "sq go"
      refine ⟨⟨by decide, by decide, by omega⟩, fun d Hd d0 d1 hS13 => ?_⟩
      obtain ⟨dk, rfl⟩ : ∃ dk : Nat, d = (dk : Int) := ⟨d.toNat, (Int.toNat_of_nonneg d0).symm⟩
      have hL13 := hS13.get (upd_keep gF3 (upd_keep gF2 (upd_keep gF1 hL7)))
      walk_at "sq go"
      intro F4 nF4
      have eF4 : cutV ((ws.map SX.S).map V.str) (some (((k : Nat) : Int) + ((dk : Nat) : Int))) none = tx (ws.drop (k + dk)) := by
        rw [show ((k : Nat) : Int) + ((dk : Nat) : Int) = ((k + dk : Nat) : Int) by omega, cut_from, ← List.map_drop, ← List.map_drop, List.map_map]
        rfl
      rw [eF4]
      have gF4 := hS13.free nF4
      have hS14 := hS13.new nF4 (.lst (tx (ws.drop (k + dk))))
      have hF14 := hS14.get (upd_keep gF4 (upd_same (o := .lst (tx (ws.take k) ++ tx [w1]))))
      have hF15 := hS14.get (upd_same (o := .lst (tx (ws.drop (k + dk)))))
      have lG : (tx (ws.take k) ++ tx [w1]).length + (tx (ws.drop (k + dk))).length ≤ sizeLine := by
        rw [List.length_append, List.length_map, List.length_map, List.length_map, List.length_take, List.length_drop, sizeLine_eq]
        simp only [List.length_cons, List.length_nil]
        omega
      walk_at "sq go"
      intro F5 nF5
      have gF5 := hS14.free nF5
      have hS15 := hS14.new nF5 (.lst (tx (ws.take k) ++ tx [w1] ++ tx (ws.drop (k + dk))))
      have eall : tx (ws.take k) ++ tx [w1] ++ tx (ws.drop (k + dk)) = ((ws.take k ++ [w1] ++ ws.drop (k + dk)).map SX.S).map V.str := by simp [tx, Function.comp_def]
      have hF5 := hS15.get (upd_same (o := .lst (tx (ws.take k) ++ tx [w1] ++ tx (ws.drop (k + dk)))))
      have sm : sumW (ws.take k ++ [w1] ++ ws.drop (k + dk)) ≤ u.length + 2 + 212 := by
        have z := sumW_cut ws k dk
        have z1 : sumW [w1] = w1.length + 2 := by simp [sumW]
        have z2 := hw1.1
        rw [sumW_app, sumW_app]
        omega
      have sF := ((((sG.trans (same_new gF1)).trans (same_new gF2)).trans (same_new gF3)).trans (same_new gF4)).trans (same_new (o := .lst (tx (ws.take k) ++ tx [w1] ++ tx (ws.drop (k + dk)))) gF5)
      have swz : ∀ l : List (List Nat), sumW l = (l.map (·.length)).sum + l.length * 2 := fun l => by
        induction l with
        | nil => rfl
        | cons a r ih =>
          have : sumW (a :: r) = a.length + 2 + sumW r := by simp [sumW]
          rw [this, ih, List.map_cons, List.sum_cons, List.length_cons]
          omega
      have sm2 := swz (ws.take k ++ [w1] ++ ws.drop (k + dk))
      refine ⟨_, F5, (ws.take k ++ [w1] ++ ws.drop (k + dk)).map SX.S, rfl, rfl, .inl (seqL_of (by rw [← eall]; exact upd_same)), ?_, ?_⟩
      · rw [SX.lens, List.length_map, show (", " : Str).length = 2 from by decide +kernel]
        omega
      · rw [s_sep, SX.join_S]
        have jl := join_len [44, 32] (ws.take k ++ [w1] ++ ws.drop (k + dk))
        refine q _ _ ?_ (join_sg (fun c hc => ?_) _ fun w hw c hc => ?_) (Sep3.mono (hS15.weak sF) (by omega))
        · simp only [List.length_cons, List.length_nil] at jl
          omega
        · rcases List.mem_cons.mp hc with z | z
          · rw [z]; decide
          · rw [List.mem_singleton.mp z]; decide
        · rcases List.mem_append.mp hw with z | z
          · rcases List.mem_append.mp z with z | z
            · exact wc w (List.mem_of_mem_take z) c hc
            · rw [List.mem_singleton.mp z] at hc
              exact hw1.2 c hc
          · exact wc w (List.mem_of_mem_drop z) c hc
    · walk_at "sq go"
      refine ⟨⟨by omega, by decide, by omega⟩, fun tn H2 t0 t1 hS2 => ?_⟩
      have esg : ("0123^,, ^-+.x" : Str) = SX.S [48, 49, 50, 51, 94, 44, 44, 32, 94, 45, 43, 46, 120] := by decide +kernel
      walk_at "sq go"
      refine for_range (lo := 0) (n := (1 + tn).toNat) (fun i σ H' => Keep (∃ (w : List Nat) (x2 x3 x4 x6 x7 x8 : Option V), σ = [some (.ref r), some (.str (SX.S w)), x2, x3, x4, some (.str ("0123^,, ^-+.x" : Str)), x6, x7, x8] ∧ Sep (rg3 r (N + 2 + 5 * i)) G H' ∧ w.length ≤ u.length + i ∧ (∀ c ∈ w, c < 128)))
        ⟨u, none, none, none, none, none, none, rfl, Sep3.mono hS2 (by omega), Nat.le_refl _, cu⟩ (fun i σ H' hi h => ?_) (fun σ H' h => ?_)
      · obtain ⟨w, x2, x3, x4, x6, x7, x8, rfl, hs, lw, cw⟩ := h.o
        have i3 : i ≤ 3 := by omega
        have lwS : (SX.S w).length = w.length := SX.S_len _
        have lw2 : (SX.S w).length ≤ sizeLine := by
          rw [SX.S_len, sizeLine_eq]
          omega
        walk_at "sq go"
        refine ⟨⟨by omega, Int.lt_of_le_of_lt (show _ ≤ (10000 : Int) by omega) (by decide), by omega⟩, fun cut H3 c0 c1 hs1 => ?_⟩
        walk_at "sq go"
        refine ⟨⟨by decide, by decide, by omega⟩, fun d1 H4 d10 d11 hs2 => ?_⟩
        obtain ⟨cc, ecc, cc128⟩ : ∃ c : Nat, atI ("0123^,, ^-+.x" : Str).cps.toList d1 = some c ∧ c < 128 := by
          rw [esg] at d11 ⊢
          obtain ⟨j, rfl⟩ : ∃ j : Nat, d1 = (j : Int) := ⟨d1.toNat, (Int.toNat_of_nonneg d10).symm⟩
          have hj : j < 13 := by
            rw [SX.S_len] at d11
            simp only [List.length_cons, List.length_nil] at d11
            omega
          have hl : j < [48, 49, 50, 51, 94, 44, 44, 32, 94, 45, 43, 46, 120].length := hj
          refine ⟨[48, 49, 50, 51, 94, 44, 44, 32, 94, 45, 43, 46, 120][j], atI_nat (List.getElem?_eq_getElem hl), ?_⟩
          have : ∀ c ∈ [48, 49, 50, 51, 94, 44, 44, 32, 94, 45, 43, 46, 120], c < 128 := by decide
          exact this _ (List.getElem_mem hl)
        walk_at "sq go"
        refine ⟨⟨by decide, by decide, by omega⟩, fun d2 H5 d20 d21 hs3 => ?_⟩
        obtain ⟨sg, lsg, csg, esg2⟩ : ∃ sg : List Nat, sg.length ≤ 1 ∧ (∀ c ∈ sg, c < 128) ∧ Txt.mul (SX.S [cc]) d2 = SX.S sg := by
          rcases (show d2 = 0 ∨ d2 = 1 by omega) with z | z <;> rw [z]
          · exact ⟨[], by decide, fun c z => (nomatch z), rfl⟩
          · exact ⟨[cc], Nat.le_refl _, fun c z => by rw [List.mem_singleton.mp z]; exact cc128, rfl⟩
        have mo : MulOk (SX.S [cc]) d2 := by
          rcases (show d2 = 0 ∨ d2 = 1 by omega) with z | z <;> rw [z]
          · exact ⟨by decide, fun h => absurd (by decide) h, fun h => absurd (by decide) h⟩
          · exact ⟨by decide, fun _ e => by simp at e, fun _ e => by simp at e⟩
        have ecut : cutS (SX.S w) none (some cut) = SX.S (w.take cut.toNat) := by
          rw [C8.cutS_slice, SX.slice_to c0]
        have z1 : (cutS (SX.S w) none (some cut)).length + (Txt.mul (SX.S [cc]) d2).length ≤ sizeLine := by
          rw [ecut, esg2, SX.S_len, SX.S_len, List.length_take, sizeLine_eq]
          omega
        walk_at "sq go"
        refine ⟨⟨by decide, by decide, by omega⟩, fun d3 H6 d30 d31 hs4 => ?_⟩
        have ecut2 : cutS (SX.S w) (some (cut + d3)) none = SX.S (w.drop (cut.toNat + d3.toNat)) := by
          rw [C8.cutS_slice, SX.slice_from (by omega), show (cut + d3).toNat = cut.toNat + d3.toNat by omega]
        have z2 : (cutS (SX.S w) none (some cut) ++ Txt.mul (SX.S [cc]) d2).length + (cutS (SX.S w) (some (cut + d3)) none).length ≤ sizeLine := by
          rw [ecut, esg2, ecut2, SX.S_cat, SX.S_len, SX.S_len, List.length_append, List.length_take, List.length_drop, sizeLine_eq]
          omega
        have ebent : cutS (SX.S w) none (some cut) ++ Txt.mul (SX.S [cc]) d2 ++ cutS (SX.S w) (some (cut + d3)) none = SX.S (w.take cut.toNat ++ sg ++ w.drop (cut.toNat + d3.toNat)) := by
          rw [ecut, esg2, ecut2, SX.S_cat, SX.S_cat]
        walk_at "sq go"
        refine ⟨w.take cut.toNat ++ sg ++ w.drop (cut.toNat + d3.toNat), _, _, _, _, _, _, by rw [← ebent]; rfl, Sep3.mono hs4 (by omega), ?_, fun c hc => ?_⟩
        · rw [List.length_append, List.length_append, List.length_take, List.length_drop]
          omega
        · rcases List.mem_append.mp hc with z | z
          · rcases List.mem_append.mp z with z | z
            · exact cw c (List.mem_of_mem_take z)
            · exact csg c z
          · exact cw c (List.mem_of_mem_drop z)
      · obtain ⟨w, x2, x3, x4, x6, x7, x8, rfl, hs, lw, cw⟩ := h.o
        walk_at "sq go"
        exact q w _ (by omega) cw (Sep3.mono hs (by omega))

theorem rd_plain {u : List Nat} (hl : u.length ≤ 4100) (h : ∀ c ∈ u, c < 0x110000 ∧ c ≠ 94) : RdOk u := ⟨hl, fun c hc => (h c hc).1, fun a b e => absurd rfl (h 94 (by rw [e]; simp)).2⟩
def rdB : List Nat → Bool
  | [] => true
  | c :: r => (decide (c ≠ 94) || decide ((r.takeWhile dig).length ≤ 3)) && rdB r
theorem rdB_ok : ∀ u : List Nat, rdB u = true → ∀ a b, u = a ++ 94 :: b → (b.takeWhile dig).length ≤ 3
  | [], _, a, b, e => by simp at e
  | c :: r, h, a, b, e => by
    rw [rdB, Bool.and_eq_true] at h
    cases a with
    | nil =>
      have e1 : c = 94 := (List.cons.inj e).1
      have e2 : r = b := (List.cons.inj e).2
      subst e1; subst e2
      simpa using h.1
    | cons x a => exact rdB_ok r h.2 a b (List.cons.inj e).2
def fixL : List Str := [("" : Str), (" " : Str), ("none " : Str), ("None" : Str), ("0" : Str), ("1" : Str), ("2, 2" : Str), ("2^2, 2" : Str), ("2 , 3" : Str), ("2,3" : Str), ("none, 2" : Str), ("2, none" : Str), ("2^1" : Str)]
theorem fixL_ok : (fixL.all fun z => decide (z.cps.toList.length ≤ 4100) && z.cps.toList.all (fun c => decide (c < 0x110000)) && rdB z.cps.toList) = true := by decide +kernel
theorem fixL_rd {x : V} (h : x ∈ fixL.map V.str) : ∃ u, x = .str (SX.S u) ∧ RdOk u := by
  obtain ⟨z, hz, rfl⟩ := List.mem_map.mp h
  have q := List.all_eq_true.mp fixL_ok z hz
  rw [Bool.and_eq_true, Bool.and_eq_true, decide_eq_true_eq, List.all_eq_true] at q
  exact ⟨z.cps.toList, rfl, q.1.1, fun c hc => of_decide_eq_true (q.1.2 c hc), rdB_ok _ q.2⟩
def w23 : List (List Nat) := (List.replicate 666 [[50], [51]]).flatten
theorem w23_len : w23.length = 1332 := by
  unfold w23
  rw [List.length_flatten, List.map_replicate]
  decide +kernel
def Sgl (ws : List (List Nat)) : Prop := ∀ w ∈ ws, ∃ c, w = [c] ∧ c < 128 ∧ c ≠ 94
theorem w23_sgl : Sgl w23 := fun w hw => by
  obtain ⟨l, hl, z⟩ := List.mem_flatten.mp hw
  rw [List.eq_of_mem_replicate hl] at z
  rcases List.mem_cons.mp z with z | z
  · exact ⟨50, z, by decide, by decide⟩
  · exact ⟨51, List.mem_singleton.mp z, by decide, by decide⟩
theorem Sgl.app {a b : List (List Nat)} (h1 : Sgl a) (h2 : Sgl b) : Sgl (a ++ b) := fun w hw => (List.mem_append.mp hw).elim (h1 w) (h2 w)
theorem sgl_sum : ∀ {ws : List (List Nat)}, Sgl ws → (ws.map (·.length)).sum = ws.length
  | [], _ => rfl
  | w :: r, h => by
    have ih := sgl_sum (ws := r) fun x hx => h x (List.mem_cons_of_mem _ hx)
    obtain ⟨c, e, _⟩ := h w (List.mem_cons_self ..)
    rw [List.map_cons, List.sum_cons, ih, e]
    simp only [List.length_cons, List.length_nil]
    omega
theorem rd_sgl {ws : List (List Nat)} (h : Sgl ws) (hl : ws.length ≤ 1332) : RdOk (TL.joinL [44, 32] ws) := by
  have jl := join_len [44, 32] ws
  rw [sgl_sum h] at jl
  simp only [List.length_cons, List.length_nil] at jl
  refine rd_plain (by omega) (join_sg (p := fun c => c < 0x110000 ∧ c ≠ 94) (fun c hc => ?_) _ fun w hw c hc => ?_)
  · rcases List.mem_cons.mp hc with z | z
    · rw [z]; decide
    · rw [List.mem_singleton.mp z]; decide
  · obtain ⟨d, e, h1, h2⟩ := h w hw
    rw [e] at hc
    rw [List.mem_singleton.mp hc]
    exact ⟨by omega, h2⟩
theorem joinOk {ws : List (List Nat)} (h : Sgl ws) (hl : ws.length ≤ 1332) : ((ws.map SX.S).map (·.length)).sum + (ws.map SX.S).length * (", " : Str).length ≤ sizeLine := by
  rw [SX.lens, List.length_map, show (", " : Str).length = 2 from by decide +kernel, sgl_sum h, sizeLine_eq]
  omega
theorem cutA (l : List (List Nat)) (k : Nat) : cutV ((l.map SX.S).map V.str) none (some ((k : Nat) : Int)) = ((l.take k).map SX.S).map V.str := by
  rw [cut_to, ← List.map_take, ← List.map_take]
theorem cutB (l : List (List Nat)) (k : Nat) : cutV ((l.map SX.S).map V.str) (some (((k : Nat) : Int) + 1)) none = ((l.drop (k + 1)).map SX.S).map V.str := by
  rw [show ((k : Nat) : Int) + 1 = ((k + 1 : Nat) : Int) by omega, cut_from, ← List.map_drop, ← List.map_drop]
theorem Sgl.take {a : List (List Nat)} (h : Sgl a) (k : Nat) : Sgl (a.take k) := fun w hw => h w (List.mem_of_mem_take hw)
theorem Sgl.drop {a : List (List Nat)} (h : Sgl a) (k : Nat) : Sgl (a.drop k) := fun w hw => h w (List.mem_of_mem_drop hw)
abbrev s_law : Stmt := topS 29
theorem sc_law : FnScope ["script", "rng", "lap", "words", "written", "some", "spot", "fixed", "one"] ["script"] (defScope s_law) := ⟨rfl, rfl, rfl, by decide +kernel, rfl, by decide +kernel, by decide +kernel⟩

def spLaw (K : PySem.W.Frag) : Sp := fun vs H Q _ => ∃ (a : Addr) (ns : List Int), vs = [.ref a] ∧ SqL K H a (iv ns) ∧ ns.length ≤ 63 ∧ ∀ H', Q (.bl true) H'
theorem ok_law {f : Addr} {fd : FuncData} (F : Fun K "law" "law" s_law f fd) (B : Bt mg) (c_law_rng : Cal P w K mg base 1 "_law_rng" (spRng K) []) (c_law_draw : Cal P w K mg base 1 "_law_draw" spDrawW []) (c_law_parts : Cal P w K mg base 2 "_law_parts" spParts [])
    (c_law_bent : Cal P w K mg base 2 "_law_bent" spBentT []) (c_law_small : Cal P w K mg base 1 "_law_small" spSmall []) (c_law_right : CalG P w K mg base 6 "_law_right" spLRight) : FnG P w K mg base CX0 8 f fd ["script"] (spLaw K) := by
  refine okG F sc_law (fun vs H Q E h => ?_) (fun cdv A outer s H vs Q E hG hr h => ?_)
  · obtain ⟨a, ns, rfl, _⟩ := h
    rfl
  · obtain ⟨p0, ns0, rfl, hP, hl, q⟩ := h
    refine ⟨_, (pss_cons (ps_set (i := 1) sc_law.nd rfl (Or.inl rfl) (pe_c c_law_rng hr (by first | decide | omega) (by rfl) (pa_cons (pv 0) pa_nil)))
  (pss_cons (ps_for PassesOwn.never rfl (pi_range1 (by rfl) B.range (pa_cons (pe_op op_add pe_int (pe_callB (call_min2 rfl) (by rfl) B.min (by decide +kernel) (pa_cons pe_int (pa_cons (pe_callB (len_seqK (K := K)) (by rfl) B.len boot_len (pa_cons (pv 0) pa_nil)) pa_nil)))) pa_nil)) (pg_name (i := 2) sc_law.nd rfl (Or.inl rfl))
   (pss_cons (ps_set (i := 3) sc_law.nd rfl (Or.inl rfl) (pe_c c_law_parts hr (by first | decide | omega) (by rfl) (pa_cons (pv 1) pa_nil)))
  (pss_cut (ps_set (i := 4) sc_law.nd rfl (Or.inl rfl) (pe_ifExp (pt_cmpR (op_neDK (K := K) hr.units) (pv 3) (pe_lst pa_nil) (nomark _)) (pe_join pe_str (pv 3)) pe_str))
  (pss_cons (ps_set (i := 5) sc_law.nd rfl (Or.inl rfl) (pe_lst (pa_cons (pv 4) (pa_cons (pe_c c_law_bent hr (by first | decide | omega) (by rfl) (pa_cons (pv 1) (pa_cons (pv 4) pa_nil))) (pa_cons (pe_c c_law_bent hr (by first | decide | omega) (by rfl) (pa_cons (pv 1) (pa_cons (pv 4) pa_nil))) (pa_cons (pe_c c_law_bent hr (by first | decide | omega) (by rfl) (pa_cons (pv 1) (pa_cons (pv 4) pa_nil))) pa_nil))))))
  (pss_one (ps_if (pt_cmpR (op_neDK (K := K) hr.units) (pe_lc (own := [("one", 8)]) (g := gName 8) (by rfl) sc_law.nd (pi_listK (K := K) (pv 5)) (blkOk_by (own := [("one", 8)]) (N := ["script", "rng", "lap", "words", "written", "some", "spot", "fixed", "one"]) (sc := defScope s_law) (by decide +kernel)) (fun _ _ _ _ _ => (pg_name (i := 8) sc_law.nd rfl (Or.inl rfl))) (fun _ _ _ _ _ => (pts_one (PW.pt (pw_and (pt_val (pe_c c_law_small hr (by first | decide | omega) (by rfl) (pa_cons (pv 8) pa_nil))) (pw_and (pt_cmpR op_le (pe_callB call_len_str (by rfl) B.len boot_len (pa_cons (pv 8) pa_nil)) pe_int (nomark _)) (pw_and1 (pt_not (pt_val (pe_cG c_law_right hG hr (by first | decide | omega) (by rfl) (pa_cons (pv 8) pa_nil)))))))))) (fun _ _ _ _ _ => (pv 8))) (pe_lst pa_nil) (nomark _)) (pss_one (ps_ret pe_bl)) pss_nil))))))
  (pss_cons (ps_set (i := 3) sc_law.nd rfl (Or.inl rfl) (pe_op op_rep (pe_lst (pa_cons pe_str (pa_cons pe_str pa_nil))) pe_int))
  (pss_cons (ps_set (i := 6) sc_law.nd rfl (Or.inl rfl) (pe_op op_sub (pe_op op_sub (pe_callB (len_seqK (K := K)) (by rfl) B.len boot_len (pa_cons (pv 3) pa_nil)) pe_int) (pe_c c_law_draw hr (by first | decide | omega) (by rfl) (pa_cons (pv 1) (pa_cons pe_int pa_nil)))))
  (pss_cons (ps_set (i := 5) sc_law.nd rfl (Or.inl rfl) (pe_lst (pa_cons (pe_join pe_str (pv 3)) (pa_cons (pe_join pe_str (pe_op op_cat (pe_op op_cat (pe_slice (sl_listK (K := K)) (pv 3) po_none (po_some (pv 6))) (pe_lst (pa_cons pe_str pa_nil))) (pe_slice (sl_listK (K := K)) (pv 3) (po_some (pe_op op_add (pv 6) pe_int)) po_none))) pa_nil))))
  (pss_cons (ps_expr (pe_bm PySem.F.plainAttrs_list PySem.F.slot_list_append PySem.F.type_list_append mt_append (pv 5) (pa_cons (pe_join pe_str (pe_op op_cat (pe_slice (sl_listK (K := K)) (pv 3) po_none (po_some (pv 6))) (pe_slice (sl_listK (K := K)) (pv 3) (po_some (pe_op op_add (pv 6) pe_int)) po_none))) pa_nil)))
  (pss_cons (ps_set (i := 7) sc_law.nd rfl (Or.inl rfl) (pe_lst (pa_cons pe_str (pa_cons pe_str (pa_cons pe_str (pa_cons pe_str (pa_cons pe_str (pa_cons pe_str (pa_cons pe_str (pa_cons pe_str (pa_cons pe_str (pa_cons pe_str (pa_cons pe_str (pa_cons pe_str (pa_cons pe_str pa_nil)))))))))))))))
  (pss_one (ps_ret (pe_cmpR (op_eqDK (K := K) hr.units) (pe_lc (own := [("one", 8)]) (g := gName 8) (by rfl) sc_law.nd (pi_listK (K := K) (pe_op op_cat (pv 5) (pv 7))) (blkOk_by (own := [("one", 8)]) (N := ["script", "rng", "lap", "words", "written", "some", "spot", "fixed", "one"]) (sc := defScope s_law) (by decide +kernel)) (fun _ _ _ _ _ => (pg_name (i := 8) sc_law.nd rfl (Or.inl rfl))) (fun _ _ _ _ _ => (pts_one (pt_not (pt_val (pe_cG c_law_right hG hr (by first | decide | omega) (by rfl) (pa_cons (pv 8) pa_nil)))))) (fun _ _ _ _ _ => (pv 8))) (pe_lst pa_nil) (nomark _))))))))))), ?_⟩
    have el : (iv ns0).length = ns0.length := iv_len _
    walk_at "sq go"
    refine ⟨⟨trivial⟩, fun r H1 s1 hS => ?_⟩
    have hP1 := s1.seq hP
    walk_at "sq go"
    refine for_range (lo := 0) (n := _) (fun i σ H' => Keep (∃ x2 x3 x4 x5 x6 x7 x8, σ = [some (.ref p0), some (.ref r), x2, x3, x4, x5, x6, x7, x8] ∧ Sep (rg3 r (300 * i)) H H' ∧ i ≤ 18)) ⟨_, _, _, _, _, _, _, rfl, Sep3.mono hS (by omega), by omega⟩ (fun i σ H' hi h => ?_) (fun σ H' h => ?_)
    · obtain ⟨x2, x3, x4, x5, x6, x7, x8, rfl, hs, hi8⟩ := h.o
      have hi9 : i + 1 ≤ 18 := by (repeat' split at hi) <;> omega
      walk_at "sq go"
      refine ⟨⟨by omega⟩, fun p ws H2 gp lw hw hs2 => ?_⟩
      have hp2 := hs2.get upd_same
      walk_at "sq go"
      refine cut_at (fun σ' H' => ∃ u, σ' = [some (.ref p0), some (.ref r), some (.int (0 + ((i : Nat) : Int))), some (.ref p), some (.str (SX.S u)), x5, x6, x7, x8] ∧ Sep (rg3 r (300 * i + 200)) H H' ∧ u.length ≤ 4500 ∧ ∀ c ∈ u, c < 128) (fun N hN => ?_) (fun σ' H' hd => ?_)
      · walk_at "sq go"
        intro e ne
        have hk : ∀ w ∈ ws, PyData.strOk (SX.S w) = true := fun w hw2 => strOk_S fun c hc => Nat.lt_trans ((hw w hw2).2 c hc) (by decide)
        refine r_neS0 (upd_keep ne hp2) upd_same hk ?_
        have hs3 := Sep.weak (hs2.on (same_new (o := .lst []) ne)) (same_new gp)
        walk_at "sq go"
        refine ifN (fun hne => ?_) (fun he => ?_)
        · walk_at "sq go"
          refine ⟨⟨_, rfl⟩, _, rfl, _, p, ws.map SX.S, rfl, rfl, .inl (seqL_of (upd_keep ne (by rw [List.map_map]; exact hp2))), ?_, ?_⟩
          · rw [SX.lens, List.length_map, show (", " : Str).length = 2 from by decide +kernel]
            have sl := sum_le (b := 210) fun w hw2 => (hw w hw2).1
            have ml := Nat.mul_le_mul_right 210 lw
            omega
          · rw [s_sep, SX.join_S]
            have jl := join_len [44, 32] ws
            have sl := sum_le (b := 210) fun w hw2 => (hw w hw2).1
            have ml := Nat.mul_le_mul_right 210 lw
            simp only [List.length_cons, List.length_nil] at jl
            refine hN _ _ ⟨TL.joinL [44, 32] ws, rfl, Sep3.mono hs3 (by omega), by omega, join_sg (fun c hc => ?_) _ fun w hw2 c hc => (hw w hw2).2 c hc⟩
            rcases List.mem_cons.mp hc with z | z
            · rw [z]; decide
            · rw [List.mem_singleton.mp z]; decide
        · rw [s_none]
          exact hN _ _ ⟨noneL, rfl, Sep3.mono hs3 (by omega), by decide, by decide⟩
      · obtain ⟨u, rfl, hs3, lu, cu⟩ := hd
        walk_at "sq go"
        refine ⟨⟨lu, cu, by omega⟩, fun b1 H3 lb1 cb1 hs4 => ?_⟩
        walk_at "sq go"
        refine ⟨⟨lu, cu, by omega⟩, fun b2 H4 lb2 cb2 hs5 => ?_⟩
        walk_at "sq go"
        refine ⟨⟨lu, cu, by omega⟩, fun b3 H5 lb3 cb3 hs6 => ?_⟩
        walk_at "sq go"
        intro L nL
        have hs7 := hs6.on (same_new (o := .lst [.str (SX.S u), .str (SX.S b1), .str (SX.S b2), .str (SX.S b3)]) nL)
        have hL := upd_same (H := H5) (a := L) (o := .lst [.str (SX.S u), .str (SX.S b1), .str (SX.S b2), .str (SX.S b3)])
        generalize upd H5 L (.lst [.str (SX.S u), .str (SX.S b1), .str (SX.S b2), .str (SX.S b3)]) = H6 at *
        walk_at "sq go"
        intro D nD
        have hLD := upd_keep (o := .lst []) nD hL
        refine lc_list (K := K) (a := L) (xs := [.str (SX.S u), .str (SX.S b1), .str (SX.S b2), .str (SX.S b3)]) (fun k H' => Keep (Same (upd H6 D (.lst [])) H')) ⟨.refl _⟩ (fun k H' _ h => seqL_of (h.o _ _ hLD)) (fun k x H' hx h => ?_) (fun H' h => ?_)
        · have s7 := h.o
          obtain ⟨o, rfl, lo, co⟩ : ∃ o, x = .str (SX.S o) ∧ o.length ≤ 5000 ∧ ∀ c ∈ o, c < 128 := by
            match k, hx with
            | 0, hx => exact ⟨u, (Option.some.inj hx).symm, by omega, cu⟩
            | 1, hx => exact ⟨b1, (Option.some.inj hx).symm, by omega, cb1⟩
            | 2, hx => exact ⟨b2, (Option.some.inj hx).symm, by omega, cb2⟩
            | 3, hx => exact ⟨b3, (Option.some.inj hx).symm, by omega, cb3⟩
          walk_at "sq go"
          refine ⟨⟨lo, fun c hc => Nat.lt_trans (co c hc) (by decide)⟩, fun b J1 hb sb => ?_⟩
          have s8 := s7.trans sb
          have p8 : Keep (Same (upd H6 D (.lst [])) J1) := ⟨s8⟩
          have loS : (SX.S o).length ≤ sizeLine := by
            rw [SX.S_len, sizeLine_eq]
            omega
          cases b with
          | false =>
            walk_at "sq go"
            exact p8
          | true =>
            walk_at "sq go"
            refine ifD (fun c1 => ?_) (fun c1 => ?_)
            · have rd : RdOk o := ⟨by rw [SX.S_len] at c1; omega, fun c hc => Nat.lt_trans (co c hc) (by decide), hb rfl⟩
              walk_at "sq go"
              refine ⟨⟨rd⟩, fun J2 s9 => ?_⟩
              walk_at "sq go"
              exact ⟨s8.trans s9⟩
            · walk_at "sq go"
              exact p8
        · have s7 := h.o
          have hs8 := (hs7.on (same_new (o := .lst []) nD)).on s7
          have hD := s7 _ _ upd_same
          walk_at "sq go"
          intro e ne
          refine r_neL0 (upd_keep ne hD) upd_same ?_
          have hs9 := hs8.on (same_new (o := .lst []) ne)
          walk_at "sq go"
          exact ⟨_, _, _, _, _, _, _, rfl, Sep3.mono hs9 (by omega), hi9⟩
    · obtain ⟨x2, x3, x4, x5, x6, x7, x8, rfl, hs, hi8⟩ := h.o
      walk_at "sq go"
      intro e0 ne0
      walk_at "sq go"
      intro W nW
      have hs0 := hs.on (same_new (o := .lst [V.str (Str.ofString "2"), V.str (Str.ofString "3")]) ne0)
      have gW := hs0.free nW
      have ew : (List.replicate (666 : Int).toNat [V.str (Str.ofString "2"), V.str (Str.ofString "3")]).flatten = (w23.map SX.S).map V.str := by
        unfold w23
        rw [List.map_flatten, List.map_flatten, List.map_replicate, List.map_replicate]
        rfl
      rw [ew]
      have hs1 := hs0.new nW (.lst ((w23.map SX.S).map V.str))
      have hW := upd_same (H := (upd H' e0 (.lst [V.str (Str.ofString "2"), V.str (Str.ofString "3")]))) (a := W) (o := .lst ((w23.map SX.S).map V.str))
      generalize upd (upd H' e0 (.lst [V.str (Str.ofString "2"), V.str (Str.ofString "3")])) W (.lst ((w23.map SX.S).map V.str)) = H1' at *
      have hW' := upd_same (H := H) (a := W) (o := .lst ((w23.map SX.S).map V.str))
      generalize upd H W (.lst ((w23.map SX.S).map V.str)) = G at *
      clear ew
      walk_at "sq go"
      refine ⟨⟨by decide, by decide, by omega⟩, fun v H2 v0 v1 hs2 => ?_⟩
      have hW2 := hs2.get hW'
      walk_at "sq go"
      obtain ⟨k, ek, k1031⟩ : ∃ k : Nat, ((((w23.map SX.S).map V.str).length : Nat) : Int) - 1 - v = (k : Int) ∧ k ≤ 1331 := ⟨(1331 - v).toNat, by rw [List.length_map, List.length_map, w23_len]; omega, by omega⟩
      have lenW : ((w23.map SX.S).map V.str).length = 1332 := by rw [List.length_map, List.length_map, w23_len]
      refine ⟨⟨_, rfl⟩, _, rfl, _, W, w23.map SX.S, rfl, rfl, .inl (seqL_of hW2), joinOk w23_sgl (by rw [w23_len]; omega), ?_⟩
      rw [s_sep, SX.join_S]
      dsimp only
      rw [ek]
      walk_at "sq go"
      have l1 : ((w23.take k).map SX.S).length = k := by rw [List.length_map, List.length_take, w23_len]; omega
      have l2 : ((w23.drop (k + 1)).map SX.S).length = 1332 - (k + 1) := by rw [List.length_map, List.length_drop, w23_len]
      refine ⟨⟨_, rfl⟩, ?_⟩
      walk_at "sq go"
      intro F1 nF1
      rw [cutA]
      have hs3 := hs2.on (same_new (o := .lst (((w23.take k).map SX.S).map V.str)) nF1)
      have hF1 := upd_same (H := H2) (a := F1) (o := .lst (((w23.take k).map SX.S).map V.str))
      generalize upd H2 F1 (.lst (((w23.take k).map SX.S).map V.str)) = H3 at *
      walk_at "sq go"
      intro F2 nF2
      have e1 : [V.str ("1" : Str)] = (([[49]] : List (List Nat)).map SX.S).map V.str := by
        rw [show ("1" : Str) = SX.S [49] from by decide +kernel]
        rfl
      rw [e1]
      have hs4 := hs3.on (same_new (o := .lst ((([[49]] : List (List Nat)).map SX.S).map V.str)) nF2)
      have hF2 := upd_same (H := H3) (a := F2) (o := .lst ((([[49]] : List (List Nat)).map SX.S).map V.str))
      have hF1' := upd_keep (o := .lst ((([[49]] : List (List Nat)).map SX.S).map V.str)) nF2 hF1
      generalize upd H3 F2 (.lst ((([[49]] : List (List Nat)).map SX.S).map V.str)) = H4 at *
      have z1 : (((w23.take k).map SX.S).map V.str).length + ((([[49]] : List (List Nat)).map SX.S).map V.str).length ≤ sizeLine := by
        rw [List.length_map, l1, sizeLine_eq]
        simp only [List.length_map, List.length_cons, List.length_nil]
        omega
      walk_at "sq go"
      intro F3 nF3
      rw [← List.map_append, ← List.map_append]
      have hs5 := hs4.on (same_new (o := .lst (((w23.take k ++ [[49]]).map SX.S).map V.str)) nF3)
      have hF3 := upd_same (H := H4) (a := F3) (o := .lst (((w23.take k ++ [[49]]).map SX.S).map V.str))
      generalize upd H4 F3 (.lst (((w23.take k ++ [[49]]).map SX.S).map V.str)) = H5 at *
      have hW5 := hs5.get hW'
      walk_at "sq go"
      intro F4 nF4
      rw [cutB]
      have hs6 := hs5.on (same_new (o := .lst (((w23.drop (k + 1)).map SX.S).map V.str)) nF4)
      have hF3' := upd_keep (o := .lst (((w23.drop (k + 1)).map SX.S).map V.str)) nF4 hF3
      have hF4 := upd_same (H := H5) (a := F4) (o := .lst (((w23.drop (k + 1)).map SX.S).map V.str))
      generalize upd H5 F4 (.lst (((w23.drop (k + 1)).map SX.S).map V.str)) = H6 at *
      have z2 : (((w23.take k ++ [[49]]).map SX.S).map V.str).length + (((w23.drop (k + 1)).map SX.S).map V.str).length ≤ sizeLine := by
        rw [List.length_map] at l1 l2
        simp only [List.length_map, List.length_append, List.length_cons, List.length_nil, l1, l2]
        rw [sizeLine_eq]
        omega
      walk_at "sq go"
      intro F5 nF5
      rw [← List.map_append, ← List.map_append]
      have hs7 := hs6.on (same_new (o := .lst (((w23.take k ++ [[49]] ++ w23.drop (k + 1)).map SX.S).map V.str)) nF5)
      have hF5 := upd_same (H := H6) (a := F5) (o := .lst (((w23.take k ++ [[49]] ++ w23.drop (k + 1)).map SX.S).map V.str))
      generalize upd H6 F5 (.lst (((w23.take k ++ [[49]] ++ w23.drop (k + 1)).map SX.S).map V.str)) = H7 at *
      have sg2 : Sgl (w23.take k ++ [[49]] ++ w23.drop (k + 1)) := ((w23_sgl.take k).app fun w hw => ⟨49, List.mem_singleton.mp hw, by decide, by decide⟩).app (w23_sgl.drop _)
      have lg2 : (w23.take k ++ [[49]] ++ w23.drop (k + 1)).length ≤ 1332 := by
        rw [List.length_map] at l1 l2
        rw [List.length_append, List.length_append, l1, l2, List.length_singleton]
        omega
      refine ⟨_, F5, (w23.take k ++ [[49]] ++ w23.drop (k + 1)).map SX.S, rfl, rfl, .inl (seqL_of hF5), joinOk sg2 lg2, ?_⟩
      rw [SX.join_S]
      walk_at "sq go"
      intro L nL
      have hs8 := hs7.on (same_new (o := .lst [.str (SX.S (TL.joinL [44, 32] w23)), .str (SX.S (TL.joinL [44, 32] (w23.take k ++ [[49]] ++ w23.drop (k + 1))))]) nL)
      have hL := upd_same (H := H7) (a := L) (o := .lst [.str (SX.S (TL.joinL [44, 32] w23)), .str (SX.S (TL.joinL [44, 32] (w23.take k ++ [[49]] ++ w23.drop (k + 1))))])
      have gL := hs7.free nL
      have rd1 := rd_sgl w23_sgl (by rw [w23_len]; omega)
      have rd2 := rd_sgl sg2 lg2
      generalize TL.joinL [44, 32] w23 = u1 at *
      generalize TL.joinL [44, 32] (w23.take k ++ [[49]] ++ w23.drop (k + 1)) = u2 at *
      have hs8 := hs7.new nL (.lst [.str (SX.S u1), .str (SX.S u2)])
      have hGL := upd_same (H := G) (a := L) (o := .lst [.str (SX.S u1), .str (SX.S u2)])
      have hGW := upd_keep (o := .lst [.str (SX.S u1), .str (SX.S u2)]) gL hW'
      have sGG := same_new (o := .lst [.str (SX.S u1), .str (SX.S u2)]) gL
      generalize upd G L (.lst [.str (SX.S u1), .str (SX.S u2)]) = G2 at *
      generalize upd H7 L (.lst [.str (SX.S u1), .str (SX.S u2)]) = H8 at *
      have hW8 := hs8.get hGW
      walk_at "sq go"
      refine ⟨⟨_, rfl⟩, ?_⟩
      walk_at "sq go"
      intro F6 nF6
      rw [cutA]
      have hs9 := hs8.on (same_new (o := .lst (((w23.take k).map SX.S).map V.str)) nF6)
      have hF6 := upd_same (H := H8) (a := F6) (o := .lst (((w23.take k).map SX.S).map V.str))
      generalize upd H8 F6 (.lst (((w23.take k).map SX.S).map V.str)) = H9 at *
      have hW9 := hs9.get hGW
      walk_at "sq go"
      intro F7 nF7
      rw [cutB]
      have hs10 := hs9.on (same_new (o := .lst (((w23.drop (k + 1)).map SX.S).map V.str)) nF7)
      have hF6' := upd_keep (o := .lst (((w23.drop (k + 1)).map SX.S).map V.str)) nF7 hF6
      have hF7 := upd_same (H := H9) (a := F7) (o := .lst (((w23.drop (k + 1)).map SX.S).map V.str))
      generalize upd H9 F7 (.lst (((w23.drop (k + 1)).map SX.S).map V.str)) = H10 at *
      have z3 : (((w23.take k).map SX.S).map V.str).length + (((w23.drop (k + 1)).map SX.S).map V.str).length ≤ sizeLine := by
        rw [List.length_map, l1, List.length_map, l2, sizeLine_eq]
        omega
      walk_at "sq go"
      intro F8 nF8
      rw [← List.map_append, ← List.map_append]
      have hs11 := hs10.on (same_new (o := .lst (((w23.take k ++ w23.drop (k + 1)).map SX.S).map V.str)) nF8)
      have hF8 := upd_same (H := H10) (a := F8) (o := .lst (((w23.take k ++ w23.drop (k + 1)).map SX.S).map V.str))
      generalize upd H10 F8 (.lst (((w23.take k ++ w23.drop (k + 1)).map SX.S).map V.str)) = H11 at *
      have sg3 : Sgl (w23.take k ++ w23.drop (k + 1)) := (w23_sgl.take k).app (w23_sgl.drop _)
      have lg3 : (w23.take k ++ w23.drop (k + 1)).length ≤ 1332 := by
        rw [List.length_map] at l1 l2
        rw [List.length_append, l1, l2]
        omega
      refine ⟨_, F8, (w23.take k ++ w23.drop (k + 1)).map SX.S, rfl, rfl, .inl (seqL_of hF8), joinOk sg3 lg3, ?_⟩
      rw [SX.join_S]
      have rd3 := rd_sgl sg3 lg3
      generalize TL.joinL [44, 32] (w23.take k ++ w23.drop (k + 1)) = u3 at *
      have hL11 := hs11.get hGL
      walk_at "sq go"
      have hs12 := hs11.put hGL (.lst ([.str (SX.S u1), .str (SX.S u2)] ++ [.str (SX.S u3)]))
      have hL12 := hs12.get upd_same
      generalize upd H11 L (.lst ([.str (SX.S u1), .str (SX.S u2)] ++ [.str (SX.S u3)])) = H12 at *
      walk_at "sq go"
      intro X nX
      rw [show ([V.str ("" : Str), V.str (" " : Str), V.str ("none " : Str), V.str ("None" : Str), V.str ("0" : Str), V.str ("1" : Str), V.str ("2, 2" : Str), V.str ("2^2, 2" : Str), V.str ("2 , 3" : Str), V.str ("2,3" : Str), V.str ("none, 2" : Str), V.str ("2, none" : Str), V.str ("2^1" : Str)] : List V) = fixL.map V.str from rfl]
      have hL13 := upd_keep (o := .lst (fixL.map V.str)) nX hL12
      have hX13 := upd_same (H := H12) (a := X) (o := .lst (fixL.map V.str))
      generalize upd H12 X (.lst (fixL.map V.str)) = H13 at *
      have lf : fixL.length = 13 := rfl
      have z4 : ([V.str (SX.S u1), V.str (SX.S u2)] ++ [V.str (SX.S u3)]).length + (fixL.map V.str).length ≤ sizeLine := by
        rw [List.length_map, lf, sizeLine_eq]
        simp only [List.length_append, List.length_cons, List.length_nil]
        omega
      walk_at "sq go"
      intro Y nY
      have hY := upd_same (H := H13) (a := Y) (o := .lst ([V.str (SX.S u1), V.str (SX.S u2)] ++ [V.str (SX.S u3)] ++ fixL.map V.str))
      generalize eall : [V.str (SX.S u1), V.str (SX.S u2)] ++ [V.str (SX.S u3)] ++ fixL.map V.str = all at *
      generalize upd H13 Y (.lst all) = H14 at *
      walk_at "sq go"
      intro D nD
      have hYD := upd_keep (o := .lst []) nD hY
      refine lc_list (K := K) (a := Y) (xs := all) (fun k H' => Keep (Same (upd H14 D (.lst [])) H')) ⟨.refl _⟩ (fun k H' _ h => seqL_of (h.o _ _ hYD)) (fun j x H' hx h => ?_) (fun H' h => ?_)
      · have s7 := h.o
        obtain ⟨o, rfl, rd⟩ : ∃ o, x = .str (SX.S o) ∧ RdOk o := by
          have hm := List.mem_of_getElem? hx
          rw [← eall] at hm
          rcases List.mem_append.mp hm with z | z
          · rcases List.mem_append.mp z with z | z
            · rcases List.mem_cons.mp z with z | z
              · exact ⟨u1, z, rd1⟩
              · exact ⟨u2, List.mem_singleton.mp z, rd2⟩
            · exact ⟨u3, List.mem_singleton.mp z, rd3⟩
          · exact fixL_rd z
        walk_at "sq go"
        refine ⟨⟨rd⟩, fun J2 s9 => ?_⟩
        walk_at "sq go"
        exact ⟨s7.trans s9⟩
      · have hD := h.o _ _ upd_same
        walk_at "sq go"
        intro e ne
        refine r_eqL0 (upd_keep ne hD) upd_same ?_
        exact q _
end
end Sq
open PySem PySem.W PyProof.Rows in
set_option maxRecDepth 100000 in
set_option maxHeartbeats 0 in
theorem PySem.Challenge.cw_squeezelists_k41_texts_read_holds : PySem.Challenge.rw_squeezelists_k41_texts_read.Holds := by
  w_on; o_law; k_head; (case hw => w_witness2)
  k_fill
  refine Sq.walk_ofG (l := PySem.Challenge.rw_squeezelists_k41_texts_read) (n := 63) (k := 8) (x := "script") (sp := Sq.spLaw) rfl (by decide) rfl ⟨rfl, by decide, by decide⟩ (fun w h Y => PySem.W.kIn_of Y) ?F (fun K H a ns hl hS => ⟨a, ns, rfl, hS, hl, fun _ => rfl⟩)
  case F =>
    intro w mg fa h KX G hmg
    have B : Sq.Bt mg := by
      refine' ⟨PySem.W.mg_none_of KX G ?z0, PySem.W.mg_none_of KX G ?z1, PySem.W.mg_none_of KX G ?z2, PySem.W.mg_none_of KX G ?z3, PySem.W.mg_none_of KX G ?z4, PySem.W.mg_none_of KX G ?z5, PySem.W.mg_none_of KX G ?z6, PySem.W.mg_none_of KX G ?z7, PySem.W.mg_none_of KX G ?z8, PySem.W.mg_none_of KX G ?z9, PySem.W.mg_none_of KX G ?z10⟩
      (case z0 => k_is)
      (case z1 => k_is)
      (case z2 => k_is)
      (case z3 => k_is)
      (case z4 => k_is)
      (case z5 => k_is)
      (case z6 => k_is)
      (case z7 => k_is)
      (case z8 => k_is)
      (case z9 => k_is)
      (case z10 => k_is)
    have g_SEPARATOR : ∃ u, mg "SEPARATOR" = some u ∧ L2.RelV (L2.V.str ", ") u := by
      refine' ⟨?u_SEPARATOR, PySem.W.mg_of KX G ?a_SEPARATOR, ?r_SEPARATOR⟩
      (case a_SEPARATOR => k_is)
      (case r_SEPARATOR => first | exact ⟨_, rfl⟩ | exact ⟨_, congrArg (fun z => PySem.Value.str z _) (by decide +kernel)⟩)
    have g_POWER : ∃ u, mg "POWER" = some u ∧ L2.RelV (L2.V.str "^") u := by
      refine' ⟨?u_POWER, PySem.W.mg_of KX G ?a_POWER, ?r_POWER⟩
      (case a_POWER => k_is)
      (case r_POWER => first | exact ⟨_, rfl⟩ | exact ⟨_, congrArg (fun z => PySem.Value.str z _) (by decide +kernel)⟩)
    have g_NO_REPLACEMENTS : ∃ u, mg "NO_REPLACEMENTS" = some u ∧ L2.RelV (L2.V.str "none") u := by
      refine' ⟨?u_NO_REPLACEMENTS, PySem.W.mg_of KX G ?a_NO_REPLACEMENTS, ?r_NO_REPLACEMENTS⟩
      (case a_NO_REPLACEMENTS => k_is)
      (case r_NO_REPLACEMENTS => first | exact ⟨_, rfl⟩ | exact ⟨_, congrArg (fun z => PySem.Value.str z _) (by decide +kernel)⟩)
    have g_DIGITS : ∃ u, mg "DIGITS" = some u ∧ L2.RelV (L2.V.str "0123456789") u := by
      refine' ⟨?u_DIGITS, PySem.W.mg_of KX G ?a_DIGITS, ?r_DIGITS⟩
      (case a_DIGITS => k_is)
      (case r_DIGITS => first | exact ⟨_, rfl⟩ | exact ⟨_, congrArg (fun z => PySem.Value.str z _) (by decide +kernel)⟩)
    have g_MOST_DIGITS : ∃ u, mg "MOST_DIGITS" = some u ∧ L2.RelV (L2.V.int 200) u := by
      refine' ⟨?u_MOST_DIGITS, PySem.W.mg_of KX G ?a_MOST_DIGITS, ?r_MOST_DIGITS⟩
      (case a_MOST_DIGITS => k_is)
      (case r_MOST_DIGITS => first | exact ⟨_, rfl⟩ | exact ⟨_, congrArg (fun z => PySem.Value.str z _) (by decide +kernel)⟩)
    refine' Sq.cutD (Sq.DefAt.mk1 (x := "equal_neighbours") (st := Sq.s_equal_neighbours) (ps := ["replacements"]) KX G ?a_equal_neighbours ?l_equal_neighbours ?c_equal_neighbours ?k_equal_neighbours (fun _ _ _ _ _ _ us hl => match us, hl with | [_], _ => rfl)) ?_
    (case a_equal_neighbours => k_is); (case l_equal_neighbours => k_is); (case c_equal_neighbours => k_is); (case k_equal_neighbours => k_is)
    intro D_equal_neighbours
    refine' Sq.cutD (Sq.DefAt.mk1 (x := "show_list") (st := Sq.s_show_list) (ps := ["replacements"]) KX G ?a_show_list ?l_show_list ?c_show_list ?k_show_list (fun _ _ _ _ _ _ us hl => match us, hl with | [_], _ => rfl)) ?_
    (case a_show_list => k_is); (case l_show_list => k_is); (case c_show_list => k_is); (case k_show_list => k_is)
    intro D_show_list
    refine' Sq.cutD (Sq.DefAt.mk1 (x := "number_in") (st := Sq.s_number_in) (ps := ["word"]) KX G ?a_number_in ?l_number_in ?c_number_in ?k_number_in (fun _ _ _ _ _ _ us hl => match us, hl with | [_], _ => rfl)) ?_
    (case a_number_in => k_is); (case l_number_in => k_is); (case c_number_in => k_is); (case k_number_in => k_is)
    intro D_number_in
    refine' Sq.cutD (Sq.DefAt.mk1 (x := "numbers_in") (st := Sq.s_numbers_in) (ps := ["word"]) KX G ?a_numbers_in ?l_numbers_in ?c_numbers_in ?k_numbers_in (fun _ _ _ _ _ _ us hl => match us, hl with | [_], _ => rfl)) ?_
    (case a_numbers_in => k_is); (case l_numbers_in => k_is); (case c_numbers_in => k_is); (case k_numbers_in => k_is)
    intro D_numbers_in
    refine' Sq.cutD (Sq.DefAt.mk1 (x := "read_list") (st := Sq.s_read_list) (ps := ["text"]) KX G ?a_read_list ?l_read_list ?c_read_list ?k_read_list (fun _ _ _ _ _ _ us hl => match us, hl with | [_], _ => rfl)) ?_
    (case a_read_list => k_is); (case l_read_list => k_is); (case c_read_list => k_is); (case k_read_list => k_is)
    intro D_read_list
    refine' Sq.cutD (Sq.DefAt.mk1 (x := "_law_rng") (st := Sq.s_law_rng) (ps := ["script"]) KX G ?a_law_rng ?l_law_rng ?c_law_rng ?k_law_rng (fun _ _ _ _ _ _ us hl => match us, hl with | [_], _ => rfl)) ?_
    (case a_law_rng => k_is); (case l_law_rng => k_is); (case c_law_rng => k_is); (case k_law_rng => k_is)
    intro D_law_rng
    refine' Sq.cutD (Sq.DefAt.mk1 (x := "_law_draw") (st := Sq.s_law_draw) (ps := ["rng", "limit"]) KX G ?a_law_draw ?l_law_draw ?c_law_draw ?k_law_draw (fun _ _ _ _ _ _ us hl => match us, hl with | [_, _], _ => rfl)) ?_
    (case a_law_draw => k_is); (case l_law_draw => k_is); (case c_law_draw => k_is); (case k_law_draw => k_is)
    intro D_law_draw
    refine' Sq.cutD (Sq.DefAt.mk1 (x := "_law_number") (st := Sq.s_law_number) (ps := ["word", "least"]) KX G ?a_law_number ?l_law_number ?c_law_number ?k_law_number (fun _ _ _ _ _ _ us hl => match us, hl with | [_, _], _ => rfl)) ?_
    (case a_law_number => k_is); (case l_law_number => k_is); (case c_law_number => k_is); (case k_law_number => k_is)
    intro D_law_number
    refine' Sq.cutD (Sq.DefAt.mk1 (x := "_law_due") (st := Sq.s_law_due) (ps := ["written"]) KX G ?a_law_due ?l_law_due ?c_law_due ?k_law_due (fun _ _ _ _ _ _ us hl => match us, hl with | [_], _ => rfl)) ?_
    (case a_law_due => k_is); (case l_law_due => k_is); (case c_law_due => k_is); (case k_law_due => k_is)
    intro D_law_due
    refine' Sq.cutD (Sq.DefAt.mk1 (x := "_law_told") (st := Sq.s_law_told) (ps := ["written", "by_name"]) KX G ?a_law_told ?l_law_told ?c_law_told ?k_law_told (fun _ _ _ _ _ _ us hl => match us, hl with | [_, _], _ => rfl)) ?_
    (case a_law_told => k_is); (case l_law_told => k_is); (case c_law_told => k_is); (case k_law_told => k_is)
    intro D_law_told
    refine' Sq.cutD (Sq.DefAt.mk1 (x := "_law_parts") (st := Sq.s_law_parts) (ps := ["rng"]) KX G ?a_law_parts ?l_law_parts ?c_law_parts ?k_law_parts (fun _ _ _ _ _ _ us hl => match us, hl with | [_], _ => rfl)) ?_
    (case a_law_parts => k_is); (case l_law_parts => k_is); (case c_law_parts => k_is); (case k_law_parts => k_is)
    intro D_law_parts
    refine' Sq.cutD (Sq.DefAt.mk1 (x := "_law_bent") (st := Sq.s_law_bent) (ps := ["rng", "written"]) KX G ?a_law_bent ?l_law_bent ?c_law_bent ?k_law_bent (fun _ _ _ _ _ _ us hl => match us, hl with | [_, _], _ => rfl)) ?_
    (case a_law_bent => k_is); (case l_law_bent => k_is); (case c_law_bent => k_is); (case k_law_bent => k_is)
    intro D_law_bent
    refine' Sq.cutD (Sq.DefAt.mk1 (x := "_law_small") (st := Sq.s_law_small) (ps := ["written"]) KX G ?a_law_small ?l_law_small ?c_law_small ?k_law_small (fun _ _ _ _ _ _ us hl => match us, hl with | [_], _ => rfl)) ?_
    (case a_law_small => k_is); (case l_law_small => k_is); (case c_law_small => k_is); (case k_law_small => k_is)
    intro D_law_small
    refine' Sq.cutD (Sq.DefAt.mk1 (x := "_law_right") (st := Sq.s_law_right) (ps := ["one"]) KX G ?a_law_right ?l_law_right ?c_law_right ?k_law_right (fun _ _ _ _ _ _ us hl => match us, hl with | [_], _ => rfl)) ?_
    (case a_law_right => k_is); (case l_law_right => k_is); (case c_law_right => k_is); (case k_law_right => k_is)
    intro D_law_right
    refine' Sq.cutD (Sq.DefAt.mk1 (x := "law") (st := Sq.s_law) (ps := ["script"]) KX G ?a_law ?l_law ?c_law ?k_law (fun _ _ _ _ _ _ us hl => match us, hl with | [_], _ => rfl)) ?_
    (case a_law => k_is); (case l_law => k_is); (case c_law => k_is); (case k_law => k_is)
    intro D_law
    refine' Sq.cutD (Sq.glob_mk (x := "InvalidList") KX G ?aC_InvalidList) ?_
    (case aC_InvalidList => k_is)
    intro C_InvalidList
    refine' Sq.cutD (Sq.glob_mk (x := "InvalidNumber") KX G ?aC_InvalidNumber) ?_
    (case aC_InvalidNumber => k_is)
    intro C_InvalidNumber
    refine' Sq.cutD (Sq.glob_mk (x := "InvalidCharacter") KX G ?aC_InvalidCharacter) ?_
    (case aC_InvalidCharacter => k_is)
    intro C_InvalidCharacter
    refine' Sq.cutD (Sq.glob_mk (x := "NothingToUndo") KX G ?aC_NothingToUndo) ?_
    (case aC_NothingToUndo => k_is)
    intro C_NothingToUndo
    refine' Sq.cutD (Sq.glob_mk (x := "Unreadable") KX G ?aC_Unreadable) ?_
    (case aC_Unreadable => k_is)
    intro C_Unreadable
    refine' Sq.cutD (Sq.glob_mk (x := "SqueezeError") KX G ?aC_SqueezeError) ?_
    (case aC_SqueezeError => k_is)
    intro C_SqueezeError
    refine' Sq.cutD (Sq.knd_mk KX C_Unreadable C_InvalidList C_InvalidNumber C_InvalidCharacter C_NothingToUndo C_Unreadable C_SqueezeError ?hg_Unreadable ?hk_Unreadable ?hs_Unreadable ?hd_Unreadable ?ha_Unreadable ?hn_Unreadable ?ht_Unreadable ?hm_Unreadable ?nv_Unreadable ?k1_Unreadable ?k2_Unreadable ?k3_Unreadable ?k4_Unreadable ?k5_Unreadable ?kS_Unreadable ?kV_Unreadable ?x1_Unreadable ?x2_Unreadable ?x3_Unreadable ?x4_Unreadable) ?_
    (case hg_Unreadable => k_is)
    (case hk_Unreadable => k_is)
    (case hs_Unreadable => k_is)
    (case hd_Unreadable => k_is)
    (case ha_Unreadable => k_is)
    (case hn_Unreadable => k_is)
    (case ht_Unreadable => k_is)
    (case hm_Unreadable => k_is)
    (case nv_Unreadable => k_is)
    (case k1_Unreadable => kit_is)
    (case k2_Unreadable => kit_is)
    (case k3_Unreadable => kit_is)
    (case k4_Unreadable => kit_is)
    (case k5_Unreadable => kit_is)
    (case kS_Unreadable => kit_is)
    (case kV_Unreadable => kit_is)
    (case x1_Unreadable => k_is)
    (case x2_Unreadable => k_is)
    (case x3_Unreadable => k_is)
    (case x4_Unreadable => k_is)
    intro N_Unreadable
    have tx : Sq.TxC mg := ⟨g_SEPARATOR, g_POWER, g_NO_REPLACEMENTS⟩
    have rd : Sq.RdC mg := ⟨g_DIGITS, g_MOST_DIGITS⟩
    have c6 : Sq.Cls6 mg _ _ _ _ _ _ := ⟨C_InvalidList, C_InvalidNumber, C_InvalidCharacter, C_NothingToUndo, C_Unreadable, C_SqueezeError⟩
    obtain ⟨fd, F, hb⟩ := D_law.law hmg (fun _ _ _ _ _ _ us hl => match us, hl with | [_], _ => rfl)
    refine ⟨fd, hb, fun base _ _ => ?_⟩
    refine' Sq.cutD (Sq.rai_mk (P := PySem.Challenge.rw_squeezelists_k41_texts_read.prog) (w := w) (base := base) KX G C_Unreadable ?lC_Unreadable ?rC_Unreadable ?sa_Unreadable ?ex_Unreadable ?ty_Unreadable ?kc_Unreadable ?ini_Unreadable ?tyf_Unreadable ?l_Unreadable ?co_Unreadable ?cell_Unreadable ?rec__Unreadable ?v2_Unreadable ?fl_Unreadable ?top_Unreadable ?opq_Unreadable ?sup_Unreadable ?veb_Unreadable ?slf_Unreadable ?val_Unreadable ?ms_Unreadable ?he_Unreadable ?hb_Unreadable) ?_
    (case lC_Unreadable => k_is)
    (case rC_Unreadable => decide +kernel)
    (case sa_Unreadable => k_is)
    (case ex_Unreadable => k_is)
    (case ty_Unreadable => k_is)
    (case kc_Unreadable => k_is)
    (case ini_Unreadable => k_is)
    (case tyf_Unreadable => k_is)
    (case l_Unreadable => k_is)
    (case co_Unreadable => k_is)
    (case cell_Unreadable => k_is)
    (case rec__Unreadable => k_is)
    (case v2_Unreadable => rfl)
    (case fl_Unreadable => rfl)
    (case top_Unreadable => rfl)
    (case opq_Unreadable => k_is)
    (case sup_Unreadable => ks_is)
    (case veb_Unreadable => k_is)
    (case slf_Unreadable => k_is)
    (case val_Unreadable => k_is)
    (case ms_Unreadable => k_is)
    (case he_Unreadable => exact fun _ => rfl)
    (case hb_Unreadable => exact fun us hl => match us, hl with | [_, _], _ => rfl)
    intro R_Unreadable
    have ce := Sq.cal_equal (P := PySem.Challenge.rw_squeezelists_k41_texts_read.prog) (w := w) (base := base) D_equal_neighbours B
    have s2 := Sq.two_show D_show_list B tx ce
    have cr := Sq.two_readX D_read_list B tx (Sq.cal_numbers_in D_numbers_in B tx (Sq.cal_number_in D_number_in B rd)) s2.cal R_Unreadable
    have cd := Sq.cal_drawW (P := PySem.Challenge.rw_squeezelists_k41_texts_read.prog) (w := w) (base := base) D_law_draw B
    have ld := Sq.cal_ldue (P := PySem.Challenge.rw_squeezelists_k41_texts_read.prog) (w := w) (base := base) D_law_due B (Sq.cal_lnum D_law_number B)
    have lt := Sq.cal_ltold D_law_told B c6 N_Unreadable cr
    refine Sq.ok_law F B (Sq.cal_rng D_law_rng B) cd (Sq.cal_parts D_law_parts B cd) (Sq.cal_bentT D_law_bent B cd) (Sq.cal_small D_law_small B) (Sq.cal_lright D_law_right B ld lt)
