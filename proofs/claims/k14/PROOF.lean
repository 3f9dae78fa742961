import PyProof.Rows.All
import Wide.All
import OpenK.AllK
import Wide.FinOn
import HandS.ForMost
import HandS.Wide
import HandS.Style
import HandS.SortInts
import HandS.Deep
import HandS.Defaults
import HandS.Flow
import HandS.IsInst
import HandS.Codes
import HandS.NoneIn
import HandS.Property
import HandS.RaiseMore
import PyProof.ReprRoads
import HandS.Set
import HandS.Strs
import HandS.SetFor
import HandS.Zip
import PyProof.LongRange
import HandS.Exc
import HandS.ExcInit
import HandS.NestedK
import KE.KExcSuper
import HandS.ExcIs
import HandS.ExcField
import KE.KExcIs
import HandS.WordsExc
import HandS.MakeKwOnly
import KE.RegKIsAll
import HandS.Walk
import HandS.Star
import KE.KUnpackStar
import PySem.Challenge.RW_squeezelists_k14_whole_no_two_lists_alik
set_option Elab.async false
set_option linter.all false
set_option maxRecDepth 100000
set_option maxHeartbeats 4000000
namespace Sq
open PySem PySem.Spec PyProof.Rows L2
/-! ## operators -/
/-- a power whose base has at most 100000 bits -/
def CPowW (i j : Int) : Prop := 0 ≤ j ∧ j ≤ 1000 ∧ i.natAbs.log2 < 100000
theorem bitsOf_le (i : Int) : Builtin.Int.intBits i ≤ i.natAbs.log2 + 1 := by
  unfold Builtin.Int.intBits
  split <;> omega
theorem op_powW {X : Cx} : OpR X (binaryOp .Pow) (rI CPowW fun i j => .int (i ^ j.toNat)) := opI fun i j _ _ _ _ _ hc q => by
  obtain ⟨h1, h2, h3⟩ := hc
  refine pow_int h1 ?_ q
  have hb := bitsOf_le i
  have h4 : ((Builtin.Int.intBits i : Nat) : Int) ≤ 100000 := by omega
  have h5 := Int.mul_le_mul h4 h2 h1 (by decide : (0 : Int) ≤ 100000)
  exact Int.le_trans h5 (by decide)
def ipIC (C : Int → Int → Prop) (f : Int → Int → Int) : TIp := fun x y H Q => ∃ i j, x = .int i ∧ y = .int j ∧ C i j ∧ Q (.int (f i j)) H
section
variable {X : Cx}
theorem ip_mulW : PIp X .Mult (ipIC CMulW fun i j => i * j) := by
  intro pins s σ H x y v u Q I r1 r2 h
  obtain ⟨i, j, e1, e2, c, q⟩ := h
  subst e1; subst e2
  obtain ⟨t, rfl⟩ := r1
  obtain ⟨t', rfl⟩ := r2
  exact imul_int ⟨.int _, H, I.tok _, ⟨_, rfl⟩, q⟩ c.ok
theorem ip_fdivW : PIp X .FloorDiv (ipIC CDivW fun i j => i / j) := by
  intro pins s σ H x y v u Q I r1 r2 h
  obtain ⟨i, j, e1, e2, c, q⟩ := h
  subst e1; subst e2
  obtain ⟨t, rfl⟩ := r1
  obtain ⟨t', rfl⟩ := r2
  have h1 : (0 : Int) < j := c.1
  refine ifloordiv_int (by omega) ?_ (.inl (PyProof.noPylong_of_log2 c.2))
  rw [Int.fdiv_eq_ediv_of_nonneg i (by omega)]
  exact ⟨.int _, H, I.tok _, ⟨_, rfl⟩, q⟩
end
/-- numbers below 2 ^ n have a small log2 -/
theorem lg_lt {i : Int} {n : Nat} (h : i.natAbs < 2 ^ n) (h0 : 0 < n) : i.natAbs.log2 < n := PySem.Flt.log2_lt_of h0 h

/-! ## sizes -/
/-- at most b bits -/
def Sm (b : Nat) (i : Int) : Prop := i.natAbs < 2 ^ b
theorem Sm.mono {a b : Nat} {i : Int} (h : Sm a i) (hab : a ≤ b) : Sm b i := Nat.lt_of_lt_of_le h (Nat.pow_le_pow_right (by decide) hab)
theorem Sm.lg {b : Nat} {i : Int} (h : Sm b i) (h0 : 0 < b) : i.natAbs.log2 < b := PySem.Flt.log2_lt_of h0 h
theorem Sm.add {b : Nat} {i j : Int} (h : Sm b i) (h' : Sm b j) : Sm (b + 1) (i + j) := by
  have e : 2 ^ (b + 1) = 2 ^ b + 2 ^ b := by rw [Nat.pow_succ]; omega
  unfold Sm at *
  omega
theorem Sm.neg {b : Nat} {i : Int} (h : Sm b i) : Sm b (-i) := by
  unfold Sm at *
  rw [Int.natAbs_neg]
  exact h
theorem Sm.sub {b : Nat} {i j : Int} (h : Sm b i) (h' : Sm b j) : Sm (b + 1) (i - j) := by
  rw [Int.sub_eq_add_neg]
  exact h.add h'.neg
theorem Sm.mul {a b : Nat} {i j : Int} (h : Sm a i) (h' : Sm b j) : Sm (a + b) (i * j) := by
  unfold Sm at *
  rw [Int.natAbs_mul, Nat.pow_add]
  exact Nat.mul_lt_mul'' h h'
theorem Sm.le {b : Nat} {i j : Int} (h : Sm b j) (h0 : 0 ≤ i) (hij : i ≤ j) : Sm b i := by
  unfold Sm at *
  omega
theorem Sm.wide {a b : Nat} {i j : Int} (h : Sm a i) (h' : Sm b j) (ha : 0 < a) (hb : 0 < b) (hab : a + b ≤ 1000000) : CMulW i j := by
  have h1 := h.lg ha
  have h2 := h'.lg hb
  unfold CMulW
  omega
/-- a small number -/
theorem Sm.of {b : Nat} {i : Int} (h : i.natAbs < 2 ^ 10) (hb : 10 ≤ b) : Sm b i := Sm.mono (a := 10) h hb
theorem div_ok {i k : Int} (h : 0 < k) (h2 : k < 2 ^ 240) : CDivW i k := ⟨h, Nat.lt_trans ((show Sm 240 k by unfold Sm; omega).lg (by decide)) (by decide)⟩
theorem pow_ok {b : Nat} {i j : Int} (h : Sm b i) (h0 : 0 < b) (hb : b ≤ 100000) (j0 : 0 ≤ j) (j1 : j ≤ 1000) : CPowW i j := ⟨j0, j1, Nat.lt_of_lt_of_le (h.lg h0) hb⟩
/-! ## rules whose reading speaks of the written part K itself (a comprehension's block has it too) -/
section
variable {X : Cx} {K : PySem.W.Frag}
theorem ix_listK (h : X.K = K := by rfl) : IxR X (rIxL K) := by subst h; exact ix_list
theorem ix_tupK (h : X.K = K := by rfl) : IxR X (rIxT K) := by subst h; exact ix_tup
theorem sl_listK (h : X.K = K := by rfl) : SlR X (rSlL K) := by subst h; exact sl_list
theorem sl_tupK (h : X.K = K := by rfl) : SlR X (rSlT K) := by subst h; exact sl_tup
def rLenQ (K : PySem.W.Frag) : List V → Hp → VK → Prop := fun xs H Q => ∃ p ys, xs = [.ref p] ∧ SqL K H p ys ∧ Q (.int ys.length) H
theorem len_seqK (h : X.K = K := by rfl) : CallR X (.builtin "len") (rLenQ K) := by
  subst h
  intro pins s σ H xs us Q I r q
  obtain ⟨p, ys, e, hs, q⟩ := q
  exact call_len_seq pins s σ H xs us Q I r ⟨p, ys, e, .inl hs, q⟩
/-- readings that are not to be opened by themselves -/
@[irreducible] def rEqQ (K : PySem.W.Frag) : R2 := rEqD K
@[irreducible] def rNeQ (K : PySem.W.Frag) : R2 := rNeD K
@[irreducible] def rInQ (K : PySem.W.Frag) : R2 := rInD K
@[irreducible] def rNotInQ (K : PySem.W.Frag) : R2 := rNotInD K
theorem rEqQ_of {H : Hp} {x y : V} {Q : VK} (h : rEqD K x y H Q) : rEqQ K x y H Q := by unfold rEqQ; exact h
theorem rNeQ_of {H : Hp} {x y : V} {Q : VK} (h : rNeD K x y H Q) : rNeQ K x y H Q := by unfold rNeQ; exact h
theorem rInQ_of {H : Hp} {x y : V} {Q : VK} (h : rInD K x y H Q) : rInQ K x y H Q := by unfold rInQ; exact h
theorem rNotInQ_of {H : Hp} {x y : V} {Q : VK} (h : rNotInD K x y H Q) : rNotInQ K x y H Q := by unfold rNotInQ; exact h
theorem op_eqDK (hu : X.A.units + 64 < cLine) (h : X.K = K := by rfl) : OpR X (compareOp .Eq) (rEqQ K) := by subst h; unfold rEqQ; exact op_eqD hu
theorem op_neDK (hu : X.A.units + 64 < cLine) (h : X.K = K := by rfl) : OpR X (compareOp .NotEq) (rNeQ K) := by subst h; unfold rNeQ; exact op_neD hu
theorem op_inDK (hu : X.A.units + 65 < cLine) (h : X.K = K := by rfl) : OpR X (compareOp .In) (rInQ K) := by subst h; unfold rInQ; exact op_inD hu
theorem op_notInDK (hu : X.A.units + 65 < cLine) (h : X.K = K := by rfl) : OpR X (compareOp .NotIn) (rNotInQ K) := by subst h; unfold rNotInQ; exact op_notInD hu
theorem isiK (h : X.K = K := by rfl) : CallR X (.builtin "isinstance") (rIsi K) := by subst h; exact call_isi
def rListOf (K : PySem.W.Frag) : List V → Hp → VK → Prop := fun xs H Q => ∃ p ys, xs = [.ref p] ∧ SqL K H p ys ∧ ∀ l, H l = none → Q (.ref l) (upd H l (.lst ys))
theorem list_ofK (h : X.K = K := by rfl) : CallR X (.type "list") (rListOf K) := by
  subst h
  intro pins s σ H xs us Q I r q
  obtain ⟨p, ys, e, hs, q⟩ := q
  exact call_list_of pins s σ H xs us Q I r ⟨p, ys, e, .inl hs, q⟩
theorem cr_sumK (hc : X.calm = true) (h : X.K = K := by rfl) : CallR X (.builtin "sum") (rSum K) := by subst h; exact cr_sum hc
theorem cr_maxK (hc : X.calm = true) (h : X.K = K := by rfl) : CallR X (.builtin "max") (rMax K) := by subst h; exact cr_max hc
theorem cr_minK (hc : X.calm = true) (h : X.K = K := by rfl) : CallR X (.builtin "min") (rMin K) := by subst h; exact cr_min hc
theorem cr_allK (hc : X.calm = true) (h : X.K = K := by rfl) : CallR X (.builtin "all") (rAll K) := by subst h; exact cr_all hc
theorem cr_anyK (hc : X.calm = true) (h : X.K = K := by rfl) : CallR X (.builtin "any") (rAny K) := by subst h; exact cr_any hc
theorem cr_sortedIK (h : X.K = K := by rfl) : CallR X (.builtin "sorted") (rSortedI K) := by subst h; exact cr_sortedI
variable {e a b : Expr} {te ta tb : TE} {es : List Expr} {t : TA} {tgs : TGs} {tg : Expr} {pos p q : Pos} {n : Nat}
theorem pi_listK (he : PE X e te) (h : X.K = K := by rfl) : PI X tg e (iList K te) := by subst h; exact pi_list he
theorem pg_tupK {k : Nat} (hc : X.calm = true) (hg : PGs X es tgs) (hn : (assignEach es X.env).length = n := by rfl) (hst : (assignEach es X.env).findIdx? (·.1) = none := by rfl) (h : X.K = K := by rfl) : PG X (.Tuple es k pos) (gTup K n tgs) := by
  subst h
  exact pg_tup hc hg hn hst
theorem pg_lstK {k : Nat} (hc : X.calm = true) (hg : PGs X es tgs) (hn : (assignEach es X.env).length = n := by rfl) (hst : (assignEach es X.env).findIdx? (·.1) = none := by rfl) (h : X.K = K := by rfl) : PG X (.Tuple es k pos) (gUnl K n tgs) := by
  subst h
  exact pg_unl hc hg hn hst
theorem pi_enumK {elts : List Expr} {kk : Nat} (hg : Gl X "enumerate") (hm : X.mg "enumerate" = none) (ha : PA X [e] t) (hs : starEach [e] X.env = [(false, eval e X.env)] := by rfl) (h : X.K = K := by rfl) :
    PI X (.Tuple elts kk p) (.Call (.Name "enumerate" q) [e] [] pos) (iEnum K t) := by
  subst h
  exact pi_enum hg hm ha hs
theorem pi_zipK {elts : List Expr} {kk : Nat} (hg : Gl X "zip") (hm : X.mg "zip" = none) (ha : PA X [a, b] t) (hs : starEach [a, b] X.env = (false, eval a X.env) :: starEach [b] X.env := by rfl)
    (hpl : (backTo pos (starEach [b] X.env)).any (·.1) = false := by rfl) (h : X.K = K := by rfl) : PI X (.Tuple elts kk p) (.Call (.Name "zip" q) [a, b] [] pos) (iZip K t) := by
  subst h
  exact pi_zip hg hm ha hs hpl
theorem pe_revLK {k : Nat} {p1 p2 p3 : Pos} (he : PE X e te) (h : X.K = K := by rfl) : PE X (.Subscript e (.Slice none none (some (.UnaryOp .USub (.Constant (.int 1) k p1) p2)) p3) pos) (tRevL K te) := by
  subst h
  exact pe_revL he
theorem pe_fldK {f : Str} (he : PE X e te) (hb : attributeBase e f X.env (eval e X.env) = eval e X.env := by rfl) (h : X.K = K := by rfl) : PE X (.Attribute e f pos) (tFld K te f) := by
  subst h
  exact pe_fld he hb
end

/-! ## heaps -/
/-- what holds between the turns of a loop (a wrapper: it is not taken apart by itself) -/
structure Keep (P : Prop) : Prop where
  o : P

theorem Same.get {H H' : Hp} {a : Addr} {o : HO} (s : Same H H') (h : H a = some o) : H' a = some o := s a o h
theorem same_new {H : Hp} {p : Addr} {o : HO} (h : H p = none) : Same H (upd H p o) := fun b u e => by
  rw [upd_ne (ne_of_none e h)]
  exact e
theorem upd_keep {H : Hp} {p a : Addr} {o u : HO} (n : H p = none) (h : H a = some u) : upd H p o a = some u := same_new n a u h
theorem upd_off {H : Hp} {p a : Addr} {o u : HO} (n : a ≠ p) (h : H a = some u) : upd H p o a = some u := by
  rw [upd_ne n]
  exact h
/-- a source of draws: what is true of it, where it stands -/
structure Rg where
  I : Hp → Prop
  S : Addr → Prop
  loc : ∀ H H' : Hp, (∀ a, S a → H' a = H a) → I H → I H'
  has : ∀ (H : Hp) (a : Addr), I H → S a → H a ≠ none
/-- the heap H is the quiet part G and the source -/
structure Sep (R : Rg) (G H : Hp) : Prop where
  inv : R.I H
  same : Same G H
  off : ∀ a, R.S a → G a = none
section
variable {R : Rg} {G G' H H' : Hp} {p a : Addr} {o u : HO}
theorem Sep.get (s : Sep R G H) (h : G a = some o) : H a = some o := s.same a o h
theorem Sep.free (s : Sep R G H) (h : H p = none) : G p = none := s.same.free h
theorem Sep.weak (s : Sep R G H) (h : Same G' G) : Sep R G' H := ⟨s.inv, h.trans s.same, fun a ha => by
  cases q : G' a with
  | none => rfl
  | some o =>
    have z := h a o q
    rw [s.off a ha] at z
    cases z⟩
theorem Sep.new (s : Sep R G H) (h : H p = none) (o : HO) : Sep R (upd G p o) (upd H p o) := by
  have np : ∀ a, R.S a → a ≠ p := fun a ha e => R.has H a s.inv ha (by rw [e]; exact h)
  refine ⟨R.loc H _ (fun a ha => upd_ne (np a ha)) s.inv, fun b x e => ?_, fun a ha => by rw [upd_ne (np a ha)]; exact s.off a ha⟩
  by_cases hb : b = p
  · rw [hb, upd_same] at e
    rw [hb, upd_same]
    exact e
  · rw [upd_ne hb] at e
    rw [upd_ne hb]
    exact s.same b x e
/-- a store into an object of the quiet part -/
theorem Sep.put (s : Sep R G H) (h : G p = some u) (o : HO) : Sep R (upd G p o) (upd H p o) := by
  have np : ∀ a, R.S a → a ≠ p := fun a ha e => by
    have z := s.off a ha
    rw [e, h] at z
    cases z
  refine ⟨R.loc H _ (fun a ha => upd_ne (np a ha)) s.inv, fun b x e => ?_, fun a ha => by rw [upd_ne (np a ha)]; exact s.off a ha⟩
  by_cases hb : b = p
  · rw [hb, upd_same] at e
    rw [hb, upd_same]
    exact e
  · rw [upd_ne hb] at e
    rw [upd_ne hb]
    exact s.same b x e
/-- behind something that only makes new things -/
theorem Sep.on (s : Sep R G H) (h : Same H H') : Sep R G H' := by
  refine ⟨R.loc H _ (fun a ha => ?_) s.inv, s.same.trans h, s.off⟩
  cases q : H a with
  | none => exact absurd q (R.has H a s.inv ha)
  | some o => exact h a o q
theorem Sep.grow (s : Sep R G H) (h : Same H H') (n : H p = none) (e : H' p = some o) : Sep R (upd G p o) H' := by
  have s' := s.on h
  have np : ∀ a, R.S a → a ≠ p := fun a ha z => R.has H a s.inv ha (by rw [z]; exact n)
  refine ⟨s'.inv, fun b x q => ?_, fun a ha => by rw [upd_ne (np a ha)]; exact s.off a ha⟩
  by_cases hb : b = p
  · rw [hb, upd_same] at q
    rw [hb, e]
    exact q
  · rw [upd_ne hb] at q
    exact s'.same b x q
end
/-- a source of draws that is a list of three ints: digits, a mix, a count that is at most N -/
def R3 (r : Addr) (N a b c : Int) (H : Hp) : Prop := H r = some (.lst [.int a, .int b, .int c]) ∧ 0 ≤ a ∧ 0 ≤ b ∧ b < 2 ^ 100 ∧ 0 ≤ c ∧ c ≤ N
def rg3 (r : Addr) (N : Int) : Rg where
  I := fun H => ∃ a b c, R3 r N a b c H
  S := fun x => x = r
  loc := fun H H' e ⟨a, b, c, h1, h2⟩ => ⟨a, b, c, (e r rfl).trans h1, h2⟩
  has := fun H x ⟨a, b, c, h1, _⟩ hx => by
    subst hx
    rw [h1]
    exact fun z => nomatch z
theorem Sep3.redo {r : Addr} {N N' : Int} {G H : Hp} {o : HO} (s : Sep (rg3 r N) G H) (h : ∃ a b c, R3 r N' a b c (upd H r o)) : Sep (rg3 r N') G (upd H r o) := by
  refine ⟨h, fun b u q => ?_, s.off⟩
  have nr : b ≠ r := fun z => by
    have := s.off b z
    rw [q] at this
    cases this
  rw [upd_ne nr]
  exact s.same b u q
theorem Sep3.mono {r : Addr} {N N' : Int} {G H : Hp} (s : Sep (rg3 r N) G H) (h : N ≤ N') : Sep (rg3 r N') G H := by
  obtain ⟨a, b, c, h1, h2, h3, h4, h5, h6⟩ := s.inv
  exact ⟨⟨a, b, c, h1, h2, h3, h4, h5, by omega⟩, s.same, s.off⟩
/-- a draw from it -/
def spDraw3 : Sp := fun vs H Q _ => ∃ (r : Addr) (m N : Int) (G : Hp), vs = [.ref r, .int m] ∧ Sep (rg3 r N) G H ∧ Keep (0 < m ∧ m < 2 ^ 240 ∧ N < 2 ^ 60) ∧ ∀ v H', 0 ≤ v → v < m → Sep (rg3 r (N + 1)) G H' → Q (.int v) H'
theorem seqL_of {K : PySem.W.Frag} {H : Hp} {a : Addr} {xs : List V} (h : H a = some (.lst xs)) : SqL K H a xs := .inl (.inl h)
/-- ints as values -/
abbrev iv (ns : List Int) : List V := ns.map V.int
theorem iv_app (ns : List Int) (x : Int) : iv ns ++ [V.int x] = iv (ns ++ [x]) := by simp
theorem iv_len (ns : List Int) : (iv ns).length = ns.length := List.length_map _
theorem iv_get {ns : List Int} {i : Nat} {x : V} (h : (iv ns)[i]? = some x) : ∃ n, ns[i]? = some n ∧ x = .int n := by
  rw [List.getElem?_map] at h
  cases e : ns[i]? with
  | none =>
    rw [e] at h
    cases h
  | some n =>
    rw [e] at h
    exact ⟨n, rfl, (Option.some.inj h).symm⟩

theorem atI_iv {ns : List Int} {i : Int} (h0 : 0 ≤ i) (h1 : i < ns.length) : ∃ n, atI (iv ns) i = some (.int n) := by
  obtain ⟨j, rfl⟩ := Int.eq_ofNat_of_zero_le h0
  have hj : j < ns.length := by omega
  exact ⟨ns[j], atI_nat (by rw [List.getElem?_map, List.getElem?_eq_getElem hj]; rfl)⟩
theorem seqIx0 {n : Nat} (h : 0 < n) : seqIndex? 0 n = some 0 := by
  unfold seqIndex?
  simp
  omega
theorem lit_len {n : Nat} (h : n ≤ 1000) : n ≤ sizeLine := Nat.le_of_lt (small1000 h)
/-- for i, x in enumerate(xs) -/
theorem for_enum {K : PySem.W.Frag} {a : Addr} {xs : List V} {g : TG} {tb : TS} {D : Ends} {σ : L2.St} {H : Hp} (Pv : Nat → L2.St → Hp → Prop) (h0 : Pv 0 σ H) (hq : ∀ i σ H, Pv i σ H → SqL K H a xs)
    (hs : ∀ (i : Nat) (x : V) (T : Addr) (σ : L2.St) (H : Hp), xs[i]? = some x → Pv i σ H → H T = none → g (.ref T) σ (upd H T (.tup [.int (i : Nat), x])) fun σ2 H2 => tb { D with nx := Pv (i + 1), ct := Pv (i + 1), bk := D.nx } σ2 H2) (hd : ∀ σ H, Pv xs.length σ H → D.nx σ H) :
    ∃ W : Nat → Nat → L2.St → Hp → Prop, (∃ m, W 0 m σ H) ∧ ∀ i m σ H, W i m σ H → ((Ite K a).stop i H ∧ D.nx σ H) ∨
      ((Ite K a).go i H ∧ ∃ N : L2.St → Hp → Prop, (∀ σ' H', N σ' H' → ∃ m', m' < m ∧ W (i + 1) m' σ' H') ∧ ∀ v H', (Ite K a).yld i H v H' → g v σ H' fun σ2 H2 => tb { D with nx := N, ct := N, bk := D.nx } σ2 H2) := by
  refine ⟨fun i m σ H => m + i = xs.length ∧ Pv i σ H, ⟨xs.length, rfl, h0⟩, fun i m σ H hW => ?_⟩
  obtain ⟨em, p⟩ := hW
  have q := hq i σ H p
  by_cases lt : i < xs.length
  · have ex : xs[i]? = some xs[i] := List.getElem?_eq_getElem lt
    refine .inr ⟨⟨xs, _, q, ex⟩, Pv (i + 1), fun σ' H' p' => ⟨m - 1, by omega, by omega, p'⟩, fun v H' hy => ?_⟩
    obtain ⟨T, x, rfl, nT, rfl, f⟩ := hy
    exact hs i x T σ H (f xs q) p nT
  · have ei : i = xs.length := by omega
    subst ei
    exact .inl ⟨⟨xs, q, Nat.le_refl _⟩, hd σ H p⟩

/-! ## repr of data, where no repr is under way -/
@[irreducible] def rReprD (K : PySem.W.Frag) : List V → Hp → VK → Prop := fun xs H Q => ∃ (a : Addr) (d : PyData), xs = [.ref a] ∧ Dp K H (.ref a) d ∧ d.showable = true ∧ d.hasDict = false ∧ d.depth ≤ 30 ∧ d.shown.length ≤ sizeLine ∧ Q (.str d.shown) H
theorem call_reprDK {X : Cx} {K : PySem.W.Frag} (hG : X.A.guards = some []) (hu : X.A.units + 64 < cLine) (h : X.K = K := by rfl) : CallR X (.builtin "repr") (rReprD K) := by
  subst h
  intro pins s σ H xs us Q I r h
  unfold rReprD at h
  obtain ⟨a, d, rfl, hd, hs, hn, hdp, hz, q⟩ := h
  obtain ⟨v, rfl, rv⟩ := vals1 r
  cases rv
  obtain ⟨as, rd⟩ := Dp.reads I d _ _ hd rfl
  refine repr_of_reads' rd hs (PyData.noDict_hsm hn) hG (by omega) (fun b o e => e) (fun h' t tk hk => ?_) hz
  exact ⟨.str d.shown, H, I.kept hk, ⟨_, rfl⟩, q⟩
/-! ## lists of ints as data -/
def dI (ns : List Int) : PyData := .list (ns.map .int)
theorem dpall_iv {K : PySem.W.Frag} {H : Hp} : ∀ ns : List Int, DpAll K H (iv ns) (ns.map .int)
  | [] => .nil
  | n :: r => .cons (.int n) (dpall_iv r)
theorem dp_iv {K : PySem.W.Frag} {H : Hp} {a : Addr} {ns : List Int} (h : SqL K H a (iv ns)) : Dp K H (.ref a) (dI ns) := .lst h (dpall_iv ns)
theorem can_ints : ∀ ns : List Int, PyData.canLayAll0 (ns.map .int) = true
  | [] => by simp [PyData.canLayAll0]
  | n :: r => by simp [PyData.canLayAll0, PyData.canLay0, can_ints r]
theorem dep_ints : ∀ ns : List Int, PyData.depthAll (ns.map .int) = 0
  | [] => by simp [PyData.depthAll]
  | n :: r => by simp [PyData.depthAll, PyData.depth, dep_ints r]
theorem eqv_ints : ∀ xs ys : List Int, PyData.eqvAll (xs.map .int) (ys.map .int) = decide (xs = ys)
  | [], [] => by simp [PyData.eqvAll]
  | [], _ :: _ => by simp [PyData.eqvAll]
  | _ :: _, [] => by simp [PyData.eqvAll]
  | x :: r, y :: t => by
    have ih := eqv_ints r t
    simp only [List.map_cons, PyData.eqvAll, PyData.eqv, ih, List.cons.injEq]
    by_cases e : x = y <;> by_cases e2 : r = t <;> simp [e, e2]
theorem shaped_dI (ns : List Int) : SeqAt.shaped (dI ns) = true := by
  unfold SeqAt.shaped dI
  simp only [PyData.canLay0, can_ints, PyData.depth, dep_ints]
  decide
theorem eqv_dI (xs ys : List Int) : PyData.eqv (dI xs) (dI ys) = decide (xs = ys) := by
  unfold dI
  simp only [PyData.eqv, eqv_ints]
theorem shown_ints_len : ∀ ns : List Int, (∀ n ∈ ns, n.natAbs.log2 < 1920) → ((PyData.shownAll (ns.map .int)).map (·.length)).sum ≤ 2000 * ns.length ∧ (PyData.shownAll (ns.map .int)).length = ns.length
  | [], _ => by simp [PyData.shownAll]
  | n :: r, h => by
    obtain ⟨h1, h2⟩ := shown_ints_len r fun m hm => h m (List.mem_cons_of_mem _ hm)
    have e := int_text_length_le (k := 1920) (by decide) (h n (List.mem_cons_self ..))
    have e2 : (PyData.shown (.int n)).length ≤ 2000 := by
      show (Str.ofString (toString n)).length ≤ 2000
      rw [PySem.ofString_length]
      omega
    simp only [List.map_cons, PyData.shownAll, List.sum_cons, List.length_cons]
    omega
theorem show_ints : ∀ ns : List Int, (∀ n ∈ ns, n.natAbs.log2 < 1920) → PyData.showableAll (ns.map .int) = true
  | [], _ => by simp [PyData.showableAll]
  | n :: r, h => by simp [PyData.showableAll, PyData.showable, h n (List.mem_cons_self ..), show_ints r fun m hm => h m (List.mem_cons_of_mem _ hm)]
theorem nod_ints : ∀ ns : List Int, PyData.hasDictAll (ns.map .int) = false
  | [] => by simp [PyData.hasDictAll]
  | n :: r => by simp [PyData.hasDictAll, PyData.hasDict, nod_ints r]
theorem r_eqI {K : PySem.W.Frag} {H : Hp} {a b : Addr} {xs ys : List Int} {Q : VK} (h1 : SqL K H a (iv xs)) (h2 : SqL K H b (iv ys)) (q : Q (.bl (decide (xs = ys))) H) : rEqQ K (.ref a) (.ref b) H Q :=
  rEqQ_of ⟨dI xs, dI ys, dp_iv h1, dp_iv h2, shaped_dI xs, shaped_dI ys, by rw [eqv_dI]; exact q⟩
theorem r_neI {K : PySem.W.Frag} {H : Hp} {a b : Addr} {xs ys : List Int} {Q : VK} (h1 : SqL K H a (iv xs)) (h2 : SqL K H b (iv ys)) (q : Q (.bl (!decide (xs = ys))) H) : rNeQ K (.ref a) (.ref b) H Q :=
  rNeQ_of ⟨dI xs, dI ys, dp_iv h1, dp_iv h2, shaped_dI xs, shaped_dI ys, by rw [eqv_dI]; exact q⟩
theorem r_repr {K : PySem.W.Frag} {H : Hp} {a : Addr} {ns : List Int} {Q : VK} (h1 : SqL K H a (iv ns)) (hl : ns.length ≤ 5000) (hz : ∀ n ∈ ns, n.natAbs.log2 < 1920) (q : Q (.str (dI ns).shown) H) : rReprD K [.ref a] H Q := by
  unfold rReprD
  refine ⟨a, dI ns, rfl, dp_iv h1, ?_, ?_, ?_, ?_, q⟩
  · simp only [dI, PyData.showable]
    exact show_ints ns hz
  · simp only [dI, PyData.hasDict]
    exact nod_ints ns
  · simp only [dI, PyData.depth, dep_ints]
    decide
  · obtain ⟨e1, e2⟩ := shown_ints_len ns hz
    have e3 := listText_len_le (PyData.shownAll (ns.map .int))
    simp only [dI, PyData.shown]
    rw [sizeLine_eq]
    omega
mutual
theorem dp_same {K : PySem.W.Frag} {H H' : Hp} (s : Same H H') : ∀ (d : PyData) (x : V), Dp K H x d → Dp K H' x d
  | .none, _, h => by cases h; exact .non
  | .bool _, _, h => by cases h; exact .bl _
  | .int _, _, h => by cases h; exact .int _
  | .str _, _, h => by cases h; exact .str _
  | .list ds, _, h => by
    cases h with
    | lst a b => exact .lst (s.seq a) (dpall_same s ds _ b)
  | .tuple ds, _, h => by
    cases h with
    | tup a b =>
      refine .tup ?_ (dpall_same s ds _ b)
      rcases a with (a | ⟨o, a⟩) | a
      · exact .inl (.inl (s _ _ a))
      · exact .inl (.inr ⟨o, s _ _ a⟩)
      · exact .inr a
  | .dict _, _, h => nomatch h
theorem dpall_same {K : PySem.W.Frag} {H H' : Hp} (s : Same H H') : ∀ (ds : List PyData) (xs : List V), DpAll K H xs ds → DpAll K H' xs ds
  | [], _, h => by cases h; exact .nil
  | d :: ds, _, h => by
    cases h with
    | cons a b => exact .cons (dp_same s d _ a) (dpall_same s ds _ b)
end
theorem dpall_len {K : PySem.W.Frag} {H : Hp} : ∀ (ds : List PyData) (xs : List V), DpAll K H xs ds → xs.length = ds.length
  | [], _, h => by cases h; rfl
  | d :: ds, _, h => by
    cases h with
    | cons a b => rw [List.length_cons, List.length_cons, dpall_len ds _ b]
theorem dpall_get {K : PySem.W.Frag} {H : Hp} : ∀ (ds : List PyData) (xs : List V), DpAll K H xs ds → ∀ (i : Nat) (d : PyData), ds[i]? = some d → ∃ x, xs[i]? = some x ∧ Dp K H x d
  | [], _, _, _, _, e => by simp at e
  | d :: ds, _, h, i, d', e => by
    cases h with
    | cons a b =>
      cases i with
      | zero =>
        have z : d = d' := by simpa using e
        subst z
        exact ⟨_, rfl, a⟩
      | succ i => exact dpall_get ds _ b i d' (by simpa using e)
theorem tyx_lst {K : PySem.W.Frag} {H : Hp} {a : Addr} {xs : List V} (h : SqL K H a xs) : TyX K H (.ref a) (.type "list") := by
  rcases h with (h | ⟨o, h⟩) | ⟨o, its, n, h1, h2, _⟩
  · exact .base (.lst h)
  · exact .base (.frz h)
  · exact .kList h1 h2
theorem tyx_tup {K : PySem.W.Frag} {H : Hp} {a : Addr} {xs : List V} (h : SqT K H a xs) : TyX K H (.ref a) (.type "tuple") := by
  rcases h with (h | ⟨o, h⟩) | ⟨o, its, n, h1, h2, _⟩
  · exact .base (.tup h)
  · exact .fTuple h
  · exact .kTuple h1 h2
theorem kit_no {K : PySem.W.Frag} : PySem.W.kitOne K (.type "int") (.type "bool") = some false ∧ PySem.W.kitOne K (.type "str") (.type "bool") = some false ∧ PySem.W.kitOne K (.type "list") (.type "bool") = some false ∧
    PySem.W.kitOne K (.type "bool") (.type "int") = some true ∧ PySem.W.kitOne K (.type "int") (.type "int") = some true := ⟨rfl, rfl, rfl, rfl, rfl⟩
/-! ## tests -/
theorem ifD {p A B : Prop} [Decidable p] (h1 : p → A) (h2 : ¬ p → B) : if decide p = true then A else B := by
  by_cases h : p
  · rw [decide_eq_true h]; exact iteT (h1 h)
  · rw [decide_eq_false h]; exact iteF (h2 h)
theorem ifN {p A B : Prop} [Decidable p] (h1 : ¬ p → A) (h2 : p → B) : if (!decide p) = true then A else B := by
  by_cases h : p
  · rw [decide_eq_true h]; exact iteF (h2 h)
  · rw [decide_eq_false h]; exact iteT (h1 h)
theorem ifI {i j : Int} {A B : Prop} (h1 : i = j → A) (h2 : i ≠ j → B) : if decide (V.int i = V.int j) = true then A else B :=
  ifD (fun e => h1 (V.int.inj e)) fun e => h2 fun z => e (congrArg V.int z)
theorem ifIN {i j : Int} {A B : Prop} (h1 : i ≠ j → A) (h2 : i = j → B) : if (!decide (V.int i = V.int j)) = true then A else B :=
  ifN (fun e => h1 fun z => e (congrArg V.int z)) fun e => h2 (V.int.inj e)
/-! ## defs that may ask for repr: called where no repr is under way -/
structure FnG (P : Program) (w : World) (K : PySem.W.Frag) (mg : Str → Option Value) (base : Heap) (CX : CXT) (k : Nat) (f : Addr) (fd : FuncData) (ps : List Str) (sp : Sp) : Prop where
  len : ∀ vs H Q E, sp vs H Q E → vs.length = ps.length
  run : ∀ (A : Around) (outer : List Env) (s : Shared) (H : Hp) (args : Args) (us : List Value) (vs : List V) (Q : VK) (E : XK), Room k A → A.guards = some [] →
    Env0 P w K mg base A outer s H → BindsTo s fd args (ps.zip us) → Vals vs us → sp vs H Q E → codeAny (model P w) A (.call (.ref f) args) (CR CX outer P w H s Q E) s
section
variable {P : Program} {w : World} {K : PySem.W.Frag} {mg : Str → Option Value} {base : Heap} {CX : CXT}
theorem FnG.of {k : Nat} {f : Addr} {fd : FuncData} {ps : List Str} {sp : Sp} (F : FnOk P w K mg base CX k f fd ps sp) : FnG P w K mg base CX k f fd ps sp :=
  ⟨F.len, fun A outer s H args us vs Q E hr _ => F.run A outer s H args us vs Q E hr⟩
theorem fnG_of {k : Nat} {f : Addr} {nm qual : Str} {pms : Arguments} {body : List Stmt} {sc : Scope} {dV kV dc pm cdv ct oc : Value} {an od : Option Addr} {sl : Array (Option Value)} {N ps : List Str} {sp : Sp}
    (lk : K.lookup f = some ⟨oc, od, .func (PySem.W.fnOf nm qual pms body sc dV kV dc pm an cdv ct), sl⟩) (hcd : PySem.W.codeIn K cdv qual = true) (S : FnScope N ps sc) (len : ∀ vs H Q E, sp vs H Q E → vs.length = ps.length)
    (hb : ∀ (A : Around) (outer : List Env) (s : Shared) (H : Hp) (vs : List V) (Q : VK) (E : XK), A.guards = some [] → Room k (A.deeper (envOfC qual sc s.heap.objs.size f cdv)) → sp vs H Q E →
      ∃ t, PSs (cxOf CX P w K mg base N qual sc f cdv A outer s H E) body t ∧ t { nx := fun _ H' => Q .non H', rt := Q } (start N vs) H) :
    FnG P w K mg base CX (k + 1) f (PySem.W.fnOf nm qual pms body sc dV kV dc pm an cdv ct) ps sp := by
  refine ⟨len, ?_⟩
  intro A out s H args us vs Q E room hG env bnd rel pre
  have ln := len _ _ _ _ pre
  have kin : K.In s.heap := env.mod.kin.keeps fun b o e => (env.bs b o e).1
  have nl : s.heap.NoLimit := env.mod.nolimit.keeps fun b o e => (env.bs b o e).1
  have kinds : ∀ y ∈ ps.zip us, sc.names.lookup y.1 = some .local ∨ (sc.names.lookup y.1 = some .cell ∧ ((cellsFrom (s.heap.objs.size + 1) sc.names []).lookup y.1).isSome = true) := by
    rintro ⟨x, v⟩ hy
    rcases S.par x (List.of_mem_zip hy).1 with z | z
    · exact .inl z
    · exact .inr ⟨z, PySem.W.cellsFrom_some _ _ _ (.inl z)⟩
  refine codeAny_call_function room.depth (kin _ _ lk) rfl S.co S.gen rfl (PySem.W.codeRec_of kin hcd) (bnd _ _ _ _ ?_)
  refine wpAny_newFunctionEnv_cells S.kind kinds fun en hen s1 x1 => ?_
  cases hen
  refine ⟨nl.keeps x1.toInCall.keep, codeAny_func ?_⟩
  obtain ⟨t, ht, hq⟩ := hb A out s H vs Q E hG (room.deeper _) pre
  have J0 : Inv (cxOf CX P w K mg base N qual sc f cdv A out s H E) [] (start N vs) H s1 := inv_start S room.hd env ln rel x1
  refine wpAny_mono (ht.run [] s1 (start N vs) H _ J0 hq) (fun fl s2 hs => ?_) fun e s2 hs => hs
  cases fl with
  | ret u =>
    obtain ⟨v, τ, H2, J, rv, q⟩ := hs
    exact ⟨v, H2, J.os, J.bare, J.base, J.hok, rv, q⟩
  | next =>
    obtain ⟨τ, H2, J, q⟩ := hs
    exact ⟨V.non, H2, J.os, J.bare, J.base, J.hok, rfl, q⟩
  | brk =>
    obtain ⟨_, _, _, q⟩ := hs
    cases q
  | cont =>
    obtain ⟨_, _, _, q⟩ := hs
    cases q
end
/-! ## a def of the text: where it stands; its promise -/
structure DefAt (K : PySem.W.Frag) (mg : Str → Option Value) (x : Str) (st : Stmt) (ps : List Str) : Prop where
  ex : ∃ (f : Addr) (fd : FuncData), Fun K x x st f fd ∧ mg x = some (.ref f) ∧ Binds K fd ps []
/-- a def that may be called by its name; dvs: the defaults that fill up -/
structure Cal (P : Program) (w : World) (K : PySem.W.Frag) (mg : Str → Option Value) (base : Heap) (k : Nat) (x : Str) (sp : Sp) (dvs : List V) : Prop where
  ex : ∃ (f : Addr) (fd : FuncData) (ps : List Str) (ds : List Value), FnOk P w K mg base CX0 k f fd ps sp ∧ mg x = some (.ref f) ∧ PySem.W.keepIn K (.ref f) = true ∧ L2.Binds K fd ps ds ∧ Vals dvs ds
/-- a def that may be called by its name; it may ask for repr -/
structure CalG (P : Program) (w : World) (K : PySem.W.Frag) (mg : Str → Option Value) (base : Heap) (k : Nat) (x : Str) (sp : Sp) : Prop where
  ex : ∃ (f : Addr) (fd : FuncData) (ps : List Str), FnG P w K mg base CX0 k f fd ps sp ∧ mg x = some (.ref f) ∧ PySem.W.keepIn K (.ref f) = true ∧ Binds K fd ps []
section
variable {P : Program} {w : World} {K : PySem.W.Frag} {mg : Str → Option Value} {base : Heap}
theorem DefAt.cal {x : Str} {st : Stmt} {ps N : List Str} {k : Nat} {sp : Sp} (D : DefAt K mg x st ps) (S : FnScope N ps (defScope st)) (len : ∀ vs H Q E, sp vs H Q E → vs.length = ps.length)
    (hb : ∀ (f : Addr) (cdv : Value) (A : Around) (outer : List Env) (s : Shared) (H : Hp) (vs : List V) (Q : VK) (E : XK), Room k (A.deeper (envOfC x (defScope st) s.heap.objs.size f cdv)) → sp vs H Q E →
      ∃ t, PSs (cxOf CX0 P w K mg base N x (defScope st) f cdv A outer s H E).nox (defBody st) t ∧ t { nx := fun _ H' => Q .non H', rt := Q } (start N vs) H) : Cal P w K mg base (k + 1) x sp [] := by
  obtain ⟨f, fd, F, hm, b⟩ := D.ex
  exact ⟨f, fd, ps, [], F.ok S len fun cdv A outer s H vs Q E => hb f cdv A outer s H vs Q E, hm, F.kp, b, .nil⟩
theorem DefAt.calG {x : Str} {st : Stmt} {ps N : List Str} {k : Nat} {sp : Sp} (D : DefAt K mg x st ps) (S : FnScope N ps (defScope st)) (len : ∀ vs H Q E, sp vs H Q E → vs.length = ps.length)
    (hb : ∀ (f : Addr) (cdv : Value) (A : Around) (outer : List Env) (s : Shared) (H : Hp) (vs : List V) (Q : VK) (E : XK), A.guards = some [] → Room k (A.deeper (envOfC x (defScope st) s.heap.objs.size f cdv)) → sp vs H Q E →
      ∃ t, PSs (cxOf CX0 P w K mg base N x (defScope st) f cdv A outer s H E).nox (defBody st) t ∧ t { nx := fun _ H' => Q .non H', rt := Q } (start N vs) H) : CalG P w K mg base (k + 1) x sp := by
  obtain ⟨f, fd, ⟨⟨oc, od, kV, doc, pm, an, cdv, ct, osl, rfl, lk, hcd⟩, kp⟩, hm, b⟩ := D.ex
  refine ⟨f, _, ps, fnG_of lk hcd S len fun A outer s H vs Q E hG hr hsp => ?_, hm, kp, b⟩
  obtain ⟨t, h, q⟩ := hb f cdv A outer s H vs Q E hG hr hsp
  exact ⟨t, h.nox, q⟩
theorem okG {x qual : Str} {st : Stmt} {f : Addr} {fd : FuncData} {N ps : List Str} {k : Nat} {sp : Sp} (F : Fun K x qual st f fd) (S : FnScope N ps (defScope st)) (len : ∀ vs H Q E, sp vs H Q E → vs.length = ps.length)
    (hb : ∀ (cdv : Value) (A : Around) (outer : List Env) (s : Shared) (H : Hp) (vs : List V) (Q : VK) (E : XK), A.guards = some [] → Room k (A.deeper (envOfC qual (defScope st) s.heap.objs.size f cdv)) → sp vs H Q E →
      ∃ t, PSs (cxOf CX0 P w K mg base N qual (defScope st) f cdv A outer s H E).nox (defBody st) t ∧ t { nx := fun _ H' => Q .non H', rt := Q } (start N vs) H) : FnG P w K mg base CX0 (k + 1) f fd ps sp := by
  obtain ⟨⟨oc, od, kV, doc, pm, an, cdv, ct, osl, rfl, lk, hcd⟩, kp⟩ := F
  refine fnG_of lk hcd S len fun A outer s H vs Q E hG hr hsp => ?_
  obtain ⟨t, h, q⟩ := hb cdv A outer s H vs Q E hG hr hsp
  exact ⟨t, h.nox, q⟩
theorem calG_of {x : Str} {k : Nat} {sp : Sp} (c : Cal P w K mg base k x sp []) : CalG P w K mg base k x sp := by
  obtain ⟨f, fd, ps, ds, F, hm, kp, b, d⟩ := c.ex
  cases d
  exact ⟨f, fd, ps, FnG.of F, hm, kp, b⟩
theorem Cal.imp {x : Str} {k j : Nat} {sp sp' : Sp} {dvs : List V} (c : Cal P w K mg base k x sp dvs) (hk : k ≤ j) (h : ∀ vs H Q E, sp' vs H Q E → sp vs H Q E) : Cal P w K mg base j x sp' dvs := by
  obtain ⟨f, fd, ps, ds, F, hm, kp, b, d⟩ := c.ex
  exact ⟨f, fd, ps, ds, (F.mono hk).imp h, hm, kp, b, d⟩
end
section
variable {X : Cx} {k j : Nat} {x : Str} {sp : Sp} {p pos : Pos} {e : Expr} {es : List Expr} {t : TA}
theorem pe_c {dvs : List V} (c : Cal X.prog X.w X.K X.mg X.base k x sp dvs) (hr : Room j X.A) (hk : k ≤ j) (hg : Gl X x) (ha : PA X (e :: es) t)
    (hdb : (x == ("__debug__" : Str)) = false := by decide) (he : starEach (e :: es) X.env = (false, eval e X.env) :: starEach es X.env := by rfl) (hpl : (backTo pos (starEach es X.env)).any (·.1) = false := by rfl) :
    PE X (.Call (.Name x p) (e :: es) [] pos) (tCall sp dvs E0 t) := by
  obtain ⟨f, fd, ps, ds, F, hm, kp, bd, vd⟩ := c.ex
  exact L2.pe_call F (hr.mono hk) hg hm kp bd vd pass0 ha hdb he hpl
/-- a call of a def that may ask for repr -/
theorem pe_cG (c : CalG X.prog X.w X.K X.mg X.base k x sp) (hG : X.A.guards = some []) (hr : Room j X.A) (hk : k ≤ j) (hg : Gl X x) (ha : PA X (e :: es) t)
    (hdb : (x == ("__debug__" : Str)) = false := by decide) (he : starEach (e :: es) X.env = (false, eval e X.env) :: starEach es X.env := by rfl) (hpl : (backTo pos (starEach es X.env)).any (·.1) = false := by rfl) :
    PE X (.Call (.Name x p) (e :: es) [] pos) (tCall sp [] E0 t) := by
  obtain ⟨f, fd, ps, F, hm, kp, b⟩ := c.ex
  refine ⟨fun pins s σ H Q I h => wpAny_Call_Name_kw (ld_glob I hg hm ?_ hdb)⟩
  refine PySem.W.callWith_K (h₀ := X.base) I.ok.mod.kin kp (thn (ha.run pos pins s σ H _ I h) fun us s1 hx => ?_) he hpl
  obtain ⟨vs, H1, I1, r, q⟩ := hx
  rw [List.append_nil] at q
  have ln : us.length = ps.length := by rw [← r.length]; exact F.len _ _ _ _ q
  have bb : BindsTo s1 fd ⟨us, []⟩ (ps.zip us) := by
    have z := b s1 us I1.kIn (by rw [List.append_nil]; exact ln)
    rw [List.append_nil] at z
    exact z
  refine ⟨I1.kIn, wpAny_call (codeAny_mono (F.run X.A X.stack s1 H1 ⟨us, []⟩ us vs Q E0 (hr.mono hk) hG I1.env0 bb r q) fun r s' hq => ?_)⟩
  cases r with
  | error e => exact False.elim hq
  | ok fl =>
    cases fl with
    | ret u => exact I1.after hq
    | next => exact False.elim hq
    | brk => exact False.elim hq
    | cont => exact False.elim hq
end
/-! ## methods, properties, new objects -/
structure Met (P : Program) (w : World) (K : PySem.W.Frag) (mg : Str → Option Value) (base : Heap) (k : Nat) (C : Addr) (m : Str) (sp : Sp) : Prop where
  ex : ∃ (f : Addr) (fd : FuncData) (ps : List Str), Cls K C ∧ Meth K C m f ∧ FnOk P w K mg base CX0 k f fd ps sp ∧ L2.Binds K fd ps []
structure Prp (P : Program) (w : World) (K : PySem.W.Frag) (mg : Str → Option Value) (base : Heap) (k : Nat) (C : Addr) (m : Str) (sp : Sp) : Prop where
  ex : ∃ (f p : Addr) (fd : FuncData) (ps : List Str), Cls K C ∧ PropOf K C m p f ∧ FnOk P w K mg base CX0 k f fd ps sp ∧ L2.Binds K fd ps []
structure Mak (P : Program) (w : World) (K : PySem.W.Frag) (mg : Str → Option Value) (base : Heap) (k : Nat) (x : Str) (C : Addr) (sp : Sp) : Prop where
  ex : ∃ (f : Addr) (fd : FuncData) (ps : List Str), Mk K C f ∧ FnOk P w K mg base CX0 k f fd ps sp ∧ mg x = some (.ref C) ∧ L2.Binds K fd ps []
section
variable {X : Cx} {k j : Nat} {C : Addr} {x m : Str} {sp : Sp} {p pos apos : Pos} {e o : Expr} {es : List Expr} {ta : TE} {t : TA}
theorem pe_m {pl : Sem Bool} (c : Met X.prog X.w X.K X.mg X.base k C m sp) (hr : Room j X.A) (hk : k ≤ j) (he : PE X o ta) (ha : PA X (e :: es) t)
    (ht : eval (.Call (.Attribute o m apos) (e :: es) [] pos) X.env = (do
      let ov ← eval o X.env
      standAt apos.atName
      let (f, first) ← holding [ov] (getMethod ov m pl)
      callWith pos f first (backTo pos (starEach (e :: es) X.env)) (backToKw pos (keywordEach [] X.env))) := by rfl)
    (hst : starEach (e :: es) X.env = (false, eval e X.env) :: starEach es X.env := by rfl) (hpl : (backTo pos (starEach es X.env)).any (·.1) = false := by rfl) : PE X (.Call (.Attribute o m apos) (e :: es) [] pos) (tMeth C m sp [] E0 ta t) := by
  obtain ⟨f, fd, ps, c1, c2, F, b⟩ := c.ex
  exact L2.pe_meth (pl := pl) he c1 c2 F (hr.mono hk) b .nil pass0 ha hst hpl ht
theorem pe_mk (c : Mak X.prog X.w X.K X.mg X.base k x C sp) (hr : Room j X.A) (hk : k + 1 ≤ j) (hg : Gl X x) (ha : PA X (e :: es) t)
    (hdb : (x == ("__debug__" : Str)) = false := by decide) (he : starEach (e :: es) X.env = (false, eval e X.env) :: starEach es X.env := by rfl) (hpl : (backTo pos (starEach es X.env)).any (·.1) = false := by rfl) :
    PE X (.Call (.Name x p) (e :: es) [] pos) (tMake C sp [] E0 t) := by
  obtain ⟨f, fd, ps, M, F, hm, b⟩ := c.ex
  exact L2.pe_make M F (hr.mono hk) hg hm b .nil pass0 ha hdb he hpl
theorem pe_p (c : Prp X.prog X.w X.K X.mg X.base k C m sp) (hr : Room j X.A) (hk : k + 1 ≤ j) (he : PE X e ta) (hab : attributeBase e m X.env (eval e X.env) = eval e X.env := by rfl) : PE X (.Attribute e m pos) (tProp C sp [] E0 ta) := by
  obtain ⟨f, q, fd, ps, c1, c2, F, b⟩ := c.ex
  exact L2.pe_prop he c1 c2 F (hr.mono hk) b .nil pass0 hab
end
section
variable {X : Cx} {K : PySem.W.Frag} {C : Addr} {k j : Nat} {m f : Str} {sp : Sp} {ta tv : TE} {o value : Expr} {pos pos' apos tpos : Pos}
theorem pe_m0 {pl : Sem Bool} (c : Met X.prog X.w X.K X.mg X.base k C m sp) (hr : Room j X.A) (hk : k ≤ j) (he : PE X o ta)
    (ht : eval (.Call (.Attribute o m apos) [] [] pos) X.env = (do
      let ov ← eval o X.env
      standAt apos.atName
      let (f, first) ← holding [ov] (getMethod ov m pl)
      callWith pos f first (backTo pos (starEach [] X.env)) (backToKw pos (keywordEach [] X.env))) := by rfl) : PE X (.Call (.Attribute o m apos) [] [] pos) (tMeth C m sp [] E0 ta tNil) := by
  obtain ⟨f, fd, ps, c1, c2, F, b⟩ := c.ex
  exact L2.pe_meth0 (pl := pl) he c1 c2 F (hr.mono hk) b .nil pass0 ht
theorem ps_fldK (ha : PE X o ta) (hv : PE X value tv) (hs : swapsWith value (some (.Attribute o f pos')) pos.line X.env = pure false) (h : X.K = K := by rfl) : PS X (.Assign [.Attribute o f pos'] value pos) (sFld K ta tv f) := by
  subst h
  exact ps_fld ha hv hs
theorem ps_fldaugK {op : Operator} {rd : V → V → Hp → VK → Prop} (ha : PE X o ta) (hv : PE X value tv) (hop : InOp X op rd) (h : X.K = K := by rfl) : PS X (.AugAssign (.Attribute o f tpos) op value pos) (sFldAug K ta tv rd f) := by
  subst h
  exact ps_fldaug ha hv hop
end
/-- a method of the text -/
structure MetAt (K : PySem.W.Frag) (C : Addr) (m qual : Str) (st : Stmt) (ps : List Str) : Prop where
  ex : ∃ (f : Addr) (fd : FuncData), Fun K m qual st f fd ∧ Meth K C m f ∧ L2.Binds K fd ps []
section
variable {P : Program} {w : World} {K : PySem.W.Frag} {mg : Str → Option Value} {base : Heap} {C : Addr} {m x qual : Str} {st : Stmt} {ps N : List Str} {k : Nat} {sp : Sp}
theorem MetAt.met (D : MetAt K C m qual st ps) (cl : Cls K C) (S : FnScope N ps (defScope st)) (len : ∀ vs H Q E, sp vs H Q E → vs.length = ps.length)
    (hb : ∀ (f : Addr) (cdv : Value) (A : Around) (outer : List Env) (s : Shared) (H : Hp) (vs : List V) (Q : VK) (E : XK), Room k (A.deeper (envOfC qual (defScope st) s.heap.objs.size f cdv)) → sp vs H Q E →
      ∃ t, PSs (cxOf CX0 P w K mg base N qual (defScope st) f cdv A outer s H E).nox (defBody st) t ∧ t { nx := fun _ H' => Q .non H', rt := Q } (start N vs) H) : Met P w K mg base (k + 1) C m sp := by
  obtain ⟨f, fd, F, hm, b⟩ := D.ex
  exact ⟨f, fd, ps, cl, hm, F.ok S len fun cdv A outer s H vs Q E => hb f cdv A outer s H vs Q E, b⟩
end
/-- a class's __init__ of the text -/
structure IniAt (K : PySem.W.Frag) (mg : Str → Option Value) (C : Addr) (x qual : Str) (st : Stmt) (ps : List Str) : Prop where
  ex : ∃ (f : Addr) (fd : FuncData), Fun K "__init__" qual st f fd ∧ Mk K C f ∧ mg x = some (.ref C) ∧ L2.Binds K fd ps []
/-- a property of the text -/
structure PrpAt (K : PySem.W.Frag) (C : Addr) (m qual : Str) (st : Stmt) (ps : List Str) : Prop where
  ex : ∃ (f p : Addr) (fd : FuncData), Fun K m qual st f fd ∧ PropOf K C m p f ∧ L2.Binds K fd ps []
section
variable {P : Program} {w : World} {K : PySem.W.Frag} {mg : Str → Option Value} {base : Heap} {C : Addr} {m x qual : Str} {st : Stmt} {ps N : List Str} {k : Nat} {sp : Sp}
theorem IniAt.mak (D : IniAt K mg C x qual st ps) (S : FnScope N ps (defScope st)) (len : ∀ vs H Q E, sp vs H Q E → vs.length = ps.length)
    (hb : ∀ (f : Addr) (cdv : Value) (A : Around) (outer : List Env) (s : Shared) (H : Hp) (vs : List V) (Q : VK) (E : XK), Room k (A.deeper (envOfC qual (defScope st) s.heap.objs.size f cdv)) → sp vs H Q E →
      ∃ t, PSs (cxOf CX0 P w K mg base N qual (defScope st) f cdv A outer s H E).nox (defBody st) t ∧ t { nx := fun _ H' => Q .non H', rt := Q } (start N vs) H) : Mak P w K mg base (k + 1) x C sp := by
  obtain ⟨f, fd, F, hm, hg, b⟩ := D.ex
  exact ⟨f, fd, ps, hm, F.ok S len fun cdv A outer s H vs Q E => hb f cdv A outer s H vs Q E, hg, b⟩
theorem PrpAt.prp (D : PrpAt K C m qual st ps) (cl : Cls K C) (S : FnScope N ps (defScope st)) (len : ∀ vs H Q E, sp vs H Q E → vs.length = ps.length)
    (hb : ∀ (f : Addr) (cdv : Value) (A : Around) (outer : List Env) (s : Shared) (H : Hp) (vs : List V) (Q : VK) (E : XK), Room k (A.deeper (envOfC qual (defScope st) s.heap.objs.size f cdv)) → sp vs H Q E →
      ∃ t, PSs (cxOf CX0 P w K mg base N qual (defScope st) f cdv A outer s H E).nox (defBody st) t ∧ t { nx := fun _ H' => Q .non H', rt := Q } (start N vs) H) : Prp P w K mg base (k + 1) C m sp := by
  obtain ⟨f, p, fd, F, hm, b⟩ := D.ex
  exact ⟨f, p, fd, ps, cl, hm, F.ok S len fun cdv A outer s H vs Q E => hb f cdv A outer s H vs Q E, b⟩
end
/-- all but o stands -/
def But (o : Addr) (H H' : Hp) : Prop := ∀ b u, b ≠ o → H b = some u → H' b = some u
theorem But.refl (o : Addr) (H : Hp) : But o H H := fun _ _ _ h => h
theorem But.trans {o : Addr} {H H1 H2 : Hp} (a : But o H H1) (b : But o H1 H2) : But o H H2 := fun c u n h => b c u n (a c u n h)
theorem But.of {o : Addr} {H H1 : Hp} (s : Same H H1) : But o H H1 := fun b u _ h => s b u h
theorem But.put {o : Addr} {H : Hp} {u : HO} : But o H (upd H o u) := fun b x n h => by
  rw [upd_ne n]
  exact h
theorem But.seq {K : PySem.W.Frag} {o a : Addr} {H H' : Hp} {xs : List V} (b : But o H H') (n : a ≠ o) (h : H a = some (.lst xs)) : SqL K H' a xs := seqL_of (b a _ n h)
theorem Sep.but {R : Rg} {G H H' : Hp} {o : Addr} {u u' : HO} (s : Sep R G H) (h : G o = some u) (b : But o H H') (e : H' o = some u') : Sep R (upd G o u') H' := by
  have no : ∀ a, R.S a → a ≠ o := fun a ha z => by
    have q := s.off a ha
    rw [z, h] at q
    cases q
  refine ⟨R.loc H _ (fun a ha => ?_) s.inv, fun c x q => ?_, fun a ha => by rw [upd_ne (no a ha)]; exact s.off a ha⟩
  · cases q : H a with
    | none => exact absurd q (R.has H a s.inv ha)
    | some z => exact b a z (no a ha) q
  · by_cases hc : c = o
    · rw [hc, upd_same] at q
      rw [hc, e]
      exact q
    · rw [upd_ne hc] at q
      exact b c x hc (s.same c x q)

theorem Sep.add {R : Rg} {G0 H0 G H : Hp} {l : Addr} {u : HO} (s0 : Sep R G0 H0) (n : H0 l = none) (s : Sep R G H) (e : H l = some u) : Sep R (upd G l u) H := by
  have nl : ∀ a, R.S a → a ≠ l := fun a ha z => R.has H0 a s0.inv ha (by rw [z]; exact n)
  refine ⟨s.inv, fun b x q => ?_, fun a ha => by rw [upd_ne (nl a ha)]; exact s.off a ha⟩
  by_cases hb : b = l
  · rw [hb, upd_same] at q
    rw [hb, e]
    exact q
  · rw [upd_ne hb] at q
    exact s.same b x q

/-! ## calls by keywords alone -/
/-- a def called with the keywords ks alone: sp speaks of their values -/
structure CalK (P : Program) (w : World) (K : PySem.W.Frag) (mg : Str → Option Value) (base : Heap) (k : Nat) (x : Str) (ks : List Str) (sp : Sp) : Prop where
  ex : ∃ (f : Addr) (fd : FuncData) (ps : List Str) (spf : Sp) (g : List Value → List Value → List Value) (gV : List V → List V → List V),
    FnOk P w K mg base CX0 k f fd ps spf ∧ mg x = some (.ref f) ∧ PySem.W.keepIn K (.ref f) = true ∧ KBn K fd ps 0 ks g gV ∧ ∀ zs H Q E, sp zs H Q E → zs.length = ks.length ∧ spf (gV [] zs) H Q E
def tCk (sp : Sp) (tk : TA) : TE := fun σ H Q => tk σ H fun zs H1 => sp zs H1 Q E0
section
variable {X : Cx} {k j : Nat} {x : Str} {ks : List Str} {sp : Sp} {p pos : Pos} {kws : List Keyword} {tk : TA}
theorem pe_ck (c : CalK X.prog X.w X.K X.mg X.base k x ks sp) (hr : Room j X.A) (hk : k ≤ j) (hg : Gl X x) (hkw : PK X kws tk)
    (hall : (backToKw pos (keywordEach kws X.env)).all (·.1.isSome) = true := by rfl) (hks : (backToKw pos (keywordEach kws X.env)).filterMap (·.1) = ks := by rfl) (hdb : (x == ("__debug__" : Str)) = false := by decide)
    (hpl : ((backTo pos (starEach [] X.env)).any (·.1) || (backToKw pos (keywordEach kws X.env)).any (·.1.isNone)) = false := by rfl) : PE X (.Call (.Name x p) [] kws pos) (tCk sp tk) := by
  obtain ⟨f, fd, ps, spf, g, gV, F, hm, kp, hb, hs⟩ := c.ex
  refine ⟨fun pins s σ H Q I h => wpAny_Call_Name_kw (ld_glob I hg hm ?_ hdb)⟩
  refine PySem.W.callWith_KW0 (h₀ := X.base) I.ok.mod.kin kp hall (thn (hkw.run pos pins s σ H _ I h) fun ws s1 hx => ?_) hpl
  obtain ⟨zs, H1, I1, rz, q⟩ := hx
  obtain ⟨lz, q⟩ := hs _ _ _ _ q
  refine ⟨I1.kIn, ?_⟩
  rw [hks]
  exact run_fnN F (hr.mono hk) hb pass0 I1 .nil rz rfl lz q
end

/-! ## a def with defaults, called by place or by keywords -/
section
variable {P : Program} {w : World} {K : PySem.W.Frag} {mg : Str → Option Value} {base : Heap} {x qual : Str} {pms : Arguments} {body : List Stmt} {sc : Scope} {dvs : List V} {f : Addr} {fd : FuncData} {ps ks : List Str}
/-- all parameters by keywords; g brings the values in the parameters' order -/
theorem kbn_dflt (F : FunD K x qual pms body sc dvs [] f fd) (hd : dvs ≠ []) (g : {α : Type} → List α → List α) (hg : ∀ {vs : List V} {us : List Value}, Vals vs us → Vals (g vs) (g us))
    (h : ∀ (T : Addr) (kV doc pm : Value) (an : Option Addr) (cdv ct : Value) (ws its : List Value), ws.length = ks.length → its.length = dvs.length →
      ∃ k, bindArgs (PySem.W.fnOf x qual pms body sc (.ref T) kV doc pm an cdv ct) ⟨[], ks.zip ws⟩ = seqItems? (.ref T) >>= k ∧ k (some its.toArray) = pure (ps.zip (g ws))) : KBn K fd ps 0 ks (fun _ ws => g ws) (fun _ zs => g zs) := by
  obtain ⟨oc, od, dV, kV, doc, pm, an, cdv, ct, osl, rfl, lk, hcd, hD, hK⟩ := F.ex
  rcases hD with ⟨e, _⟩ | ⟨_, T, o, its, m, rfl, lT, oT, rT⟩
  · exact absurd e hd
  · refine ⟨fun s us ws X l1 l2 => ?_, fun r1 r2 => hg r2⟩
    cases us with
    | cons u us => cases l1
    | nil =>
      obtain ⟨k, e1, e2⟩ := h T kV doc pm an cdv ct ws its l2 rT.length.symm
      refine BindsTo.of_looks fun M => ?_
      rw [e1]
      exact looks_items X lT oT (.of_pure e2)
/-- .. of a def without defaults -/
theorem kbn_plain {st : Stmt} (F : Fun K x qual st f fd) (g : {α : Type} → List α → List α) (hg : ∀ {vs : List V} {us : List Value}, Vals vs us → Vals (g vs) (g us))
    (h : ∀ (kV doc pm : Value) (an : Option Addr) (cdv ct : Value) (ws : List Value), ws.length = ks.length →
      bindArgs (PySem.W.fnOf x qual (defArgs st) (defBody st) (defScope st) .none kV doc pm an cdv ct) ⟨[], ks.zip ws⟩ = pure (ps.zip (g ws))) : KBn K fd ps 0 ks (fun _ ws => g ws) (fun _ zs => g zs) := by
  obtain ⟨oc, od, kV, doc, pm, an, cdv, ct, osl, rfl, lk, hcd⟩ := F.ex
  refine ⟨fun s us ws X l1 l2 => ?_, fun r1 r2 => hg r2⟩
  cases us with
  | cons u us => cases l1
  | nil => exact .of_eq (h kV doc pm an cdv ct ws l2)
theorem calK_mk {k : Nat} {spf sp : Sp} {g : List Value → List Value → List Value} {gV : List V → List V → List V} (F : FnOk P w K mg base CX0 k f fd ps spf) (hm : mg x = some (.ref f)) (kp : PySem.W.keepIn K (.ref f) = true) (b : KBn K fd ps 0 ks g gV)
    (h : ∀ zs H Q E, sp zs H Q E → zs.length = ks.length ∧ spf (gV [] zs) H Q E) : CalK P w K mg base k x ks sp := ⟨f, fd, ps, spf, g, gV, F, hm, kp, b, h⟩
end
/-- a def without defaults that is called by place and by keywords -/
structure Def2 (P : Program) (w : World) (K : PySem.W.Frag) (mg : Str → Option Value) (base : Heap) (k : Nat) (x : Str) (st : Stmt) (ps : List Str) (sp : Sp) : Prop where
  ex : ∃ (f : Addr) (fd : FuncData), Fun K x x st f fd ∧ mg x = some (.ref f) ∧ Binds K fd ps [] ∧ FnOk P w K mg base CX0 k f fd ps sp
section
variable {P : Program} {w : World} {K : PySem.W.Frag} {mg : Str → Option Value} {base : Heap} {x : Str} {st : Stmt} {ps ks N : List Str} {k : Nat} {sp sp' : Sp}
theorem DefAt.two (D : DefAt K mg x st ps) (S : FnScope N ps (defScope st)) (len : ∀ vs H Q E, sp vs H Q E → vs.length = ps.length)
    (hb : ∀ (f : Addr) (cdv : Value) (A : Around) (outer : List Env) (s : Shared) (H : Hp) (vs : List V) (Q : VK) (E : XK), Room k (A.deeper (envOfC x (defScope st) s.heap.objs.size f cdv)) → sp vs H Q E →
      ∃ t, PSs (cxOf CX0 P w K mg base N x (defScope st) f cdv A outer s H E).nox (defBody st) t ∧ t { nx := fun _ H' => Q .non H', rt := Q } (start N vs) H) : Def2 P w K mg base (k + 1) x st ps sp := by
  obtain ⟨f, fd, F, hm, b⟩ := D.ex
  exact ⟨f, fd, F, hm, b, F.ok S len fun cdv A outer s H vs Q E => hb f cdv A outer s H vs Q E⟩
theorem Def2.cal (D : Def2 P w K mg base k x st ps sp) : Cal P w K mg base k x sp [] := by
  obtain ⟨f, fd, F, hm, b, ok⟩ := D.ex
  exact ⟨f, fd, ps, [], ok, hm, F.kp, b, .nil⟩
theorem Def2.calK (D : Def2 P w K mg base k x st ps sp) (g : {α : Type} → List α → List α) (hg : ∀ {vs : List V} {us : List Value}, Vals vs us → Vals (g vs) (g us))
    (h : ∀ (kV doc pm : Value) (an : Option Addr) (cdv ct : Value) (ws : List Value), ws.length = ks.length →
      bindArgs (PySem.W.fnOf x x (defArgs st) (defBody st) (defScope st) .none kV doc pm an cdv ct) ⟨[], ks.zip ws⟩ = pure (ps.zip (g ws))) (hs : ∀ zs H Q E, sp' zs H Q E → zs.length = ks.length ∧ sp (g zs) H Q E) : CalK P w K mg base k x ks sp' := by
  obtain ⟨f, fd, F, hm, b, ok⟩ := D.ex
  exact calK_mk ok hm F.kp (kbn_plain F g hg h) hs
end
theorem perm_sorted_eq : ∀ {xs ys : List Int}, xs.Perm ys → xs.Pairwise (· ≤ ·) → ys.Pairwise (· ≤ ·) → xs = ys
  | [], ys, p, _, _ => (List.nil_perm.mp p).symm
  | x :: r, [], p, _, _ => absurd (List.perm_nil.mp p) (by simp)
  | x :: r, y :: t, p, h1, h2 => by
    have a1 := (List.pairwise_cons.mp h1).1
    have a2 := (List.pairwise_cons.mp h2).1
    have m1 : x ∈ y :: t := p.mem_iff.mp (List.mem_cons_self ..)
    have m2 : y ∈ x :: r := p.mem_iff.mpr (List.mem_cons_self ..)
    have e : x = y := by
      rcases List.mem_cons.mp m1 with z | z
      · exact z
      · rcases List.mem_cons.mp m2 with z2 | z2
        · exact z2.symm
        · have := a1 y z2
          have := a2 x z
          omega
    subst e
    rw [perm_sorted_eq (List.Perm.cons_inv p) (List.pairwise_cons.mp h1).2 (List.pairwise_cons.mp h2).2]

/-! ## a law's end, of a law that may ask for repr -/
theorem law_endG {P : Program} {w : World} {K : PySem.W.Frag} {mg mb : Str → Option Value} {k : Nat} {fa a : Addr} {fd : FuncData} {x : Str} {sp : Sp} {s₁ : Shared} {vs : List Value} {ns : List Int}
    (KX : K.In s₁.heap) (hns : s₁.heap.Ns mainGlobals mg) (hb : s₁.heap.Ns builtinsNs mb) (hbb : ∀ x : Str, x ≠ "__name__" → mb x = bootBuiltins x) (hlim : s₁.heap.NoLimit) (hg : s₁.gens = #[])
    (ha : s₁.heap.get? a = some { cls := .type "list", data := .seq vs.toArray }) (hi : IntsAre vs ns) (hl : ns.length ≤ sizeLine) (hr : Room k callerA)
    (F : ∀ base : Heap, K.In base → base.Ns mainGlobals mg → FnG P w K mg base CX0 k fa fd [x] sp) (hbind : ∀ (s : Shared) (u : Value), BindsTo s fd ⟨[u], []⟩ [(x, u)])
    (hsp : ∀ H : Hp, Only H → SqL K H a (iv ns) → sp [.ref a] H (fun v _ => v = .bl true) fun _ _ _ => False) :
    codeAny (model P w) callerA (.call (.ref fa) ⟨[.ref a], []⟩) (fun r s' => r = .ok (.ret (.bool true)) ∧ OldK s₁.heap s'.heap ∧ s'.os = s₁.os ∧ AllBare s'.gens) s₁ := by
  have rel := vals_ints hi
  have same : ∀ H : Hp, Only H → SqL K H a (iv ns) → HOk P w H s₁.heap → (∀ b, H b ≠ none → b = a) → (H a ≠ none → K.lookup a = none) →
      codeAny (model P w) callerA (.call (.ref fa) ⟨[.ref a], []⟩) (fun r s' => r = .ok (.ret (.bool true)) ∧ OldK s₁.heap s'.heap ∧ s'.os = s₁.os ∧ AllBare s'.gens) s₁ := by
    intro H only sq hok at_a k_a
    have nonK : ∀ {b : Addr} {o : Obj}, K.lookup b = some o → H b = none := by
      intro b o e
      cases q : H b with
      | none => rfl
      | some u =>
        have z := at_a b (by rw [q]; simp)
        subst z
        rw [k_a (by rw [q]; simp)] at e
        cases e
    have nonD : ∀ {b : Addr} {o : Obj} {es : Array DictEntry} {ep : Nat}, s₁.heap.get? b = some o → o.data = .dict es ep → H b = none := by
      intro b o es ep e d
      cases q : H b with
      | none => rfl
      | some u =>
        have z := at_a b (by rw [q]; simp)
        subst z
        rw [ha] at e
        cases e
        cases d
    have nsB : ∀ {b : Addr} {m : Str → Option Value}, s₁.heap.Ns b m → (hidT s₁.heap H).Ns b m := by
      rintro b m ⟨o, es, ep, e, d, r⟩
      exact ⟨o, es, ep, hidT_get e (nonD e d), d, r⟩
    have kinB : K.In (hidT s₁.heap H) := fun b o e => hidT_get (KX b o e) (nonK e)
    have md : Mod K mg (hidT s₁.heap H) := by
      obtain ⟨mc, h1, h2⟩ := hlim
      exact ⟨kinB, nsB hns, ⟨mb, nsB hb, hbb⟩, ⟨mc, nsB h1, h2⟩⟩
    have noIn : ∀ b : Addr, b ∉ frs [] := fun b z => by cases z
    have env : Env0 P w K mg (hidT s₁.heap H) callerA [] s₁ H := ⟨rfl, md, fun b o e => of_hidT e, Nat.le_of_eq (hidT_size _ _), trivial, fun b z => absurd z (noIn b), hok, .of_eq hg⟩
    refine codeAny_mono ((F _ kinB (nsB hns)).run callerA [] s₁ H ⟨[.ref a], []⟩ [.ref a] [.ref a] _ _ hr rfl env (hbind s₁ (.ref a)) (.cons rfl .nil) (hsp H only sq)) fun r s' h => ?_
    cases r with
    | error e => exact False.elim h
    | ok fl =>
      cases fl with
      | next => exact False.elim h
      | brk => exact False.elim h
      | cont => exact False.elim h
      | ret u =>
        obtain ⟨v, H', os, bare, un, hok', rv, q⟩ := h
        have ev : v = .bl true := q
        subst ev
        have eu : u = Value.bool true := rv
        subst eu
        refine ⟨rfl, OldK.of_keep fun b o e => ?_, os, bare⟩
        cases q : H b with
        | none => exact un.keep b o e q (noIn b) (by simp)
        | some u =>
          rcases only b with z | ⟨ob, xs, z⟩
          · rw [q] at z
            cases z
          · obtain ⟨e1, _⟩ := hok b _ z
            obtain ⟨e2, _⟩ := hok' b _ (un.frzs b ob _ z)
            rw [e] at e1
            cases e1
            exact e2
  cases hk : K.lookup a with
  | some o =>
    have e := KX a o hk
    rw [ha] at e
    cases e
    refine same (fun _ => none) (fun _ => .inl rfl) (.inr ⟨_, vs.toArray, _, hk, rfl, rfl, rfl, ?_, by simpa using rel⟩) (fun b u z => ?_) (fun b z => absurd rfl z) fun z => absurd rfl z
    · rw [List.size_toArray, hi.length]
      exact hl
    · exact nomatch (show (none : Option HO) = some u from z)
  | none =>
    let H0 : Hp := fun b => if b = a then some (.frz { cls := .type "list", data := .seq vs.toArray } (.lst (iv ns))) else none
    have at1 : H0 a = some (.frz { cls := .type "list", data := .seq vs.toArray } (.lst (iv ns))) := if_pos rfl
    have at0 : ∀ b, b ≠ a → H0 b = none := fun b hb => if_neg hb
    refine same H0 (fun b => ?_) (.inl (.inr ⟨_, at1⟩)) (fun b u z => ?_) (fun b z => ?_) fun _ => hk
    · by_cases hb : b = a
      · exact .inr ⟨_, _, by rw [hb]; exact at1⟩
      · exact .inl (at0 b hb)
    · by_cases hb : b = a
      · subst hb
        rw [at1] at z
        cases z
        exact ⟨ha, by rw [iv_len]; exact hl, vs, _, rel, ha⟩
      · rw [at0 b hb] at z
        cases z
    · by_cases hb : b = a
      · exact hb
      · exact absurd (at0 b hb) z
theorem walk_ofG {l : PySem.W.OpenLaw} {n k : Nat} {q : Program} {loose : List Str} {XP : (Str → Option Value) → Heap → Prop} {YP : World → Heap → Prop} {d : DefRec} {K : Params → PySem.W.Frag} {sp : PySem.W.Frag → Sp} {x : Str}
    (hn : l.most = some n) (hn2 : n ≤ sizeLine) (hdf : d.params.defaults = []) (hr : Room k callerA) (hY : ∀ (w : World) (h : Heap), YP w h → (K w.params).In h)
    (F : ∀ (w : World) (mg : Str → Option Value) (fa : Addr) (h : Heap), (K w.params).In h → h.Ns mainGlobals mg → mg d.name = some (.ref fa) →
      ∃ fd : FuncData, (∀ (s : Shared) (u : Value), BindsTo s fd ⟨[u], []⟩ [(x, u)]) ∧
        ∀ base : Heap, (K w.params).In base → base.Ns mainGlobals mg → FnG l.prog w (K w.params) mg base CX0 k fa fd [x] (sp (K w.params)))
    (hsp : ∀ (K : PySem.W.Frag) (H : Hp) (a : Addr) (ns : List Int), ns.length ≤ n → SqL K H a (iv ns) → sp K [.ref a] H (fun v _ => v = .bl true) fun _ _ _ => False) :
    PySem.W.WalkO q loose XP YP l.row.toRowW d [] (fun f vs => PySem.call f vs) := by
  refine Att.attach_call hn hdf fun w s₀ s₁ mg mb fa o pm cd doc a vs ns G Y ho hd hcd hmg hobj hints hlen hg => ?_
  have KX := hY w _ Y
  obtain ⟨fd, hb, hF⟩ := F w mg fa _ KX G.T.g hmg
  exact law_endG KX G.T.g G.T.b G.T.builtins G.T.nolimit hg hobj hints (Nat.le_trans hlen hn2) hr hF hb fun H _ hS => hsp (K w.params) H a ns hlen hS

/-! ## a def of the text, out of what the top has written -/
theorem DefAt.mk1 {K : PySem.W.Frag} {h : Heap} {mg : Str → Option Value} {x : Str} {st : Stmt} {ps : List Str} {f : Addr} {od an : Option Addr} {sl : Array (Option Value)} {oc kV dc pm cd ct : Value} (X : K.In h) (G : h.Ns mainGlobals mg)
    (a : PySem.W.nsIn K mainGlobals x = some (some (.ref f))) (l : K.lookup f = some ⟨oc, od, .func (PySem.W.fnOf x x (defArgs st) (defBody st) (defScope st) .none kV dc pm an cd ct), sl⟩) (c : PySem.W.codeIn K cd x = true) (k : PySem.W.keepIn K (.ref f) = true)
    (hb : ∀ (kV doc pm : Value) (an : Option Addr) (cdv ct : Value) (us : List Value), us.length = ps.length → bindArgs (PySem.W.fnOf x x (defArgs st) (defBody st) (defScope st) .none kV doc pm an cdv ct) ⟨us, []⟩ = pure (ps.zip us)) : DefAt K mg x st ps :=
  ⟨f, _, fun_mk (st := st) l c k, PySem.W.mg_of X G a, (fun_mk (st := st) l c k).binds hb⟩
theorem cutD {p q : Prop} (h : p) (k : p → q) : q := k h
/-- a class: what its facts say -/
theorem cls_mk {K : PySem.W.Frag} {h : Heap} {mg : Str → Option Value} {x : Str} {C : Addr} (X : K.In h) (hC : mg x = some (.ref C)) (pg : PySem.W.plainGet K C Str.empty = true) (hd : PySem.W.hasDictIn K C = true) (po : PySem.W.plainOver K C = true) (sa : PySem.W.findIn K (.ref C) "__setattr__" = some (some (.builtin "object.__setattr__"))) : Cls K C := ⟨pg, hd, po, sa⟩
theorem noat_mk {K : PySem.W.Frag} {h : Heap} {mg : Str → Option Value} {x : Str} {C : Addr} {m : Str} (X : K.In h) (hC : mg x = some (.ref C)) (n : PySem.W.findIn K (.ref C) m = some none) : NoAttr K C m := n
theorem IniAt.mk1 {K : PySem.W.Frag} {h : Heap} {mg : Str → Option Value} {C : Addr} {x qual : Str} {st : Stmt} {ps : List Str} {f : Addr} {od an : Option Addr} {sl : Array (Option Value)} {oc kV dc pm cd ct : Value} (X : K.In h) (hm : mg x = some (.ref C))
    (a : PySem.W.findIn K (.ref C) "__init__" = some (some (.ref f))) (l : K.lookup f = some ⟨oc, od, .func (PySem.W.fnOf "__init__" qual (defArgs st) (defBody st) (defScope st) .none kV dc pm an cd ct), sl⟩) (c : PySem.W.codeIn K cd qual = true) (k : PySem.W.keepIn K (.ref f) = true)
    (mk : PySem.W.makesIn K C = true) (i : PySem.W.isFn K (.ref f) = true) (kc : PySem.W.keepIn K (.ref C) = true)
    (hb : ∀ (kV doc pm : Value) (an : Option Addr) (cdv ct : Value) (us : List Value), us.length = ps.length → bindArgs (PySem.W.fnOf "__init__" qual (defArgs st) (defBody st) (defScope st) .none kV doc pm an cdv ct) ⟨us, []⟩ = pure (ps.zip us)) : IniAt K mg C x qual st ps :=
  ⟨f, _, fun_mk (st := st) l c k, ⟨mk, a, i, kc⟩, hm, (fun_mk (st := st) l c k).binds hb⟩
theorem MetAt.mk1 {K : PySem.W.Frag} {h : Heap} {mg : Str → Option Value} {x : Str} {C : Addr} {m qual : Str} {st : Stmt} {ps : List Str} {f : Addr} {od an : Option Addr} {sl : Array (Option Value)} {oc kV dc pm cd ct : Value} (X : K.In h) (hC : mg x = some (.ref C))
    (a : PySem.W.findIn K (.ref C) m = some (some (.ref f))) (l : K.lookup f = some ⟨oc, od, .func (PySem.W.fnOf m qual (defArgs st) (defBody st) (defScope st) .none kV dc pm an cd ct), sl⟩) (c : PySem.W.codeIn K cd qual = true) (k : PySem.W.keepIn K (.ref f) = true) (i : PySem.W.isFn K (.ref f) = true)
    (hb : ∀ (kV doc pm : Value) (an : Option Addr) (cdv ct : Value) (us : List Value), us.length = ps.length → bindArgs (PySem.W.fnOf m qual (defArgs st) (defBody st) (defScope st) .none kV doc pm an cdv ct) ⟨us, []⟩ = pure (ps.zip us)) : MetAt K C m qual st ps :=
  ⟨f, _, fun_mk (st := st) l c k, ⟨a, i, k⟩, (fun_mk (st := st) l c k).binds hb⟩
theorem PrpAt.mk1 {K : PySem.W.Frag} {h : Heap} {mg : Str → Option Value} {x : Str} {C : Addr} {m qual : Str} {st : Stmt} {ps : List Str} {f p : Addr} {rest : List Value} {od an : Option Addr} {sl : Array (Option Value)} {oc kV dc pm cd ct : Value} (X : K.In h) (hC : mg x = some (.ref C))
    (a : PySem.W.findIn K (.ref C) m = some (some (.ref p))) (g : PySem.W.specialIn K (.ref p) "__get__" = some (some (.builtin "property.__get__"))) (t : PySem.W.takesIn K (.ref p) = some true) (r : PySem.W.recIn K p "property" = some (.ref f :: rest))
    (l : K.lookup f = some ⟨oc, od, .func (PySem.W.fnOf m qual (defArgs st) (defBody st) (defScope st) .none kV dc pm an cd ct), sl⟩) (c : PySem.W.codeIn K cd qual = true) (k : PySem.W.keepIn K (.ref f) = true)
    (hb : ∀ (kV doc pm : Value) (an : Option Addr) (cdv ct : Value) (us : List Value), us.length = ps.length → bindArgs (PySem.W.fnOf m qual (defArgs st) (defBody st) (defScope st) .none kV doc pm an cdv ct) ⟨us, []⟩ = pure (ps.zip us)) : PrpAt K C m qual st ps :=
  ⟨f, p, _, fun_mk (st := st) l c k, ⟨a, g, t, rest, r⟩, (fun_mk (st := st) l c k).binds hb⟩
theorem glob_mk {K : PySem.W.Frag} {h : Heap} {mg : Str → Option Value} {x : Str} {C : Addr} (X : K.In h) (G : h.Ns mainGlobals mg) (a : PySem.W.nsIn K mainGlobals x = some (some (.ref C))) : mg x = some (.ref C) := PySem.W.mg_of X G a
/-- a def with defaults -/
theorem funD_mk {K : PySem.W.Frag} {h : Heap} {mg : Str → Option Value} {x : Str} {st : Stmt} {dvs : List V} {f T : Addr} {o : Obj} {its : List Value} {n : Nat} {od an : Option Addr} {sl : Array (Option Value)} {oc kV dc pm cd ct : Value} (X : K.In h) (G : h.Ns mainGlobals mg)
    (a : PySem.W.nsIn K mainGlobals x = some (some (.ref f))) (l : K.lookup f = some ⟨oc, od, .func (PySem.W.fnOf x x (defArgs st) (defBody st) (defScope st) (.ref T) kV dc pm an cd ct), sl⟩) (c : PySem.W.codeIn K cd x = true) (k : PySem.W.keepIn K (.ref f) = true)
    (t : K.lookup T = some o) (e : o.data = .seq its.toArray n) (hv : Vals dvs its) (hd : dvs ≠ []) : FunD K x x (defArgs st) (defBody st) (defScope st) dvs [] f (PySem.W.fnOf x x (defArgs st) (defBody st) (defScope st) (.ref T) kV dc pm an cd ct) ∧ mg x = some (.ref f) :=
  ⟨⟨⟨oc, od, _, kV, dc, pm, an, cd, ct, sl, rfl, l, c, .inr ⟨hd, T, o, its, n, rfl, t, e, hv⟩, .inl rfl⟩, k⟩, PySem.W.mg_of X G a⟩
/-- the law's own def -/
theorem DefAt.law {K : PySem.W.Frag} {mg : Str → Option Value} {x : Str} {st : Stmt} {fa : Addr} {p : Str} (D : DefAt K mg x st [p]) (hfa : mg x = some (.ref fa))
    (hb : ∀ (kV doc pm : Value) (an : Option Addr) (cdv ct : Value) (us : List Value), us.length = 1 → bindArgs (PySem.W.fnOf x x (defArgs st) (defBody st) (defScope st) .none kV doc pm an cdv ct) ⟨us, []⟩ = pure ([p].zip us)) :
    ∃ fd : FuncData, Fun K x x st fa fd ∧ ∀ (s : Shared) (u : Value), BindsTo s fd ⟨[u], []⟩ [(p, u)] := by
  obtain ⟨f, fd, F, hm, b⟩ := D.ex
  rw [hfa] at hm
  cases hm
  obtain ⟨oc, od, kV, doc, pm, an, cdv, ct, osl, rfl, lk, hcd⟩ := F.ex
  exact ⟨_, F, fun s u => .of_eq (hb kV doc pm an cdv ct [u] rfl)⟩
end Sq

/-! the mathematics of replacements on lengths of runs -/
namespace Sq
def once (n k : Int) : Int := n / k + n % k
def sqz (n : Int) (row : List Int) : Int := row.foldl once n
def rb (R k : Int) : Int := if k > R + 1 then R else (R + 3 - k) * k - 2
def reachOf (row : List Int) (most : Int) : Int := row.foldr (fun k R => rb R k) most
abbrev Two (row : List Int) : Prop := ∀ k ∈ row, (2 : Int) ≤ k
def Mid (ns : List Int) : Prop := ∀ k ∈ ns, (2 : Int) ≤ k ∧ k < 2 ^ 240
theorem Mid.two {ns : List Int} (h : Mid ns) : Two ns := fun k hk => (h k hk).1
theorem sqz_cons (n k : Int) (r : List Int) : sqz n (k :: r) = sqz (once n k) r := rfl
theorem sqz_app (n : Int) (a b : List Int) : sqz n (a ++ b) = sqz (sqz n a) b := by simp [sqz, List.foldl_append]
theorem sqz_snoc (n k : Int) (a : List Int) : sqz n (a ++ [k]) = once (sqz n a) k := by rw [sqz_app]; rfl
theorem sqz_take {row : List Int} {n k : Int} {i : Nat} (h : row[i]? = some k) : sqz n (row.take (i + 1)) = once (sqz n (row.take i)) k := by
  rw [List.take_add_one, h]
  exact sqz_snoc _ _ _
theorem once_nn {n k : Int} (hn : 0 ≤ n) (hk : 2 ≤ k) : 0 ≤ once n k := by
  unfold once
  have h1 := Int.ediv_nonneg hn (by omega : (0 : Int) ≤ k)
  have h2 := Int.emod_nonneg n (by omega : k ≠ 0)
  omega
/-- quotient and rest -/
theorem qr (n : Int) {k : Int} (hk : 2 ≤ k) : ∃ q r, n = q * k + r ∧ 0 ≤ r ∧ r < k ∧ n / k = q ∧ n % k = r :=
  ⟨n / k, n % k, by have := Int.mul_ediv_add_emod n k; rw [Int.mul_comm] at this; omega, Int.emod_nonneg n (by omega), Int.emod_lt_of_pos n (by omega), rfl, rfl⟩
theorem qr_of {q r k : Int} (h0 : 0 ≤ r) (h1 : r < k) : (q * k + r) / k = q ∧ (q * k + r) % k = r := by
  have hk : k ≠ 0 := by omega
  constructor
  · rw [Int.add_comm, Int.add_mul_ediv_right _ _ hk, Int.ediv_eq_zero_of_lt h0 h1]; omega
  · rw [Int.add_comm, Int.add_mul_emod_self_right, Int.emod_eq_of_lt h0 h1]
theorem once_qr {q r k : Int} (h0 : 0 ≤ r) (h1 : r < k) : once (q * k + r) k = q + r := by
  obtain ⟨a, b⟩ := qr_of (q := q) h0 h1
  unfold once
  rw [a, b]
theorem once_le {n k : Int} (hn : 0 ≤ n) (hk : 2 ≤ k) : once n k ≤ n := by
  obtain ⟨q, r, e, h0, h1, e1, e2⟩ := qr n hk
  unfold once
  rw [e1, e2]
  have hq : 0 ≤ q := by rw [← e1]; exact Int.ediv_nonneg hn (by omega)
  have := Int.mul_le_mul_of_nonneg_left (by omega : (1 : Int) ≤ k) hq
  omega
theorem once_small {n k : Int} (hn : 0 ≤ n) (h : n < k) : once n k = n := by
  unfold once
  rw [Int.ediv_eq_zero_of_lt hn h, Int.emod_eq_of_lt hn h]
  omega
theorem once_pos {n k : Int} (hn : 1 ≤ n) (hk : 2 ≤ k) : 1 ≤ once n k := by
  obtain ⟨q, r, e, h0, h1, e1, e2⟩ := qr n hk
  unfold once
  rw [e1, e2]
  have hq : 0 ≤ q := by rw [← e1]; exact Int.ediv_nonneg (by omega) (by omega)
  rcases Int.lt_or_eq_of_le hq with h | h
  · omega
  · subst h; omega
theorem sqz_nn : ∀ {row : List Int} {n : Int}, 0 ≤ n → Two row → 0 ≤ sqz n row
  | [], n, h, _ => h
  | k :: r, n, h, t => sqz_nn (row := r) (once_nn h (t k (List.mem_cons_self ..))) fun j hj => t j (List.mem_cons_of_mem _ hj)
theorem sqz_le : ∀ {row : List Int} {n : Int}, 0 ≤ n → Two row → sqz n row ≤ n
  | [], n, h, _ => Int.le_refl n
  | k :: r, n, h, t => Int.le_trans (sqz_le (row := r) (once_nn h (t k (List.mem_cons_self ..))) fun j hj => t j (List.mem_cons_of_mem _ hj)) (once_le h (t k (List.mem_cons_self ..)))
theorem sqz_pos : ∀ {row : List Int} {n : Int}, 1 ≤ n → Two row → 1 ≤ sqz n row
  | [], n, h, _ => h
  | k :: r, n, h, t => sqz_pos (row := r) (once_pos h (t k (List.mem_cons_self ..))) fun j hj => t j (List.mem_cons_of_mem _ hj)
/-- one step of the reach -/
theorem rb_pos {R k : Int} (hR : 1 ≤ R) (hk : 2 ≤ k) : R ≤ rb R k := by
  unfold rb
  split
  · omega
  · rename_i h
    have e : (R + 3 - k) * k - 2 - R = (R + 1 - k) * (k - 1) + (k - 1) := by
      have e1 : R + 3 - k = (R + 1 - k) + 2 := by omega
      have e2 : k = (k - 1) + 1 := by omega
      rw [e1]
      have e3 : (R + 1 - k) * k = (R + 1 - k) * (k - 1) + (R + 1 - k) := by
        have := Int.mul_sub (R + 1 - k) k 1
        omega
      have e4 : (R + 1 - k + 2) * k = (R + 1 - k) * k + 2 * k := Int.add_mul _ _ _
      omega
    have := Int.mul_nonneg (by omega : (0 : Int) ≤ R + 1 - k) (by omega : (0 : Int) ≤ k - 1)
    omega
theorem rb_all {R k n : Int} (hR : 1 ≤ R) (hk : 2 ≤ k) (h0 : 0 ≤ n) (h : n ≤ rb R k) : once n k ≤ R := by
  unfold rb at h
  split at h
  · rw [once_small h0 (by omega)]; exact h
  · rename_i hh
    obtain ⟨q, r, e, h1, h2, e1, e2⟩ := qr n hk
    unfold once
    rw [e1, e2]
    have e3 : (R + 3 - k) * k = (R + 2 - k) * k + k := by
      have : R + 3 - k = (R + 2 - k) + 1 := by omega
      rw [this, Int.add_mul, Int.one_mul]
    rcases Int.lt_or_le q (R + 2 - k) with hq | hq
    · omega
    · rcases Int.lt_or_eq_of_le hq with hq | hq
      · have := Int.mul_le_mul_of_nonneg_right (by omega : R + 3 - k ≤ q) (by omega : (0 : Int) ≤ k)
        omega
      · subst hq
        omega
theorem rb_next {R k : Int} (hR : 1 ≤ R) (hk : 2 ≤ k) : once (rb R k + 1) k = R + 1 := by
  unfold rb
  split
  · rw [once_small (by omega) (by omega)]
  · have e3 : (R + 3 - k) * k - 2 + 1 = (R + 2 - k) * k + (k - 1) := by
      have : R + 3 - k = (R + 2 - k) + 1 := by omega
      rw [this, Int.add_mul, Int.one_mul]; omega
    rw [e3, once_qr (by omega) (by omega)]
    omega
theorem reach_pos : ∀ {row : List Int} {m : Int}, 1 ≤ m → Two row → m ≤ reachOf row m
  | [], m, _, _ => Int.le_refl m
  | k :: r, m, h, t => by
    have ih := reach_pos (row := r) h fun j hj => t j (List.mem_cons_of_mem _ hj)
    exact Int.le_trans ih (rb_pos (by omega) (t k (List.mem_cons_self ..)))
theorem reach_all : ∀ {row : List Int} {m n : Int}, 1 ≤ m → Two row → 0 ≤ n → n ≤ reachOf row m → sqz n row ≤ m
  | [], m, n, _, _, _, h => h
  | k :: r, m, n, h, t, h0, hn => by
    have t' : Two r := fun j hj => t j (List.mem_cons_of_mem _ hj)
    have hk := t k (List.mem_cons_self ..)
    have p := reach_pos h t'
    exact reach_all (row := r) h t' (once_nn h0 hk) (rb_all (by omega) hk h0 hn)
theorem reach_next : ∀ {row : List Int} {m : Int}, 1 ≤ m → Two row → sqz (reachOf row m + 1) row = m + 1
  | [], m, _, _ => rfl
  | k :: r, m, h, t => by
    have t' : Two r := fun j hj => t j (List.mem_cons_of_mem _ hj)
    have hk := t k (List.mem_cons_self ..)
    have p := reach_pos h t'
    show sqz (once (rb (reachOf r m) k + 1) k) r = m + 1
    rw [rb_next (by omega) hk]
    exact reach_next h t'
/-- the reach is where the first greater one stands -/
theorem reach_is {row : List Int} {m n : Int} (h : 1 ≤ m) (t : Two row) (h0 : 0 ≤ n) (hn : m < sqz n row) (ha : ∀ j, 0 ≤ j → j < n → sqz j row ≤ m) : reachOf row m = n - 1 := by
  have p := reach_pos h t
  rcases Int.lt_or_le (reachOf row m) n with a | a
  · rcases Int.lt_or_le (reachOf row m + 1) n with b | b
    · have := ha _ (by omega) b
      rw [reach_next h t] at this
      omega
    · omega
  · have := reach_all h t h0 a
    omega
theorem reach_mono {row : List Int} {m m' : Int} (h : 1 ≤ m) (hm : m ≤ m') (t : Two row) : reachOf row m ≤ reachOf row m' := by
  rcases Int.lt_or_le (reachOf row m') (reachOf row m) with a | a
  · have p := reach_pos (m := m') (by omega) t
    have := reach_all h t (n := reachOf row m' + 1) (by omega) (by omega)
    rw [reach_next (by omega) t] at this
    omega
  · exact a
end Sq


namespace Sq
def prodL (ns : List Int) : Int := ns.foldr (fun k p => k * p) 1
def slack (ns : List Int) : Int := (ns.map fun k => k - 1).sum
theorem prodL_cons (k : Int) (r : List Int) : prodL (k :: r) = k * prodL r := rfl
theorem prodL_app (a b : List Int) : prodL (a ++ b) = prodL a * prodL b := by
  induction a with
  | nil => simp [prodL]
  | cons k r ih => rw [List.cons_append, prodL_cons, prodL_cons, ih, Int.mul_assoc]
theorem prodL_snoc (a : List Int) (k : Int) : prodL (a ++ [k]) = prodL a * k := by rw [prodL_app]; simp [prodL]
theorem prodL_pos : ∀ {ns : List Int}, Two ns → 1 ≤ prodL ns
  | [], _ => Int.le_refl 1
  | k :: r, h => by
    have ih := prodL_pos (ns := r) fun j hj => h j (List.mem_cons_of_mem _ hj)
    have hk := h k (List.mem_cons_self ..)
    rw [prodL_cons]
    have := Int.mul_le_mul (show (1 : Int) ≤ k by omega) ih (by decide) (by omega)
    omega
theorem prodL_one : ∀ {ns : List Int}, Two ns → prodL ns ≤ 1 → ns = []
  | [], _, _ => rfl
  | k :: r, h, h1 => by
    have ih := prodL_pos (ns := r) fun j hj => h j (List.mem_cons_of_mem _ hj)
    have hk := h k (List.mem_cons_self ..)
    rw [prodL_cons] at h1
    have := Int.mul_le_mul hk ih (by decide) (by omega)
    omega
theorem once_mul (n : Int) {k : Int} (hk : 2 ≤ k) : k * once n k = n + (k - 1) * (n % k) := by
  have e := Int.mul_ediv_add_emod n k
  unfold once
  rw [Int.mul_add, Int.sub_mul, Int.one_mul]
  omega
theorem sqz_ge : ∀ {ns : List Int} {n : Int}, 0 ≤ n → Two ns → n ≤ prodL ns * sqz n ns
  | [], n, _, _ => by simp [prodL, sqz]
  | k :: r, n, h0, h => by
    have t : Two r := fun j hj => h j (List.mem_cons_of_mem _ hj)
    have hk := h k (List.mem_cons_self ..)
    have ih := sqz_ge (ns := r) (once_nn h0 hk) t
    have e := once_mul n hk
    have hm := Int.emod_nonneg n (show k ≠ 0 by omega)
    have := Int.mul_nonneg (show 0 ≤ k - 1 by omega) hm
    have := Int.mul_le_mul_of_nonneg_left ih (show 0 ≤ k by omega)
    rw [prodL_cons, sqz_cons, Int.mul_assoc]
    omega
theorem slack_cons (k : Int) (r : List Int) : slack (k :: r) = (k - 1) + slack r := by simp [slack]
theorem slack_nn : ∀ {ns : List Int}, Two ns → 0 ≤ slack ns
  | [], _ => Int.le_refl 0
  | k :: r, h => by
    have ih := slack_nn (ns := r) fun j hj => h j (List.mem_cons_of_mem _ hj)
    have hk := h k (List.mem_cons_self ..)
    rw [slack_cons]
    omega
theorem sqz_up : ∀ {ns : List Int} {n : Int}, 0 ≤ n → Two ns → prodL ns * sqz n ns ≤ n + prodL ns * slack ns
  | [], n, _, _ => by simp [prodL, sqz, slack]
  | k :: r, n, h0, h => by
    have t : Two r := fun j hj => h j (List.mem_cons_of_mem _ hj)
    have hk := h k (List.mem_cons_self ..)
    have ih := sqz_up (ns := r) (once_nn h0 hk) t
    have e := once_mul n hk
    have hl := Int.emod_lt_of_pos n (show 0 < k by omega)
    have p := prodL_pos t
    have a1 : (k - 1) * (n % k) ≤ (k - 1) * k := Int.mul_le_mul_of_nonneg_left (by omega) (by omega)
    have a2 := Int.mul_le_mul_of_nonneg_left ih (show 0 ≤ k by omega)
    -- k * (prodL r * x) ≤ k * once n k + k * prodL r * slack r
    have a3 : k * prodL r * (k - 1) = (k - 1) * k * prodL r := by
      rw [Int.mul_comm (k * prodL r), Int.mul_assoc]
    have a4 : (k - 1) * k * 1 ≤ (k - 1) * k * prodL r := Int.mul_le_mul_of_nonneg_left p (Int.mul_nonneg (by omega) (by omega))
    rw [prodL_cons, sqz_cons, slack_cons, Int.mul_add (k * prodL r), a3, Int.mul_assoc k (prodL r) (sqz _ _)]
    rw [Int.mul_add, ← Int.mul_assoc] at a2
    rw [← Int.mul_assoc] at a2
    rw [← Int.mul_assoc]
    omega
theorem sqz_mul : ∀ {ns : List Int} {m : Int}, Two ns → sqz (m * prodL ns) ns = m
  | [], m, _ => by simp [prodL, sqz]
  | k :: r, m, h => by
    have hk := h k (List.mem_cons_self ..)
    have e : m * prodL (k :: r) = (m * prodL r) * k + 0 := by
      rw [prodL_cons, Int.add_zero, Int.mul_assoc, Int.mul_comm k]
    rw [sqz_cons, e, once_qr (by omega) (by omega), Int.add_zero]
    exact sqz_mul fun j hj => h j (List.mem_cons_of_mem _ hj)
theorem slack_le : ∀ {ns : List Int} {g : Int}, (∀ k ∈ ns, k ≤ g) → slack ns ≤ ns.length * (g - 1)
  | [], g, _ => by simp [slack]
  | k :: r, g, h => by
    have ih := slack_le (ns := r) (g := g) fun j hj => h j (List.mem_cons_of_mem _ hj)
    have hk := h k (List.mem_cons_self ..)
    rw [slack_cons, List.length_cons]
    have : ((r.length + 1 : Nat) : Int) * (g - 1) = r.length * (g - 1) + (g - 1) := by
      rw [Int.natCast_add, Int.add_mul]
      simp
    omega
theorem prodL_le : ∀ {ns : List Int} {g : Int} {n : Nat}, Two ns → (∀ k ∈ ns, k ≤ g) → ns.length ≤ n → 1 ≤ g → prodL ns ≤ g ^ n
  | [], g, n, _, _, _, hg => by
    show (1 : Int) ≤ g ^ n
    exact Int.pow_pos (show 0 < g by omega)
  | k :: r, g, 0, _, _, hl, _ => by simp at hl
  | k :: r, g, n + 1, h, hk, hl, hg => by
    have ih := prodL_le (ns := r) (g := g) (n := n) (fun j hj => h j (List.mem_cons_of_mem _ hj)) (fun j hj => hk j (List.mem_cons_of_mem _ hj)) (by simpa using hl) hg
    have p := prodL_pos (ns := r) fun j hj => h j (List.mem_cons_of_mem _ hj)
    have k2 := h k (List.mem_cons_self ..)
    rw [prodL_cons, Int.pow_succ, Int.mul_comm]
    exact Int.mul_le_mul ih (hk k (List.mem_cons_self ..)) (by omega) (by omega)
/-- the product is told by one long run -/
theorem told_prod {ns : List Int} {b s : Int} (h : Two ns) (hb : prodL ns ≤ b) (hs : slack ns < s) : ((s * b * (b + 1)) + sqz (s * b * (b + 1)) ns - 1) / sqz (s * b * (b + 1)) ns = prodL ns := by
  have p := prodL_pos h
  have s0 := slack_nn h
  have L0 : 0 ≤ s * b * (b + 1) := Int.mul_nonneg (Int.mul_nonneg (by omega) (by omega)) (by omega)
  have g := sqz_ge L0 h
  have u := sqz_up L0 h
  generalize hL : s * b * (b + 1) = L at *
  generalize hx : sqz L ns = x at *
  generalize hP : prodL ns = Pr at *
  generalize hS : slack ns = S at *
  -- (Pr - 1) * x < L ≤ Pr * x
  have e1 : Pr * S * Pr ≤ S * b * b := by
    have a := Int.mul_le_mul hb hb (by omega) (by omega : 0 ≤ b)
    have c := Int.mul_le_mul_of_nonneg_left a s0
    have d1 : Pr * S * Pr = S * (Pr * Pr) := by rw [Int.mul_comm Pr S, Int.mul_assoc]
    have d2 : S * b * b = S * (b * b) := Int.mul_assoc _ _ _
    omega
  have e2 : S * b * b + b < L := by
    have a1 : (S + 1) * b * (b + 1) ≤ s * b * (b + 1) := Int.mul_le_mul_of_nonneg_right (Int.mul_le_mul_of_nonneg_right (by omega) (by omega)) (by omega)
    have a2 : (S + 1) * b * (b + 1) = S * b * b + S * b + (b * b + b) := by
      rw [Int.add_mul, Int.one_mul, Int.mul_add, Int.mul_one, Int.add_mul]
      omega
    have a3 := Int.mul_nonneg s0 (show 0 ≤ b by omega)
    have a4 := Int.mul_le_mul (show (1 : Int) ≤ b by omega) (show (1 : Int) ≤ b by omega) (by decide) (by omega)
    omega
  have xpos : 0 < x := by
    rcases Int.lt_or_le 0 x with z | z
    · exact z
    · have := Int.mul_nonpos_of_nonneg_of_nonpos (show 0 ≤ Pr by omega) z
      have := Int.mul_nonneg (Int.mul_nonneg s0 (show 0 ≤ b by omega)) (show 0 ≤ b by omega)
      omega
  have lo : (Pr - 1) * x < L := by
    -- Pr * ((Pr - 1) * x) ≤ (Pr - 1) * (L + Pr * S) < Pr * L
    have a1 := Int.mul_le_mul_of_nonneg_left u (show 0 ≤ Pr - 1 by omega)
    have a2 : (Pr - 1) * (Pr * x) = Pr * ((Pr - 1) * x) := by
      rw [← Int.mul_assoc, ← Int.mul_assoc, Int.mul_comm (Pr - 1) Pr]
    have a3 : (Pr - 1) * (L + Pr * S) = Pr * L - L + (Pr * S * Pr - Pr * S) := by
      rw [Int.sub_mul, Int.one_mul, Int.mul_add, Int.mul_comm Pr (Pr * S)]
      omega
    have a4 := Int.mul_nonneg (show 0 ≤ Pr by omega) s0
    rcases Int.lt_or_le ((Pr - 1) * x) L with z | z
    · exact z
    · have := Int.mul_le_mul_of_nonneg_left z (show 0 ≤ Pr by omega)
      omega
  have q1 : L + x - 1 = (L - (Pr - 1) * x - 1) + Pr * x := by
    rw [Int.sub_mul, Int.one_mul]
    omega
  rw [q1, Int.add_mul_ediv_right _ _ (by omega), Int.ediv_eq_zero_of_lt (by omega) (by rw [Int.sub_mul, Int.one_mul]; omega)]
  omega
/-- the next number of the list is told by runs below the product -/
theorem next_hit {k : Int} {r : List Int} (h : Two (k :: r)) : sqz (prodL (k :: r) - k + 1) (k :: r) = 1 := by
  have t : Two r := fun j hj => h j (List.mem_cons_of_mem _ hj)
  have hk := h k (List.mem_cons_self ..)
  have e : prodL (k :: r) - k + 1 = (prodL r - 1) * k + 1 := by
    rw [prodL_cons, Int.sub_mul, Int.one_mul, Int.mul_comm]
  rw [sqz_cons, e, once_qr (by omega) (by omega)]
  have := sqz_mul (m := 1) t
  rw [Int.one_mul] at this
  rw [show prodL r - 1 + 1 = prodL r by omega]
  exact this
theorem next_miss {k j : Int} {r : List Int} (h : Two (k :: r)) (hj : 2 ≤ j) (hjk : j < k) : 1 < sqz (prodL (k :: r) - j + 1) (k :: r) := by
  have t : Two r := fun j hj => h j (List.mem_cons_of_mem _ hj)
  have hk := h k (List.mem_cons_self ..)
  have p := prodL_pos t
  have e : prodL (k :: r) - j + 1 = (prodL r - 1) * k + (k - j + 1) := by
    rw [prodL_cons, Int.sub_mul, Int.one_mul, Int.mul_comm]
    omega
  rw [sqz_cons, e, once_qr (by omega) (by omega)]
  have g := sqz_ge (n := prodL r - 1 + (k - j + 1)) (by omega) t
  rcases Int.lt_or_le 1 (sqz (prodL r - 1 + (k - j + 1)) r) with z | z
  · exact z
  · have := Int.mul_le_mul_of_nonneg_left z (show 0 ≤ prodL r by omega)
    omega
end Sq


namespace Sq
/-! ## sums -/
def sm (lo : Int) (f : Int → Int) : Nat → Int
  | 0 => 0
  | n + 1 => sm lo f n + f (lo + n)
theorem sm_congr {lo : Int} {f g : Int → Int} : ∀ {n : Nat}, (∀ i : Nat, i < n → f (lo + i) = g (lo + i)) → sm lo f n = sm lo g n
  | 0, _ => rfl
  | n + 1, h => by
    show sm lo f n + _ = sm lo g n + _
    rw [sm_congr fun i hi => h i (by omega), h n (by omega)]
theorem sm_add {lo : Int} {f g : Int → Int} : ∀ n : Nat, sm lo (fun x => f x + g x) n = sm lo f n + sm lo g n
  | 0 => rfl
  | n + 1 => by
    have := sm_add (lo := lo) (f := f) (g := g) n
    simp only [sm]
    omega
theorem sm_sub {lo : Int} {f g : Int → Int} : ∀ n : Nat, sm lo (fun x => f x - g x) n = sm lo f n - sm lo g n
  | 0 => rfl
  | n + 1 => by
    have := sm_sub (lo := lo) (f := f) (g := g) n
    simp only [sm]
    omega
theorem sm_mul {lo c : Int} {f : Int → Int} : ∀ n : Nat, sm lo (fun x => c * f x) n = c * sm lo f n
  | 0 => by simp [sm]
  | n + 1 => by
    simp only [sm]
    rw [sm_mul n, Int.mul_add]
theorem sm_zero {lo : Int} {f : Int → Int} : ∀ {n : Nat}, (∀ i : Nat, i < n → f (lo + i) = 0) → sm lo f n = 0
  | 0, _ => rfl
  | n + 1, h => by
    show sm lo f n + _ = 0
    rw [sm_zero fun i hi => h i (by omega), h n (by omega)]
    rfl
theorem sm_split {lo : Int} {f : Int → Int} (a : Nat) : ∀ b : Nat, sm lo f (a + b) = sm lo f a + sm (lo + a) f b
  | 0 => by simp [sm]
  | b + 1 => by
    show sm lo f (a + b) + f (lo + ((a + b : Nat) : Int)) = _
    rw [sm_split a b]
    show _ = sm lo f a + (sm (lo + a) f b + f (lo + a + b))
    rw [show lo + ((a + b : Nat) : Int) = lo + a + b by omega]
    omega
theorem sm_nn {lo : Int} {f : Int → Int} : ∀ {n : Nat}, (∀ i : Nat, i < n → 0 ≤ f (lo + i)) → 0 ≤ sm lo f n
  | 0, _ => Int.le_refl 0
  | n + 1, h => by
    have a := sm_nn (lo := lo) (f := f) (n := n) fun i hi => h i (by omega)
    have b := h n (by omega)
    simp only [sm]
    omega
theorem sm_up {lo : Int} {f : Int → Int} (h : ∀ x, 0 ≤ f x) {a b : Nat} (hab : a ≤ b) : sm lo f a ≤ sm lo f b := by
  have e := sm_split (lo := lo) (f := f) a (b - a)
  rw [Nat.add_sub_cancel' hab] at e
  have := sm_nn (lo := lo + a) (f := f) (n := b - a) fun i _ => h _
  omega
theorem sm_ind {lo z : Int} {h : Int → Int} : ∀ n : Nat, sm lo (fun t => if t = z then h t else 0) n = if lo ≤ z ∧ z < lo + n then h z else 0
  | 0 => by
    rw [if_neg (by omega)]
    rfl
  | n + 1 => by
    show sm lo _ n + (if lo + (n : Int) = z then h (lo + n) else 0) = _
    rw [sm_ind n]
    by_cases e : lo + (n : Int) = z
    · rw [if_pos e, if_neg (by omega), if_pos (by omega), e, Int.zero_add]
    · rw [if_neg e, Int.add_zero]
      by_cases c : lo ≤ z ∧ z < lo + n
      · rw [if_pos c, if_pos (by omega)]
      · rw [if_neg c, if_neg (by omega)]
theorem sm_one {lo : Int} {f : Int → Int} : ∀ {n : Nat}, (∀ i : Nat, i < n → f (lo + i) = 1) → sm lo f n = n
  | 0, _ => rfl
  | n + 1, h => by
    show sm lo f n + _ = _
    rw [sm_one fun i hi => h i (by omega), h n (by omega)]
    omega
/-! ## counting -/
/-- is the run x made n long -/
def hit (n : Int) (row : List Int) (x : Int) : Int := if sqz x row = n then 1 else 0
theorem hit_nn (n : Int) (row : List Int) (x : Int) : 0 ≤ hit n row x := by
  unfold hit
  split <;> decide
/-- how many runs up to last are made n long -/
def cnt (n : Int) (row : List Int) (last : Int) : Int := sm 1 (hit n row) last.toNat
theorem cnt_zero {n : Int} {row : List Int} {last : Int} (h : last < 1) : cnt n row last = 0 := by
  unfold cnt
  rw [show last.toNat = 0 by omega]
  rfl
theorem cnt_step {n : Int} {row : List Int} {last : Int} (h : 1 ≤ last) : cnt n row last = cnt n row (last - 1) + hit n row last := by
  unfold cnt
  obtain ⟨j, hj⟩ : ∃ j : Nat, last.toNat = j + 1 := ⟨last.toNat - 1, by omega⟩
  rw [hj, show (last - 1).toNat = j by omega]
  show sm 1 _ j + hit n row (1 + (j : Int)) = _
  rw [show (1 : Int) + j = last by omega]
theorem cnt_up {n : Int} {row : List Int} {a b : Int} (h : a ≤ b) : cnt n row a ≤ cnt n row b := sm_up (hit_nn n row) (by omega)
theorem cnt_nn (n : Int) (row : List Int) (a : Int) : 0 ≤ cnt n row a := sm_nn fun i _ => hit_nn n row _
theorem cnt_nil {n last : Int} (hn : 1 ≤ n) (hl : 1 ≤ last) : cnt n [] last = if n ≤ last then 1 else 0 := by
  unfold cnt
  have e : sm 1 (hit n []) last.toNat = sm 1 (fun x => if x = n then 1 else 0) last.toNat := sm_congr fun i _ => rfl
  rw [e, sm_ind]
  by_cases c : n ≤ last
  · rw [if_pos c, if_pos (by omega)]
  · rw [if_neg c, if_neg (by omega)]
/-- how many runs up to last does k alone make m long -/
def cm (k last m : Int) : Int := sm 0 (fun t => if m * k - t * (k - 1) ≤ last then 1 else 0) (min (k - 1) m + 1).toNat
theorem pre_is {k m t last : Int} (hk : 2 ≤ k) (hl : 1 ≤ last) (t0 : 0 ≤ t) (t1 : t ≤ k - 1) (t2 : t ≤ m) : (m * k - t * (k - 1) = last) ↔ (t = last % k ∧ once last k = m) := by
  have e : m * k - t * (k - 1) = (m - t) * k + t := by
    rw [Int.sub_mul, Int.mul_sub, Int.mul_one]
    omega
  rw [e]
  constructor
  · intro h
    obtain ⟨a, b⟩ := qr_of (q := m - t) (k := k) t0 (by omega)
    rw [h] at a b
    refine ⟨b.symm, ?_⟩
    unfold once
    rw [a, b]
    omega
  · rintro ⟨h1, h2⟩
    unfold once at h2
    have := Int.mul_ediv_add_emod last k
    rw [h1, show m - last % k = last / k by omega, Int.mul_comm]
    omega
theorem cm_step {k m last : Int} (hk : 2 ≤ k) (hm : 1 ≤ m) (hl : 1 ≤ last) : cm k last m - cm k (last - 1) m = if m = once last k then 1 else 0 := by
  unfold cm
  rw [← sm_sub]
  have e : sm 0 (fun t => (if m * k - t * (k - 1) ≤ last then (1 : Int) else 0) - if m * k - t * (k - 1) ≤ last - 1 then 1 else 0) (min (k - 1) m + 1).toNat =
      sm 0 (fun t => if t = last % k then (if m = once last k then 1 else 0) else 0) (min (k - 1) m + 1).toNat := sm_congr fun i hi => by
    have p := pre_is (k := k) (m := m) (t := 0 + (i : Int)) (last := last) hk hl (by omega) (by omega) (by omega)
    by_cases c1 : m * k - (0 + (i : Int)) * (k - 1) ≤ last - 1
    · rw [if_pos (by omega), if_pos c1]
      by_cases c2 : 0 + (i : Int) = last % k
      · rw [if_pos c2, if_neg fun c3 => by
          have := p.mpr ⟨c2, c3.symm⟩
          omega]
        rfl
      · rw [if_neg c2]
        rfl
    · rw [if_neg c1]
      by_cases c3 : m * k - (0 + (i : Int)) * (k - 1) ≤ last
      · obtain ⟨p1, p2⟩ := p.mp (by omega)
        rw [if_pos c3, if_pos p1, if_pos p2.symm]
        rfl
      · rw [if_neg c3]
        by_cases c2 : 0 + (i : Int) = last % k
        · rw [if_pos c2, if_neg fun c4 => c3 (by
            have := p.mpr ⟨c2, c4.symm⟩
            omega)]
          rfl
        · rw [if_neg c2]
          rfl
  rw [e, sm_ind]
  by_cases c : m = once last k
  · rw [if_pos c]
    have h1 := Int.emod_nonneg last (show k ≠ 0 by omega)
    have h2 := Int.emod_lt_of_pos last (show 0 < k by omega)
    have h3 : 0 ≤ last / k := Int.ediv_nonneg (by omega) (by omega)
    unfold once at c
    rw [if_pos (by omega)]
  · rw [if_neg c]
    split <;> rfl
theorem cm_zero {k m : Int} (hk : 2 ≤ k) (hm : 1 ≤ m) : cm k 0 m = 0 := by
  refine sm_zero fun i hi => if_neg ?_
  have e : m * k - (0 + (i : Int)) * (k - 1) = (m - i) * k + i := by
    rw [Int.zero_add, Int.sub_mul, Int.mul_sub, Int.mul_one]
    omega
  rw [e]
  have := Int.mul_nonneg (show 0 ≤ m - i by omega) (show 0 ≤ k by omega)
  rcases Nat.eq_zero_or_pos i with z | z
  · have := Int.mul_le_mul (show (1 : Int) ≤ m - i by omega) hk (by decide) (by omega)
    omega
  · omega
theorem cnt_cons {n k : Int} {r : List Int} (hk : 2 ≤ k) (B : Nat) : ∀ a : Nat, a ≤ B → cnt n (k :: r) a = sm 1 (fun m => hit n r m * cm k a m) B
  | 0, _ => by
    rw [cnt_zero (by decide)]
    symm
    exact sm_zero fun i _ => by
      show hit n r (1 + i) * cm k 0 (1 + i) = 0
      rw [cm_zero hk (by omega), Int.mul_zero]
  | a + 1, h => by
    have hl : (1 : Int) ≤ ((a + 1 : Nat) : Int) := by omega
    have ih := cnt_cons hk B a (by omega) (n := n) (r := r)
    rw [cnt_step hl, show ((a + 1 : Nat) : Int) - 1 = (a : Int) by omega, ih]
    have e : sm 1 (fun m => hit n r m * cm k ((a + 1 : Nat) : Int) m) B = sm 1 (fun m => hit n r m * cm k (a : Int) m + (if m = once ((a + 1 : Nat) : Int) k then hit n r m else 0)) B := sm_congr fun i _ => by
      have st := cm_step (k := k) (m := 1 + (i : Int)) (last := ((a + 1 : Nat) : Int)) hk (by omega) hl
      rw [show ((a + 1 : Nat) : Int) - 1 = (a : Int) by omega] at st
      have e2 : cm k ((a + 1 : Nat) : Int) (1 + (i : Int)) = cm k (a : Int) (1 + i) + (if 1 + (i : Int) = once ((a + 1 : Nat) : Int) k then 1 else 0) := by omega
      show hit n r (1 + i) * cm k ((a + 1 : Nat) : Int) (1 + i) = hit n r (1 + i) * cm k (a : Int) (1 + i) + _
      rw [e2, Int.mul_add]
      split <;> simp
    rw [e, sm_add, sm_ind, if_pos ⟨once_pos hl hk, by
      have := once_le (show (0 : Int) ≤ ((a + 1 : Nat) : Int) by omega) hk
      omega⟩]
    rfl
/-- all of them -/
theorem cm_all {k m last : Int} (hk : 2 ≤ k) (hm : 1 ≤ m) (h : m ≤ last / k) : cm k last m = k - (if m ≤ k - 2 then k - m - 1 else 0) := by
  have e : cm k last m = ((min (k - 1) m + 1).toNat : Int) := sm_one fun i hi => if_pos (by
    have h1 : m * k ≤ last := (Int.le_ediv_iff_mul_le (by omega)).mp h
    have := Int.mul_nonneg (show (0 : Int) ≤ 0 + (i : Int) by omega) (show 0 ≤ k - 1 by omega)
    omega)
  rw [e]
  split <;> omega
/-- none of them -/
theorem cm_none {k m last : Int} (hk : 2 ≤ k) (hm : 1 ≤ m) (h : (last + (k - 1) * (k - 1)) / k < m) : cm k last m = 0 := by
  refine sm_zero fun i hi => if_neg fun c => ?_
  have h1 : last + (k - 1) * (k - 1) < m * k := (Int.ediv_lt_iff_lt_mul (by omega)).mp h
  have h2 : (0 + (i : Int)) * (k - 1) ≤ (k - 1) * (k - 1) := Int.mul_le_mul_of_nonneg_right (by omega) (by omega)
  omega
/-- what the program adds up -/
theorem cnt_code {n k last : Int} {r : List Int} (hk : 2 ≤ k) (hl : 1 ≤ last) :
    cnt n (k :: r) last = k * cnt n r (last / k) - sm 1 (fun m => hit n r m * (k - m - 1)) (min (last / k) (k - 2)).toNat +
      sm (last / k + 1) (fun m => hit n r m * cm k last m) ((last + (k - 1) * (k - 1)) / k - last / k).toNat := by
  have hk0 : (0 : Int) < k := by omega
  have q0 : 0 ≤ last / k := Int.ediv_nonneg (by omega) (by omega)
  have sq := Int.mul_nonneg (show 0 ≤ k - 1 by omega) (show 0 ≤ k - 1 by omega)
  have q1 : last / k ≤ (last + (k - 1) * (k - 1)) / k := Int.ediv_le_ediv hk0 (by omega)
  generalize hU : (last + (k - 1) * (k - 1)) / k = U at *
  generalize hL : last / k = L at *
  have e0 := cnt_cons (n := n) (r := r) hk (L.toNat + ((U - L).toNat + last.toNat)) last.toNat (by omega)
  rw [show ((last.toNat : Nat) : Int) = last by omega] at e0
  rw [e0, sm_split, sm_split]
  have e3 : sm (1 + (L.toNat : Int) + ((U - L).toNat : Int)) (fun m => hit n r m * cm k last m) last.toNat = 0 := sm_zero fun i _ => by
    show hit n r _ * cm k last _ = 0
    rw [cm_none hk (by omega) (by omega), Int.mul_zero]
  have e1 : sm 1 (fun m => hit n r m * cm k last m) L.toNat = sm 1 (fun m => k * hit n r m - (if m ≤ k - 2 then hit n r m * (k - m - 1) else 0)) L.toNat := sm_congr fun i _ => by
    show hit n r (1 + i) * cm k last (1 + i) = k * hit n r (1 + i) - _
    rw [cm_all hk (by omega) (by omega), Int.mul_sub, Int.mul_comm]
    split <;> simp
  have e2 : sm 1 (fun m => if m ≤ k - 2 then hit n r m * (k - m - 1) else 0) L.toNat = sm 1 (fun m => hit n r m * (k - m - 1)) (min L (k - 2)).toNat := by
    rw [show L.toNat = (min L (k - 2)).toNat + (L.toNat - (min L (k - 2)).toNat) by omega, sm_split]
    rw [sm_zero (n := L.toNat - (min L (k - 2)).toNat) fun i hi => if_neg (by omega), Int.add_zero]
    exact sm_congr fun i hi => if_pos (by omega)
  rw [e3, e1, sm_sub, e2, Int.add_zero, sm_mul, show (1 : Int) + (L.toNat : Int) = L + 1 by omega]
  rfl
/-- what the law's own counting adds up -/
def allOf (goal : Int) : List Int → Int
  | [] => 1
  | k :: r => k * allOf goal r - sm 1 (fun m => hit goal r m * (k - m - 1)) (k - 2).toNat
theorem hit_far {goal m : Int} {r : List Int} (t : Two r) (hm : 0 ≤ m) (h : goal * prodL r < m) : hit goal r m = 0 := by
  refine if_neg fun e => ?_
  have := sqz_ge hm t
  rw [e, Int.mul_comm] at this
  omega
theorem all_is {goal : Int} (hg : 1 ≤ goal) : ∀ {row : List Int}, Two row → allOf goal row = cnt goal row (goal * prodL row)
  | [], _ => by
    rw [show goal * prodL [] = goal by simp [prodL], cnt_nil hg hg, if_pos (Int.le_refl _)]
    rfl
  | k :: r, h => by
    have t : Two r := fun j hj => h j (List.mem_cons_of_mem _ hj)
    have hk := h k (List.mem_cons_self ..)
    have ih := all_is hg t
    have p := prodL_pos t
    have gp : 1 ≤ goal * prodL r := Int.mul_pos (by omega) (by omega)
    have e : goal * prodL (k :: r) = goal * prodL r * k := by
      rw [prodL_cons, Int.mul_comm k, Int.mul_assoc]
    have l1 : 1 ≤ goal * prodL r * k := Int.mul_pos (by omega) (by omega)
    rw [e, cnt_code hk l1, Int.mul_ediv_cancel _ (by omega), ← ih]
    generalize hL : goal * prodL r = L at *
    have z : sm (L + 1) (fun m => hit goal r m * cm k (L * k) m) (((L * k) + (k - 1) * (k - 1)) / k - L).toNat = 0 := sm_zero fun i _ => by
      show hit goal r _ * _ = 0
      rw [hit_far t (by omega) (by omega), Int.zero_mul]
    rw [z, Int.add_zero]
    show k * allOf goal r - _ = _
    congr 1
    rcases Int.le_total L (k - 2) with c | c
    · rw [show (k - 2).toNat = (min L (k - 2)).toNat + ((k - 2).toNat - (min L (k - 2)).toNat) by omega, sm_split]
      rw [sm_zero (n := (k - 2).toNat - (min L (k - 2)).toNat) fun i hi => by
        show hit goal r _ * _ = 0
        rw [hit_far t (by omega) (by omega), Int.zero_mul], Int.add_zero]
    · rw [show (min L (k - 2)).toNat = (k - 2).toNat by omega]
theorem cnt_far {goal last : Int} {row : List Int} (t : Two row) (hg : 1 ≤ goal) (h : goal * prodL row ≤ last) : cnt goal row last = cnt goal row (goal * prodL row) := by
  have p := prodL_pos t
  have gp : 1 ≤ goal * prodL row := Int.mul_pos (by omega) (by omega)
  unfold cnt
  rw [show last.toNat = (goal * prodL row).toNat + (last.toNat - (goal * prodL row).toNat) by omega, sm_split]
  rw [sm_zero (n := last.toNat - (goal * prodL row).toNat) fun i hi => hit_far t (by omega) (by omega), Int.add_zero]
theorem sm_le {lo : Int} {f : Int → Int} (h : ∀ x, f x ≤ 1) : ∀ n : Nat, sm lo f n ≤ n
  | 0 => Int.le_refl 0
  | n + 1 => by
    have := sm_le (lo := lo) h n
    have := h (lo + n)
    simp only [sm]
    omega
theorem cnt_le {n last : Int} {row : List Int} (h : 0 ≤ last) : cnt n row last ≤ last := by
  have := sm_le (lo := 1) (f := hit n row) (fun x => by unfold hit; split <;> decide) last.toNat
  unfold cnt
  omega
/-- what k alone makes m long, the greatest first -/
def befores (m k : Int) : List Int := (List.range (min (k - 1) m + 1).toNat).map fun (t : Nat) => m * k - (0 + (t : Int)) * (k - 1)
theorem sm_filter {last : Int} (f : Int → Int) : ∀ n : Nat, sm 0 (fun t => if f t ≤ last then 1 else 0) n = ((((List.range n).map fun (t : Nat) => f (0 + (t : Int))).filter fun x => decide (x ≤ last)).length : Int)
  | 0 => rfl
  | n + 1 => by
    show sm 0 _ n + (if f (0 + (n : Int)) ≤ last then 1 else 0) = _
    rw [sm_filter f n, List.range_succ, List.map_append, List.filter_append, List.length_append]
    by_cases c : f (0 + (n : Int)) ≤ last
    · rw [if_pos c]
      simp only [List.map_cons, List.map_nil, List.filter_cons, c, decide_true, if_true, List.filter_nil, List.length_singleton]
      omega
    · rw [if_neg c]
      simp only [List.map_cons, List.map_nil, List.filter_cons, c, decide_false, Bool.false_eq_true, if_false, List.filter_nil, List.length_nil]
      omega
theorem cm_len (k last m : Int) : cm k last m = (((befores m k).filter fun x => decide (x ≤ last)).length : Int) := sm_filter (fun t => m * k - t * (k - 1)) _
theorem foldl_mul (row : List Int) : ∀ a : Int, row.foldl (fun x k => x * k) a = a * prodL row := by
  induction row with
  | nil => intro a; simp [prodL]
  | cons k r ih =>
    intro a
    rw [List.foldl_cons, ih, prodL_cons, Int.mul_assoc]
end Sq


/-! all origins of a length, and sums of their counts -/
namespace Sq
theorem sm_comm {a b : Int} {f : Int → Int → Int} (m : Nat) : ∀ n : Nat, sm a (fun x => sm b (f x) m) n = sm b (fun y => sm a (fun x => f x y) n) m
  | 0 => by
    symm
    exact sm_zero fun i _ => rfl
  | n + 1 => by
    show sm a _ n + sm b (f (a + n)) m = _
    rw [sm_comm m n, ← sm_add]
    rfl
/-- the count with the length 0 -/
def cnt0 (n : Int) (row : List Int) (last : Int) : Int := if 0 < n then cnt n row last else 1
theorem cnt0_sum {row : List Int} {last T : Int} (h : Two row) (h0 : 0 ≤ last) (T0 : 0 ≤ T) (hT : ∀ x, 1 ≤ x → x ≤ last → sqz x row ≤ T) : sm 0 (fun g => cnt0 g row last) (T.toNat + 1) = last + 1 := by
  have e1 := sm_split (lo := 0) (f := fun g => cnt0 g row last) 1 T.toNat
  rw [Nat.add_comm 1] at e1
  rw [e1]
  have e2 : sm 0 (fun g => cnt0 g row last) 1 = 1 := by
    show 0 + cnt0 (0 + ((0 : Nat) : Int)) row last = 1
    rfl
  have e3 : sm (0 + ((1 : Nat) : Int)) (fun g => cnt0 g row last) T.toNat = sm 1 (fun g => sm 1 (fun x => hit g row x) last.toNat) T.toNat := by
    refine sm_congr fun i hi => ?_
    show cnt0 _ row last = cnt _ row last
    unfold cnt0
    rw [if_pos (by omega)]
  have e4 : sm 1 (fun x => sm 1 (fun g => hit g row x) T.toNat) last.toNat = (last.toNat : Int) := by
    refine sm_one fun i hi => ?_
    have a := sqz_pos (n := 1 + (i : Int)) (by omega) h
    have b := hT (1 + (i : Int)) (by omega) (by omega)
    have c : sm 1 (fun g => hit g row (1 + (i : Int))) T.toNat = sm 1 (fun t => if t = sqz (1 + (i : Int)) row then (fun _ => (1 : Int)) t else 0) T.toNat := sm_congr fun j _ => by
      show (if sqz (1 + (i : Int)) row = 1 + (j : Int) then (1 : Int) else 0) = if 1 + (j : Int) = sqz (1 + (i : Int)) row then 1 else 0
      by_cases z : sqz (1 + (i : Int)) row = 1 + (j : Int)
      · rw [if_pos z, if_pos z.symm]
      · rw [if_neg z, if_neg fun z2 => z z2.symm]
    show sm 1 (fun g => hit g row (1 + (i : Int))) T.toNat = 1
    rw [c, sm_ind, if_pos (by omega)]
  rw [e2, e3, sm_comm, e4]
  omega
theorem cnt0_next {g : Int} {row : List Int} {last : Int} (h0 : 0 ≤ last) (hn : sqz (last + 1) row ≠ g) : cnt0 g row (last + 1) = cnt0 g row last := by
  unfold cnt0
  split
  · rw [cnt_step (by omega), show last + 1 - 1 = last by omega]
    unfold hit
    rw [if_neg hn, Int.add_zero]
  · rfl
theorem slack_sum : ∀ {ns : List Int}, slack ns ≤ ns.sum
  | [] => by decide
  | k :: r => by
    have := slack_sum (ns := r)
    rw [slack_cons, List.sum_cons]
    omega
theorem sqz_top {row : List Int} {x last : Int} (h : Two row) (h0 : 0 ≤ x) (hl : x ≤ last) : sqz x row ≤ last / prodL row + row.sum := by
  have a := sqz_up h0 h
  have p := prodL_pos h
  have b : prodL row * (sqz x row - slack row) ≤ last := by
    rw [Int.mul_sub]
    omega
  rw [Int.mul_comm] at b
  have c := Int.le_ediv_of_mul_le (by omega) b
  have := slack_sum (ns := row)
  omega
/-! ### all origins -/
def orig (goal : Int) (row : List Int) : List Int := row.foldr (fun k acc => acc.flatMap fun m => befores m k) [goal]
theorem orig_cons (goal k : Int) (r : List Int) : orig goal (k :: r) = (orig goal r).flatMap fun m => befores m k := rfl
theorem mem_befores {m k x : Int} (hk : 2 ≤ k) (hm : 0 ≤ m) (h : x ∈ befores m k) : once x k = m ∧ 0 ≤ x ∧ x ≤ m * k := by
  unfold befores at h
  obtain ⟨t, ht, rfl⟩ := List.mem_map.mp h
  have ht := List.mem_range.mp ht
  have e : m * k - (0 + (t : Int)) * (k - 1) = (m - t) * k + t := by
    rw [Int.zero_add, Int.sub_mul, Int.mul_sub, Int.mul_one]
    omega
  have t0 : (0 : Int) ≤ (0 + (t : Int)) * (k - 1) := Int.mul_nonneg (by omega) (by omega)
  refine ⟨?_, ?_, by omega⟩
  · rw [e, once_qr (by omega) (by omega)]
    omega
  · rw [e]
    have := Int.mul_nonneg (show (0 : Int) ≤ m - t by omega) (show (0 : Int) ≤ k by omega)
    omega
theorem mem_orig {goal : Int} (h0 : 0 ≤ goal) : ∀ {row : List Int}, Two row → ∀ x ∈ orig goal row, sqz x row = goal ∧ 0 ≤ x ∧ x ≤ goal * prodL row
  | [], _, x, hx => by
    rw [List.mem_singleton.mp hx]
    exact ⟨rfl, h0, by simp [prodL]⟩
  | k :: r, h, x, hx => by
    have t : Two r := fun j hj => h j (List.mem_cons_of_mem _ hj)
    have hk := h k (List.mem_cons_self ..)
    rw [orig_cons] at hx
    obtain ⟨m, hm, hx⟩ := List.mem_flatMap.mp hx
    obtain ⟨a, b, c⟩ := mem_orig h0 t m hm
    obtain ⟨d, e, f⟩ := mem_befores hk b hx
    refine ⟨by rw [sqz_cons, d, a], e, Int.le_trans f ?_⟩
    rw [prodL_cons, Int.mul_comm k, ← Int.mul_assoc]
    exact Int.mul_le_mul_of_nonneg_right c (by omega)
theorem befores_le {m k : Int} (hk : 2 ≤ k) : ((befores m k).length : Int) ≤ k := by
  unfold befores
  rw [List.length_map, List.length_range]
  omega
theorem len_flat {k : Int} (hk : 2 ≤ k) : ∀ l : List Int, ((l.flatMap fun m => befores m k).length : Int) ≤ l.length * k
  | [] => by simp
  | a :: l => by
    have i := len_flat hk l
    have b := befores_le (m := a) hk
    rw [List.flatMap_cons, List.length_append, List.length_cons]
    have : (((l.length + 1 : Nat) : Int)) * k = l.length * k + k := by
      rw [Int.natCast_add, Int.add_mul]
      simp
    rw [this]
    omega
theorem len_orig {goal : Int} : ∀ {row : List Int}, Two row → ((orig goal row).length : Int) ≤ prodL row
  | [], _ => by simp [orig, prodL]
  | k :: r, h => by
    have t : Two r := fun j hj => h j (List.mem_cons_of_mem _ hj)
    have hk := h k (List.mem_cons_self ..)
    have i := len_orig (goal := goal) t
    have a := len_flat hk (orig goal r)
    rw [orig_cons, prodL_cons, Int.mul_comm k]
    exact Int.le_trans a (Int.mul_le_mul_of_nonneg_right i (by omega))
/-- the sum of f over a list -/
def sf (f : Int → Int) (l : List Int) : Int := (l.map f).sum
theorem sf_cons (f : Int → Int) (a : Int) (l : List Int) : sf f (a :: l) = f a + sf f l := by
  unfold sf
  rw [List.map_cons, List.sum_cons]
theorem sf_app (f : Int → Int) (a b : List Int) : sf f (a ++ b) = sf f a + sf f b := by
  unfold sf
  rw [List.map_append, List.sum_append]
theorem sf_flat (f : Int → Int) (g : Int → List Int) : ∀ l : List Int, sf f (l.flatMap g) = sf (fun m => sf f (g m)) l
  | [] => rfl
  | a :: l => by rw [List.flatMap_cons, sf_app, sf_flat f g l, sf_cons]
theorem sf_one : ∀ l : List Int, sf (fun _ => 1) l = l.length
  | [] => rfl
  | a :: l => by
    rw [sf_cons, sf_one l, List.length_cons]
    omega
theorem sf_range (f g : Int → Int) : ∀ n : Nat, sf f ((List.range n).map fun (t : Nat) => g (0 + (t : Int))) = sm 0 (fun t => f (g t)) n
  | 0 => rfl
  | n + 1 => by
    rw [List.range_succ, List.map_append, sf_app, sf_range f g n]
    show _ + sf f [g (0 + (n : Int))] = sm 0 _ n + f (g (0 + n))
    rw [sf_cons]
    simp [sf]
theorem sf_befores {m k : Int} (hk : 2 ≤ k) (hm : 1 ≤ m) (f : Int → Int) {B : Nat} (hB : m * k ≤ B) : sf f (befores m k) = sm 1 (fun x => if once x k = m then f x else 0) B := by
  unfold befores
  rw [sf_range f fun t => m * k - t * (k - 1)]
  have e1 : sm 0 (fun t => f (m * k - t * (k - 1))) (min (k - 1) m + 1).toNat = sm 0 (fun t => sm 1 (fun x => if x = m * k - t * (k - 1) then f x else 0) B) (min (k - 1) m + 1).toNat := sm_congr fun i hi => by
    have e : m * k - (0 + (i : Int)) * (k - 1) = (m - i) * k + i := by
      rw [Int.zero_add, Int.sub_mul, Int.mul_sub, Int.mul_one]
      omega
    have t0 : (0 : Int) ≤ (0 + (i : Int)) * (k - 1) := Int.mul_nonneg (by omega) (by omega)
    have p : 1 ≤ m * k - (0 + (i : Int)) * (k - 1) := by
      rw [e]
      rcases Int.lt_or_le (i : Int) m with c | c
      · have := Int.mul_le_mul (show (1 : Int) ≤ m - i by omega) hk (by decide) (by omega)
        omega
      · have : m - (i : Int) = 0 := by omega
        rw [this]
        omega
    show f _ = sm 1 (fun x => if x = m * k - (0 + (i : Int)) * (k - 1) then f x else 0) B
    rw [sm_ind, if_pos ⟨p, by omega⟩]
  rw [e1, sm_comm]
  refine sm_congr fun i hi => ?_
  show sm 0 (fun t => if 1 + (i : Int) = m * k - t * (k - 1) then f (1 + i) else 0) _ = if once (1 + (i : Int)) k = m then f (1 + i) else 0
  generalize hx : 1 + (i : Int) = x
  have x1 : 1 ≤ x := by omega
  by_cases c : once x k = m
  · rw [if_pos c]
    have e2 : sm 0 (fun t => if x = m * k - t * (k - 1) then f x else 0) (min (k - 1) m + 1).toNat = sm 0 (fun t => if t = x % k then (fun _ => f x) t else 0) (min (k - 1) m + 1).toNat := sm_congr fun j hj => by
      have z := pre_is (t := 0 + (j : Int)) hk x1 (by omega) (by omega) (m := m) (by omega)
      show (if x = m * k - (0 + (j : Int)) * (k - 1) then f x else 0) = if 0 + (j : Int) = x % k then f x else 0
      by_cases y : 0 + (j : Int) = x % k
      · rw [if_pos y, if_pos (z.mpr ⟨y, c⟩).symm]
      · rw [if_neg y, if_neg fun y2 => y (z.mp y2.symm).1]
    have r0 := Int.emod_nonneg x (show k ≠ 0 by omega)
    have r1 := Int.emod_lt_of_pos x (show 0 < k by omega)
    have r2 := Int.ediv_nonneg (show 0 ≤ x by omega) (show 0 ≤ k by omega)
    have r3 : x % k ≤ m := by
      unfold once at c
      omega
    rw [e2, sm_ind, if_pos (by omega)]
  · rw [if_neg c]
    refine sm_zero fun j hj => ?_
    have z := pre_is (t := 0 + (j : Int)) hk x1 (by omega) (by omega) (m := m) (by omega)
    show (if x = m * k - (0 + (j : Int)) * (k - 1) then f x else 0) = 0
    rw [if_neg fun y2 => c (z.mp y2.symm).2]
theorem sf_orig {goal : Int} (hg : 1 ≤ goal) : ∀ {row : List Int}, Two row → ∀ (f : Int → Int) (B : Nat), goal * prodL row ≤ B → sf f (orig goal row) = sm 1 (fun x => hit goal row x * f x) B
  | [], _, f, B, hB => by
    have e : sm 1 (fun x => hit goal [] x * f x) B = sm 1 (fun x => if x = goal then f x else 0) B := sm_congr fun i _ => by
      show (if 1 + (i : Int) = goal then (1 : Int) else 0) * f _ = _
      split
      · exact Int.one_mul _
      · exact Int.zero_mul _
    have hB : goal ≤ B := by simpa [prodL] using hB
    rw [e, sm_ind, if_pos (by omega)]
    show sf f [goal] = _
    rw [sf_cons]
    simp [sf]
  | k :: r, h, f, B, hB => by
    have t : Two r := fun j hj => h j (List.mem_cons_of_mem _ hj)
    have hk := h k (List.mem_cons_self ..)
    have p := prodL_pos t
    have gp : 1 ≤ goal * prodL r := Int.mul_pos (by omega) (by omega)
    have eB : goal * prodL (k :: r) = goal * prodL r * k := by rw [prodL_cons, Int.mul_comm k, ← Int.mul_assoc]
    rw [eB] at hB
    have ih := sf_orig hg t (fun m => sf f (befores m k)) (goal * prodL r).toNat (by omega)
    rw [orig_cons, sf_flat, ih]
    have e1 : sm 1 (fun x => hit goal r x * sf f (befores x k)) (goal * prodL r).toNat = sm 1 (fun m => sm 1 (fun x => hit goal r m * (if once x k = m then f x else 0)) B) (goal * prodL r).toNat := sm_congr fun i hi => by
      show hit goal r _ * sf f (befores (1 + (i : Int)) k) = sm 1 (fun x => hit goal r (1 + (i : Int)) * _) B
      rw [sm_mul (f := fun x => if once x k = 1 + (i : Int) then f x else 0), sf_befores hk (by omega) f (B := B)]
      refine Int.le_trans (Int.mul_le_mul_of_nonneg_right (show 1 + (i : Int) ≤ goal * prodL r by omega) (by omega)) hB
    rw [e1, sm_comm]
    refine sm_congr fun i hi => ?_
    show sm 1 (fun m => hit goal r m * (if once (1 + (i : Int)) k = m then f (1 + i) else 0)) _ = hit goal (k :: r) (1 + (i : Int)) * f (1 + i)
    generalize hx : 1 + (i : Int) = x
    have x1 : 1 ≤ x := by omega
    have o1 := once_pos x1 hk
    have e2 : sm 1 (fun m => hit goal r m * (if once x k = m then f x else 0)) (goal * prodL r).toNat = sm 1 (fun m => if m = once x k then (fun m => hit goal r m * f x) m else 0) (goal * prodL r).toNat := sm_congr fun j _ => by
      show hit goal r (1 + (j : Int)) * (if once x k = 1 + (j : Int) then f x else 0) = if 1 + (j : Int) = once x k then hit goal r (1 + (j : Int)) * f x else 0
      by_cases y : 1 + (j : Int) = once x k
      · rw [if_pos y, if_pos y.symm]
      · rw [if_neg y, if_neg fun y2 => y y2.symm, Int.mul_zero]
    rw [e2, sm_ind]
    show _ = hit goal r (once x k) * f x
    by_cases c : once x k ≤ goal * prodL r
    · rw [if_pos (by omega)]
    · rw [if_neg (by omega), hit_far t (by omega) (by omega), Int.zero_mul]
theorem orig_zero : ∀ {row : List Int}, Two row → orig 0 row = [0]
  | [], _ => rfl
  | k :: r, h => by
    have t : Two r := fun j hj => h j (List.mem_cons_of_mem _ hj)
    have hk := h k (List.mem_cons_self ..)
    rw [orig_cons, orig_zero t]
    show befores 0 k ++ [] = [0]
    unfold befores
    rw [show (min (k - 1) 0 + 1).toNat = 1 by omega]
    simp
/-- as many as are counted -/
theorem orig_len {goal : Int} {row : List Int} (h0 : 0 ≤ goal) (h : Two row) : ((orig goal row).length : Int) = cnt0 goal row (goal * prodL row) := by
  unfold cnt0
  split
  · rename_i g
    have p := prodL_pos h
    have gp : 1 ≤ goal * prodL row := Int.mul_pos (by omega) (by omega)
    rw [← sf_one, sf_orig (by omega) h (fun _ => 1) (goal * prodL row).toNat (by omega)]
    unfold cnt
    exact sm_congr fun i _ => Int.mul_one _
  · rename_i g
    rw [show goal = 0 by omega, orig_zero h]
    rfl
end Sq


namespace Sq
/-! ## a run that two different lists make to different lengths -/
theorem sqz_prod {ns : List Int} (h : Two ns) : sqz (prodL ns) ns = 1 := by
  have e := sqz_mul (m := 1) h
  rw [Int.one_mul] at e
  exact e
theorem sqz_far {ns : List Int} {n : Int} (h : Two ns) (hn : prodL ns < n) : 2 ≤ sqz n ns := by
  have p := prodL_pos h
  have g := sqz_ge (show 0 ≤ n by omega) h
  have s1 : 1 ≤ sqz n ns := sqz_pos (by omega) h
  rcases (show sqz n ns = 1 ∨ 2 ≤ sqz n ns by omega) with z | z
  · rw [z, Int.mul_one] at g
    omega
  · exact z
/-- products differ -/
theorem part_max {as bs : List Int} (ha : Two as) (hb : Two bs) (h : prodL as ≠ prodL bs) {n : Int} (hn : n = if prodL bs > prodL as then prodL bs else prodL as) : 1 ≤ n ∧ sqz n as ≠ sqz n bs := by
  have pa := prodL_pos ha
  have pb := prodL_pos hb
  by_cases c : prodL bs > prodL as
  · rw [if_pos c] at hn
    subst hn
    have e := sqz_prod hb
    have f := sqz_far ha c
    exact ⟨pb, by omega⟩
  · rw [if_neg c] at hn
    subst hn
    have e := sqz_prod ha
    have f := sqz_far hb (n := prodL as) (by omega)
    exact ⟨pa, by omega⟩
theorem part_head {a b : Int} {r t : List Int} (ha : 2 ≤ a) (hr : Two r) (hb : 2 ≤ b) (ht : Two t) (hp : a * prodL r = b * prodL t) (lt : a < b) :
    1 ≤ a * prodL r - a + 1 ∧ sqz (a * prodL r - a + 1) (a :: r) = 1 ∧ 2 ≤ sqz (a * prodL r - a + 1) (b :: t) := by
  have pr := prodL_pos hr
  have pt := prodL_pos ht
  have e1 : a * prodL r - a + 1 = (prodL r - 1) * a + 1 := by
    rw [Int.sub_mul, Int.one_mul, Int.mul_comm a]
  have e2 : a * prodL r - a + 1 = (prodL t - 1) * b + (b - a + 1) := by
    rw [hp, Int.sub_mul, Int.one_mul, Int.mul_comm b]
    omega
  refine ⟨?_, ?_, ?_⟩
  · have := Int.mul_nonneg (show 0 ≤ prodL r - 1 by omega) (show 0 ≤ a by omega)
    omega
  · rw [sqz_cons, e1, once_qr (by omega) (by omega), show prodL r - 1 + 1 = prodL r by omega]
    exact sqz_prod hr
  · rw [sqz_cons, e2, once_qr (by omega) (by omega)]
    exact sqz_far ht (by omega)
theorem pre_mul {pre r : List Int} (h : Two pre) (m : Int) : sqz (m * prodL pre) (pre ++ r) = sqz m r := by
  rw [sqz_app, sqz_mul h]
/-- the first place where they differ -/
theorem part_at {as bs : List Int} {j : Nat} {a b : Int} (ha : Two as) (hb : Two bs) (hp : prodL as = prodL bs) (hj : ∀ i, i < j → as[i]? = bs[i]?) (ea : as[j]? = some a) (eb : bs[j]? = some b) (ne : a ≠ b) :
    let n := (prodL (as.drop j) - (if b < a then b else a) + 1) * prodL (as.take j)
    1 ≤ n ∧ sqz n as ≠ sqz n bs := by
  intro n
  have tk : as.take j = bs.take j := by
    apply List.ext_getElem?
    intro i
    rw [List.getElem?_take, List.getElem?_take]
    split
    · exact hj i (by assumption)
    · rfl
  obtain ⟨la, ga⟩ := List.getElem?_eq_some_iff.mp ea
  obtain ⟨lb, gb⟩ := List.getElem?_eq_some_iff.mp eb
  have da : as.drop j = a :: as.drop (j + 1) := by rw [List.drop_eq_getElem_cons la, ga]
  have db : bs.drop j = b :: bs.drop (j + 1) := by rw [List.drop_eq_getElem_cons lb, gb]
  have sa : as = as.take j ++ (a :: as.drop (j + 1)) := by rw [← da, List.take_append_drop]
  have sb : bs = as.take j ++ (b :: bs.drop (j + 1)) := by rw [tk, ← db, List.take_append_drop]
  have tp : Two (as.take j) := fun k hk => ha k (List.mem_of_mem_take hk)
  have tr : Two (as.drop (j + 1)) := fun k hk => ha k (List.mem_of_mem_drop hk)
  have tt : Two (bs.drop (j + 1)) := fun k hk => hb k (List.mem_of_mem_drop hk)
  have a2 := ha a (List.mem_of_getElem? ea)
  have b2 := hb b (List.mem_of_getElem? eb)
  have pp := prodL_pos tp
  have eq : a * prodL (as.drop (j + 1)) = b * prodL (bs.drop (j + 1)) := by
    have h1 : prodL as = prodL (as.take j) * (a * prodL (as.drop (j + 1))) := by
      conv => lhs; rw [sa, prodL_app, prodL_cons]
    have h2 : prodL bs = prodL (as.take j) * (b * prodL (bs.drop (j + 1))) := by
      conv => lhs; rw [sb, prodL_app, prodL_cons]
    rw [h1, h2] at hp
    exact Int.eq_of_mul_eq_mul_left (by omega) hp
  have nd : prodL (as.drop j) = a * prodL (as.drop (j + 1)) := by rw [da, prodL_cons]
  have key : ∀ m, sqz (m * prodL (as.take j)) as = sqz m (a :: as.drop (j + 1)) ∧ sqz (m * prodL (as.take j)) bs = sqz m (b :: bs.drop (j + 1)) := fun m => ⟨by
    conv => lhs; arg 2; rw [sa]
    exact pre_mul tp m, by
    conv => lhs; arg 2; rw [sb]
    exact pre_mul tp m⟩
  have pos : ∀ m, 1 ≤ m → 1 ≤ m * prodL (as.take j) := fun m hm => by
    have := Int.mul_le_mul hm pp (by decide) (by omega)
    omega
  show 1 ≤ (prodL (as.drop j) - (if b < a then b else a) + 1) * prodL (as.take j) ∧ _
  rw [show n = (prodL (as.drop j) - (if b < a then b else a) + 1) * prodL (as.take j) from rfl, nd, (key _).1, (key _).2]
  by_cases c : b < a
  · rw [if_pos c, eq]
    obtain ⟨h1, h2, h3⟩ := part_head b2 tt a2 tr eq.symm c
    exact ⟨pos _ h1, by omega⟩
  · rw [if_neg c]
    obtain ⟨h1, h2, h3⟩ := part_head a2 tr b2 tt eq (by omega)
    exact ⟨pos _ h1, by omega⟩
/-- there is such a place -/
theorem part_has : ∀ {as bs : List Int}, Two as → Two bs → prodL as = prodL bs → as ≠ bs → ∃ (j : Nat) (a b : Int), as[j]? = some a ∧ bs[j]? = some b ∧ a ≠ b ∧ ∀ i, i < j → as[i]? = bs[i]?
  | [], [], _, _, _, ne => absurd rfl ne
  | [], b :: t, _, hb, hp, ne => absurd (prodL_one hb (by rw [← hp]; exact Int.le_refl 1)) (by simp)
  | a :: r, [], ha, _, hp, ne => absurd (prodL_one ha (by rw [hp]; exact Int.le_refl 1)) (by simp)
  | a :: r, b :: t, ha, hb, hp, ne => by
    by_cases e : a = b
    · subst e
      have a2 := ha a (List.mem_cons_self ..)
      have hp2 : prodL r = prodL t := by
        rw [prodL_cons, prodL_cons] at hp
        exact Int.eq_of_mul_eq_mul_left (by omega) hp
      obtain ⟨j, x, y, h1, h2, h3, h4⟩ := part_has (fun k hk => ha k (List.mem_cons_of_mem _ hk)) (fun k hk => hb k (List.mem_cons_of_mem _ hk)) hp2 (fun z => ne (by rw [z]))
      refine ⟨j + 1, x, y, by simpa using h1, by simpa using h2, h3, fun i hi => ?_⟩
      cases i with
      | zero => rfl
      | succ i => simpa using h4 i (by omega)
    · exact ⟨0, a, b, rfl, rfl, e, fun i hi => absurd hi (by omega)⟩
end Sq


/-! lists read back from the runs that become single -/
namespace Sq
/-- how many runs a replacement needs for some later lengths -/
def need (r : Int) (later : List Int) : Int := (later.map fun l => if l + 1 < r then l + 1 else r).sum
theorem need_cons (r l : Int) (t : List Int) : need r (l :: t) = (if l + 1 < r then l + 1 else r) + need r t := by simp [need]
theorem need_snoc (r l : Int) (t : List Int) : need r (t ++ [l]) = need r t + (if l + 1 < r then l + 1 else r) := by simp [need]
/-- nothing is missing -/
def Whole (p later : List Int) (b r : Int) : Prop := 1 < r ∧ need r later = p.length ∧ ∃ t lb, later = t ++ [lb] ∧ b = lb * r
/-- what the program finds for ascending runs -/
inductive Lof : List Int → Option (List Int) → Prop
  | one : Lof [1] (some [])
  | bad {p : List Int} : p ≠ [1] → (p.length < 2 ∨ p.head? ≠ some 1) → Lof p none
  | no {p u later : List Int} {a b : Int} : p = u ++ [a, b] → p.head? = some 1 → later.Pairwise (· < ·) → (∀ x, x ∈ later ↔ x ∈ p.map fun n => once n (b - a + 1)) → ¬ Whole p later b (b - a + 1) → Lof p none
  | step {p u later : List Int} {a b : Int} {res : Option (List Int)} : p = u ++ [a, b] → p.head? = some 1 → later.Pairwise (· < ·) → (∀ x, x ∈ later ↔ x ∈ p.map fun n => once n (b - a + 1)) → Whole p later b (b - a + 1) → Lof later res → Lof p (res.map ((b - a + 1) :: ·))
/-- the runs that become single -/
def Sgl (p row : List Int) : Prop := ∀ x, x ∈ p ↔ 1 ≤ x ∧ sqz x row = 1
theorem asc_nodup {p : List Int} (h : p.Pairwise (· < ·)) : p.Nodup := h.imp fun h => by omega
theorem asc_eq {p q : List Int} (hp : p.Pairwise (· < ·)) (hq : q.Pairwise (· < ·)) (h : ∀ x, x ∈ p ↔ x ∈ q) : p = q := by
  have pm : p.Perm q := (List.perm_ext_iff_of_nodup (asc_nodup hp) (asc_nodup hq)).mpr h
  exact pm.eq_of_pairwise (fun a b _ _ h1 h2 => by omega) hp hq
theorem sub_perm : ∀ {p q : List Int}, p.Nodup → (∀ x ∈ p, x ∈ q) → q.length ≤ p.length → p.Perm q
  | [], q, _, _, h => by
    have : q = [] := List.length_eq_zero_iff.mp (Nat.le_zero.mp h)
    rw [this]
  | x :: t, q, nd, sub, h => by
    have hx := sub x (List.mem_cons_self ..)
    have e := List.perm_cons_erase hx
    obtain ⟨n1, n2⟩ := List.nodup_cons.mp nd
    have l := e.length_eq
    rw [List.length_cons] at l
    rw [List.length_cons] at h
    refine ((sub_perm n2 (fun y hy => ?_) (by omega)).cons x).trans e.symm
    have hy2 := e.mem_iff.mp (sub y (List.mem_cons_of_mem _ hy))
    rcases List.mem_cons.mp hy2 with z | z
    · rw [z] at hy
      exact absurd hy n1
    · exact z
theorem drop_last {l : List Int} (h : l ≠ []) : l = l.dropLast ++ [l.getLast h] := by
  induction l with
  | nil => exact absurd rfl h
  | cons x t ih =>
    cases t with
    | nil => rfl
    | cons y t =>
      have := ih (List.cons_ne_nil y t)
      show x :: (y :: t) = x :: ((y :: t).dropLast ++ _)
      congr 1
theorem in_befores {x k : Int} (hk : 2 ≤ k) (hx : 1 ≤ x) : x ∈ befores (once x k) k := by
  unfold befores
  obtain ⟨q, r, e, r0, r1, e1, e2⟩ := qr x hk
  have q0 : 0 ≤ q := by rw [← e1]; exact Int.ediv_nonneg (by omega) (by omega)
  have eo : once x k = q + r := by unfold once; rw [e1, e2]
  refine List.mem_map.mpr ⟨r.toNat, List.mem_range.mpr (by omega), ?_⟩
  rw [eo, show (0 : Int) + (r.toNat : Int) = r by omega, Int.add_mul, Int.mul_sub, Int.mul_one]
  omega
theorem befores_pos {m k x : Int} (hk : 2 ≤ k) (hm : 1 ≤ m) (h : x ∈ befores m k) : 1 ≤ x := by
  obtain ⟨e, x0, _⟩ := mem_befores hk (by omega) h
  rcases Int.lt_or_eq_of_le x0 with z | z
  · omega
  · subst z
    rw [once_small (by omega) (by omega)] at e
    omega
theorem befores_nodup {m k : Int} (hk : 2 ≤ k) : (befores m k).Nodup := by
  unfold befores
  refine List.Pairwise.map _ ?_ List.nodup_range
  intro a b hab e
  have e2 : (0 + (a : Int)) * (k - 1) = (0 + (b : Int)) * (k - 1) := by omega
  have := Int.eq_of_mul_eq_mul_right (show k - 1 ≠ 0 by omega) e2
  omega
theorem befores_num {m k : Int} (hk : 2 ≤ k) (hm : 1 ≤ m) : ((befores m k).length : Int) = if m + 1 < k then m + 1 else k := by
  unfold befores
  rw [List.length_map, List.length_range]
  split <;> omega
theorem flat_num {k : Int} (hk : 2 ≤ k) : ∀ {l : List Int}, (∀ m ∈ l, 1 ≤ m) → (((l.flatMap fun m => befores m k).length : Nat) : Int) = need k l
  | [], _ => rfl
  | m :: t, h => by
    rw [List.flatMap_cons, List.length_append, need_cons, Int.natCast_add, befores_num hk (h m (List.mem_cons_self ..)), flat_num hk fun j hj => h j (List.mem_cons_of_mem _ hj)]
theorem flat_nodup {k : Int} (hk : 2 ≤ k) : ∀ {l : List Int}, (∀ m ∈ l, 1 ≤ m) → l.Nodup → (l.flatMap fun m => befores m k).Nodup
  | [], _, _ => List.nodup_nil
  | m :: t, h, nd => by
    rw [List.flatMap_cons]
    refine List.nodup_append.mpr ⟨befores_nodup hk, flat_nodup hk (fun j hj => h j (List.mem_cons_of_mem _ hj)) (List.nodup_cons.mp nd).2, fun x hx y hy e => ?_⟩
    subst e
    obtain ⟨m2, hm2, hy⟩ := List.mem_flatMap.mp hy
    have e1 := (mem_befores hk (by have := h m (List.mem_cons_self ..); omega) hx).1
    have e2 := (mem_befores hk (by have := h m2 (List.mem_cons_of_mem _ hm2); omega) hy).1
    rw [e1] at e2
    subst e2
    exact (List.nodup_cons.mp nd).1 hm2
theorem mem_flat {k : Int} (hk : 2 ≤ k) {l : List Int} (h : ∀ m ∈ l, 1 ≤ m) (x : Int) : x ∈ (l.flatMap fun m => befores m k) ↔ 1 ≤ x ∧ once x k ∈ l := by
  constructor
  · intro hx
    obtain ⟨m, hm, hx⟩ := List.mem_flatMap.mp hx
    have m1 := h m hm
    refine ⟨befores_pos hk m1 hx, ?_⟩
    rw [(mem_befores hk (by omega) hx).1]
    exact hm
  · rintro ⟨x1, hx⟩
    exact List.mem_flatMap.mpr ⟨_, hx, in_befores hk x1⟩
/-- what is found is a list for these runs -/
theorem lof_sound {p : List Int} {res : Option (List Int)} (h : Lof p res) : ∀ row, res = some row → p.Pairwise (· < ·) → (∀ x ∈ p, 1 ≤ x) → Two row ∧ Sgl p row := by
  induction h with
  | one =>
    intro row e _ _
    cases e
    refine ⟨(fun k hk => nomatch hk), fun x => ?_⟩
    rw [List.mem_singleton]
    show x = 1 ↔ 1 ≤ x ∧ x = 1
    omega
  | bad => intro row e; cases e
  | no => intro row e; cases e
  | @step p u later a b res e hh asc ml wh _ ih =>
    intro row er ap pos
    cases res with
    | none => cases er
    | some r =>
      have er : (b - a + 1) :: r = row := Option.some.inj er
      subst er
      obtain ⟨k1, nd, _⟩ := wh
      generalize hk : b - a + 1 = k at *
      have k2 : 2 ≤ k := by omega
      have posl : ∀ m ∈ later, 1 ≤ m := fun m hm => by
        obtain ⟨n, hn, rfl⟩ := List.mem_map.mp ((ml m).mp hm)
        exact once_pos (pos n hn) k2
      obtain ⟨tr, sg⟩ := ih r rfl asc posl
      refine ⟨fun j hj => ?_, fun x => ?_⟩
      · rcases List.mem_cons.mp hj with z | z
        · omega
        · exact tr j z
      · have sub : p ⊆ later.flatMap fun m => befores m k := fun x hx => (mem_flat k2 posl x).mpr ⟨pos x hx, (ml _).mpr (List.mem_map.mpr ⟨x, hx, rfl⟩)⟩
        have ln : (later.flatMap fun m => befores m k).length = p.length := by
          have := flat_num k2 posl
          omega
        have pm := sub_perm (asc_nodup ap) sub (by omega)
        rw [pm.mem_iff, mem_flat k2 posl, sg, sqz_cons]
        constructor
        · rintro ⟨h1, _, h2⟩
          exact ⟨h1, h2⟩
        · rintro ⟨h1, h2⟩
          exact ⟨h1, once_pos h1 k2, h2⟩
theorem asc_last {p : List Int} (h : p.Pairwise (· < ·)) {u : List Int} {b : Int} (e : p = u ++ [b]) : ∀ x ∈ p, x ≤ b := fun x hx => by
  subst e
  rcases List.mem_append.mp hx with z | z
  · have := (List.pairwise_append.mp h).2.2 x z b (List.mem_singleton.mpr rfl)
    omega
  · rw [List.mem_singleton.mp z]
    exact Int.le_refl _
theorem sgl_top {p row : List Int} (h : Two row) (sg : Sgl p row) : prodL row ∈ p ∧ ∀ x ∈ p, x ≤ prodL row := by
  refine ⟨(sg _).mpr ⟨prodL_pos h, sqz_prod h⟩, fun x hx => ?_⟩
  rcases Int.lt_or_le (prodL row) x with z | z
  · have := sqz_far h z
    have := ((sg x).mp hx).2
    omega
  · exact z
theorem sqz_1 : ∀ {row : List Int}, Two row → sqz 1 row = 1
  | [], _ => rfl
  | k :: r, h => by
    have hk := h k (List.mem_cons_self ..)
    rw [sqz_cons, once_small (by omega) (by omega)]
    exact sqz_1 fun j hj => h j (List.mem_cons_of_mem _ hj)
/-- the list for these runs is found -/
theorem lof_full : ∀ {row p : List Int} {res : Option (List Int)}, Two row → Sgl p row → p.Pairwise (· < ·) → Lof p res → res = some row
  | [], p, res, _, sg, asc, h => by
    have e : p = [1] := asc_eq asc (by simp) fun x => by
      rw [sg, List.mem_singleton]
      show 1 ≤ x ∧ x = 1 ↔ x = 1
      omega
    have no2 : ∀ (u : List Int) (a b : Int), p ≠ u ++ [a, b] := fun u a b z => by
      rw [e] at z
      have := congrArg List.length z
      simp at this
    cases h with
    | one => rfl
    | bad n _ => exact absurd e n
    | no e2 => exact absurd e2 (no2 _ _ _)
    | step e2 => exact absurd e2 (no2 _ _ _)
  | k :: r, p, res, hh, sg, asc, h => by
    have k2 := hh k (List.mem_cons_self ..)
    have tr : Two r := fun j hj => hh j (List.mem_cons_of_mem _ hj)
    obtain ⟨mt, top⟩ := sgl_top hh sg
    have pr := prodL_pos tr
    have pk : prodL (k :: r) = k * prodL r := rfl
    have big : k ≤ prodL (k :: r) := by
      have := Int.mul_le_mul_of_nonneg_left pr (show 0 ≤ k by omega)
      omega
    have m1 : (1 : Int) ∈ p := (sg 1).mpr ⟨by decide, sqz_1 hh⟩
    have pos : ∀ x ∈ p, 1 ≤ x := fun x hx => ((sg x).mp hx).1
    have key : ∀ (u : List Int) (a b : Int), p = u ++ [a, b] → b = prodL (k :: r) ∧ b - a + 1 = k := fun u a b e => by
      have eb : b = prodL (k :: r) := by
        have h1 := asc_last asc (u := u ++ [a]) (b := b) (by rw [e]; simp) _ mt
        have h2 := top b (by rw [e]; simp)
        omega
      have ab : a < b := by
        rw [e] at asc
        have := (List.pairwise_append.mp asc).2.1
        simpa using this
      have am : a ∈ p := by rw [e]; simp
      have a1 := pos a am
      have hs : prodL (k :: r) - k + 1 ∈ p := (sg _).mpr ⟨by omega, next_hit hh⟩
      have le : prodL (k :: r) - k + 1 ≤ a := by
        rw [e] at hs
        rcases List.mem_append.mp hs with z | z
        · rw [e] at asc
          have := (List.pairwise_append.mp asc).2.2 _ z a (by simp)
          omega
        · simp at z
          omega
      refine ⟨eb, ?_⟩
      rcases Int.lt_or_eq_of_le le with z | z
      · exfalso
        have ms := next_miss hh (j := prodL (k :: r) - a + 1) (by omega) (by omega)
        rw [show prodL (k :: r) - (prodL (k :: r) - a + 1) + 1 = a by omega] at ms
        have := ((sg a).mp am).2
        omega
      · omega
    have lat : ∀ later : List Int, (∀ x, x ∈ later ↔ x ∈ p.map fun n => once n k) → Sgl later r := fun later ml x => by
      rw [ml]
      constructor
      · intro hx
        obtain ⟨n, hn, rfl⟩ := List.mem_map.mp hx
        have q := (sg n).mp hn
        rw [sqz_cons] at q
        exact ⟨once_pos q.1 k2, q.2⟩
      · rintro ⟨x1, hx⟩
        have e : once (x * k) k = x := by
          have z := once_qr (q := x) (r := 0) (k := k) (by omega) (by omega)
          rw [Int.add_zero, Int.add_zero] at z
          exact z
        refine List.mem_map.mpr ⟨x * k, (sg _).mpr ⟨?_, by rw [sqz_cons, e]; exact hx⟩, e⟩
        have := Int.mul_le_mul x1 (show (1 : Int) ≤ k by omega) (by decide) (by omega)
        omega
    cases h with
    | one =>
      have := List.mem_singleton.mp mt
      omega
    | bad n c =>
      exfalso
      have nn : p ≠ [] := fun z => by rw [z] at m1; cases m1
      cases p with
      | nil => exact nn rfl
      | cons x t =>
        have x1 := pos x (List.mem_cons_self ..)
        have ex : x = 1 := by
          rcases List.mem_cons.mp m1 with z | z
          · exact z.symm
          · have := (List.pairwise_cons.mp asc).1 1 z
            omega
        rcases c with c | c
        · cases t with
          | nil => exact n (by rw [ex])
          | cons y t =>
            simp only [List.length_cons] at c
            omega
        · exact c (by rw [ex]; rfl)
    | @no _ u later a b e _ al ml nw =>
      exfalso
      obtain ⟨eb, ek⟩ := key u a b e
      rw [ek] at ml nw
      have sl := lat later ml
      have posl : ∀ m ∈ later, 1 ≤ m := fun m hm => ((sl m).mp hm).1
      refine nw ⟨by omega, ?_, ?_⟩
      · rw [← flat_num k2 posl]
        congr 1
        refine List.Perm.length_eq ((List.perm_ext_iff_of_nodup (flat_nodup k2 posl (asc_nodup al)) (asc_nodup asc)).mpr fun x => ?_)
        rw [mem_flat k2 posl, sl, sg, sqz_cons]
        constructor
        · rintro ⟨h1, _, h2⟩
          exact ⟨h1, h2⟩
        · rintro ⟨h1, h2⟩
          exact ⟨h1, once_pos h1 k2, h2⟩
      · obtain ⟨ml2, tl⟩ := sgl_top tr sl
        have nl : later ≠ [] := fun z => by rw [z] at ml2; cases ml2
        refine ⟨later.dropLast, later.getLast nl, drop_last nl, ?_⟩
        have h1 := asc_last al (drop_last nl) _ ml2
        have h2 := tl _ (List.getLast_mem nl)
        rw [eb, pk, Int.mul_comm k, show later.getLast nl = prodL r by omega]
    | @step _ u later a b res e _ al ml _ h2 =>
      obtain ⟨eb, ek⟩ := key u a b e
      rw [ek] at ml ⊢
      rw [lof_full tr (lat later ml) al h2]
      rfl
end Sq


set_option maxRecDepth 100000
/-! all lists of up to three replacements from 2 to 5 -/
namespace Sq
def extR (rows : List (List Int)) : List (List Int) := rows.flatMap fun r => [r ++ [2], r ++ [3], r ++ [4], r ++ [5]]
def lastR : Nat → List (List Int)
  | 0 => [[]]
  | n + 1 => extR (lastR n)
def foundR : Nat → List (List Int)
  | 0 => [[]]
  | n + 1 => foundR n ++ lastR (n + 1)
def allR : List (List Int) := foundR 3
theorem allR_len : allR.length = 85 := by decide +kernel
theorem allR_ok : ∀ r ∈ allR, r.length ≤ 3 ∧ ∀ k ∈ r, 2 ≤ k ∧ k ≤ 5 := by decide +kernel
theorem lastR_ok : ∀ n, n ≤ 3 → (lastR n).length ≤ 64 ∧ ∀ r ∈ lastR n, r.length ≤ 3 := by
  intro n h
  rcases (show n = 0 ∨ n = 1 ∨ n = 2 ∨ n = 3 by omega) with z | z | z | z <;> rw [z] <;> decide +kernel
theorem foundR_ok : ∀ n, n ≤ 3 → (foundR n).length ≤ 85 := by
  intro n h
  rcases (show n = 0 ∨ n = 1 ∨ n = 2 ∨ n = 3 by omega) with z | z | z | z <;> rw [z] <;> decide +kernel
theorem ext_take {rows : List (List Int)} {i : Nat} {r : List Int} (h : rows[i]? = some r) : extR (rows.take (i + 1)) = extR (rows.take i) ++ [r ++ [2], r ++ [3], r ++ [4], r ++ [5]] := by
  unfold extR
  rw [List.take_add_one, h, List.flatMap_append]
  simp
theorem ext_len : ∀ rows : List (List Int), (extR rows).length = 4 * rows.length
  | [] => rfl
  | r :: t => by
    have := ext_len t
    unfold extR at *
    rw [List.flatMap_cons, List.length_append, this, List.length_cons]
    simp
    omega
theorem allR_two {r : List Int} (h : r ∈ allR) : Two r := fun k hk => ((allR_ok r h).2 k hk).1
theorem allR_prod {r : List Int} (h : r ∈ allR) : prodL r ≤ 125 := by
  obtain ⟨h1, h2⟩ := allR_ok r h
  exact prodL_le (allR_two h) (fun k hk => (h2 k hk).2) h1 (by decide)
/-- the runs that become single, in order -/
def singL (row : List Int) : List Int := ((List.range (prodL row + 8).toNat).map fun (i : Nat) => 1 + (i : Int)).filter fun x => decide (sqz x row = 1)
theorem sgl_sing {row : List Int} (h : Two row) : Sgl (singL row) row := fun x => by
  unfold singL
  rw [List.mem_filter, decide_eq_true_iff]
  constructor
  · rintro ⟨a, b⟩
    obtain ⟨i, _, rfl⟩ := List.mem_map.mp a
    exact ⟨by omega, b⟩
  · rintro ⟨a, b⟩
    refine ⟨List.mem_map.mpr ⟨(x - 1).toNat, List.mem_range.mpr ?_, by omega⟩, b⟩
    have : x ≤ prodL row := by
      rcases Int.lt_or_le (prodL row) x with z | z
      · have := sqz_far h z
        omega
      · exact z
    omega
theorem sing_asc (row : List Int) : (singL row).Pairwise (· < ·) := by
  unfold singL
  refine List.Pairwise.filter _ (List.Pairwise.map _ ?_ List.pairwise_lt_range)
  intro a b h
  omega
theorem sing_len (row : List Int) : (singL row).length ≤ (prodL row + 8).toNat := by
  unfold singL
  refine Nat.le_trans (List.length_filter_le _ _) ?_
  rw [List.length_map, List.length_range]
  exact Nat.le_refl _
theorem sing_nodup : (allR.map singL).Nodup := by decide +kernel
/-- lists of one product that do the same are one -/
theorem alike_eq {as bs : List Int} (ha : Two as) (hb : Two bs) (hp : prodL as = prodL bs) (h : ∀ n, 0 ≤ n → n ≤ prodL as → sqz n as = sqz n bs) : as = bs := by
  by_cases e : as = bs
  · exact e
  exfalso
  obtain ⟨j, a, b, ea, eb, ne, bef⟩ := part_has ha hb hp e
  have z := part_at ha hb hp bef ea eb ne
  simp only at z
  obtain ⟨z1, z2⟩ := z
  refine z2 (h _ (by omega) ?_)
  have a2 := ha a (List.mem_of_getElem? ea)
  have b2 := hb b (List.mem_of_getElem? eb)
  have pt := prodL_pos (ns := as.take j) fun k hk => ha k (List.mem_of_mem_take hk)
  have le : prodL (as.drop j) - (if b < a then b else a) + 1 ≤ prodL (as.drop j) := by split <;> omega
  have := Int.mul_le_mul_of_nonneg_right le (show 0 ≤ prodL (as.take j) by omega)
  have e2 : prodL as = prodL (as.drop j) * prodL (as.take j) := by
    conv => lhs; rw [← List.take_append_drop j as, prodL_app, Int.mul_comm]
  omega
end Sq


set_option Elab.async false
set_option maxRecDepth 100000
set_option maxHeartbeats 4000000
namespace Sq
open PySem PySem.Spec PyProof.Rows L2
/-! ## lists of lists of ints in the heap -/
/-- at l: a list of lists, their numbers are rows; the lists are younger than G -/
def LL (G H : Hp) (l : Addr) (rows : List (List Int)) : Prop := ∃ ps : List Addr, H l = some (.lst (ps.map V.ref)) ∧ ps.length = rows.length ∧ (∀ p ∈ ps, p ≠ l ∧ G p = none) ∧ ∀ (i : Nat) (p : Addr) (ns : List Int), ps[i]? = some p → rows[i]? = some ns → H p = some (.lst (iv ns))
section
variable {G G' H H' : Hp} {l p : Addr} {rows rows2 : List (List Int)} {ns : List Int}
theorem LL.same (h : LL G H l rows) (s : Same H H') : LL G H' l rows := by
  obtain ⟨ps, a, b, c, d⟩ := h
  exact ⟨ps, s _ _ a, b, c, fun i p ns h1 h2 => s _ _ (d i p ns h1 h2)⟩
theorem LL.old (h : LL G' H l rows) (s : Same G G') : LL G H l rows := by
  obtain ⟨ps, a, b, c, d⟩ := h
  exact ⟨ps, a, b, fun p hp => ⟨(c p hp).1, s.free (c p hp).2⟩, d⟩
theorem LL.nil (h : H l = some (.lst [])) : LL G H l [] := ⟨[], h, rfl, (fun p hp => nomatch hp), fun i p ns h1 _ => by simp at h1⟩
/-- behind a store to another object -/
theorem LL.put {o : Addr} {u u' : HO} (h : LL G H l rows) (ho : G o = some u) (ne : o ≠ l) : LL G (upd H o u') l rows := by
  obtain ⟨ps, a, b, c, d⟩ := h
  refine ⟨ps, upd_off (Ne.symm ne) a, b, c, fun i p ns h1 h2 => upd_off (fun z => ?_) (d i p ns h1 h2)⟩
  have := (c p (List.mem_of_getElem? h1)).2
  rw [z, ho] at this
  cases this
theorem LL.get (h : LL G H l rows) {i : Nat} (e : rows[i]? = some ns) : ∃ p xs, H l = some (.lst xs) ∧ xs[i]? = some (.ref p) ∧ xs.length = rows.length ∧ H p = some (.lst (iv ns)) ∧ p ≠ l ∧ G p = none := by
  obtain ⟨ps, a, b, c, d⟩ := h
  have lt : i < ps.length := by
    rw [b]
    exact (List.getElem?_eq_some_iff.mp e).1
  have ep := List.getElem?_eq_getElem lt
  have cp := c _ (List.mem_of_getElem? ep)
  exact ⟨ps[i], ps.map V.ref, a, by rw [List.getElem?_map, ep]; rfl, by rw [List.length_map]; exact b, d i _ ns ep e, cp.1, cp.2⟩
theorem LL.len (h : LL G H l rows) : ∃ xs, H l = some (.lst xs) ∧ xs.length = rows.length := by
  obtain ⟨ps, a, b, _⟩ := h
  exact ⟨_, a, by rw [List.length_map]; exact b⟩
/-- one list more -/
theorem LL.snoc (h : LL G H l rows) (hp : H p = some (.lst (iv ns))) (np : p ≠ l) (gp : G p = none) : ∃ xs, H l = some (.lst xs) ∧ xs.length = rows.length ∧ LL G (upd H l (.lst (xs ++ [.ref p]))) l (rows ++ [ns]) := by
  obtain ⟨ps, a, b, c, d⟩ := h
  refine ⟨ps.map V.ref, a, by rw [List.length_map]; exact b, ps ++ [p], by rw [upd_same]; simp, by simp [b], fun q hq => ?_, fun i q ms h1 h2 => ?_⟩
  · rcases List.mem_append.mp hq with z | z
    · exact c q z
    · rw [List.mem_singleton.mp z]
      exact ⟨np, gp⟩
  · by_cases lt : i < ps.length
    · rw [List.getElem?_append_left lt] at h1
      rw [List.getElem?_append_left (by omega)] at h2
      exact upd_off (c q (List.mem_of_getElem? h1)).1 (d i q ms h1 h2)
    · rw [List.getElem?_append_right (by omega)] at h1
      rw [List.getElem?_append_right (by omega), ← b] at h2
      cases e : i - ps.length with
      | zero =>
        rw [e] at h1 h2
        have e1 : p = q := by simpa using h1
        have e2 : ns = ms := by simpa using h2
        rw [← e1, ← e2]
        exact upd_off np hp
      | succ k =>
        rw [e] at h1
        simp at h1
/-- the lists of another list behind it -/
theorem LL.ext {G2 : Hp} {d : Addr} {u : HO} (h : LL G H l rows) (h2 : LL G2 H d rows2) (s : Same G G2) (hl : G2 l = some u) : ∃ xs ys, H l = some (.lst xs) ∧ xs.length = rows.length ∧ H d = some (.lst ys) ∧ ys.length = rows2.length ∧ LL G (upd H l (.lst (xs ++ ys))) l (rows ++ rows2) := by
  obtain ⟨ps, a, b, c, e⟩ := h
  obtain ⟨qs, a2, b2, c2, e2⟩ := h2
  have nq : ∀ q ∈ qs, q ≠ l := fun q hq z => by
    have := (c2 q hq).2
    rw [z, hl] at this
    cases this
  refine ⟨ps.map V.ref, qs.map V.ref, a, by rw [List.length_map]; exact b, a2, by rw [List.length_map]; exact b2, ps ++ qs, by rw [upd_same]; simp, by simp [b, b2], fun q hq => ?_, fun i q ms h1 h2 => ?_⟩
  · rcases List.mem_append.mp hq with z | z
    · exact c q z
    · skip
      exact ⟨nq q z, s.free (c2 q z).2⟩
  · by_cases lt : i < ps.length
    · rw [List.getElem?_append_left lt] at h1
      rw [List.getElem?_append_left (by omega)] at h2
      exact upd_off (c q (List.mem_of_getElem? h1)).1 (e i q ms h1 h2)
    · rw [List.getElem?_append_right (by omega)] at h1
      rw [List.getElem?_append_right (by omega), ← b] at h2
      exact upd_off (nq q (List.mem_of_getElem? h1)) (e2 _ q ms h1 h2)
end
/-- all but the source is quiet from now on -/
theorem Sep.full {R : Rg} {G H : Hp} (s : Sep R G H) : ∃ G', Same G G' ∧ Sep R G' H ∧ ∀ a, ¬ R.S a → G' a = H a := by
  classical
  refine ⟨fun a => if R.S a then none else H a, fun b o e => ?_, ⟨s.inv, fun b o e => ?_, fun a ha => if_pos ha⟩, fun a ha => if_neg ha⟩
  · have nb : ¬ R.S b := fun z => by
      have := s.off b z
      rw [e] at this
      cases this
    show (if R.S b then none else H b) = some o
    rw [if_neg nb]
    exact s.same b o e
  · have e : (if R.S b then none else H b) = some o := e
    split at e
    · cases e
    · exact e
theorem LL.move {R : Rg} {G G' J J' : Hp} {l : Addr} {rows : List (List Int)} (h : LL J J' l rows) (hl : J l = none) (s : Sep R G J) (e : ∀ a, ¬ R.S a → G' a = J' a) : LL G G' l rows := by
  have ns : ∀ a, J a = none → ¬ R.S a := fun a ha z => R.has J a s.inv z ha
  obtain ⟨ps, a, b, c, d⟩ := h
  refine ⟨ps, by rw [e l (ns l hl)]; exact a, b, fun p hp => ⟨(c p hp).1, s.free (c p hp).2⟩, fun i p r h1 h2 => ?_⟩
  rw [e p (ns p (c p (List.mem_of_getElem? h1)).2)]
  exact d i p r h1 h2
open Classical in
/-- where the source stands -/
noncomputable def srcH (R : Rg) : Hp := fun a => if R.S a then some (.lst []) else none
theorem srcH_none {R : Rg} {a : Addr} : srcH R a = none ↔ ¬ R.S a := by
  unfold srcH
  split
  · rename_i c
    exact ⟨(fun z => nomatch z), (fun z => absurd c z)⟩
  · rename_i c
    exact ⟨fun _ => c, fun _ => rfl⟩
theorem LL.into {R : Rg} {G' J' : Hp} {l : Addr} {rows : List (List Int)} (h : LL (srcH R) J' l rows) (hl : ¬ R.S l) (e : ∀ a, ¬ R.S a → G' a = J' a) : LL (srcH R) G' l rows := by
  obtain ⟨ps, a, b, c, d⟩ := h
  refine ⟨ps, by rw [e l hl]; exact a, b, c, fun i p r h1 h2 => ?_⟩
  rw [e p (srcH_none.mp (c p (List.mem_of_getElem? h1)).2)]
  exact d i p r h1 h2
theorem Sep.src {R : Rg} {G H : Hp} {a : Addr} {o : HO} (s : Sep R G H) (h : G a = some o) : srcH R a = none := srcH_none.mpr fun z => by
  have := s.off a z
  rw [h] at this
  cases this
theorem Sep.srcN {R : Rg} {G H : Hp} {a : Addr} (s : Sep R G H) (h : H a = none) : ¬ R.S a := fun z => R.has H a s.inv z h
end Sq


set_option Elab.async false
set_option maxRecDepth 100000
set_option maxHeartbeats 4000000
/-! sorted(a set of ints), however many (below the model's bound of scanning) -/
namespace Sq
open PySem PySem.Spec PyProof.Rows L2
section
variable {P : Program} {w : World} {A : Around} {E : Value → Shared → Prop} {s : Shared} {a : Addr}
theorem sorted_setL {S : Int → Bool} {n : Nat} {Q : Value → Shared → Prop} (R : SetR w s.heap a S n) (hh : A.handled = none)
    (hQ : ∀ s' p (out : Array Value) (c : Nat) (ns : List Int), (∀ b o, s.heap.get? b = some o → s'.heap.get? b = some o) → s'.gens = s.gens → s'.os = s.os → s.heap.objs.size ≤ p → s'.heap.get? p = some (seqObj "list" out c) → IntsAre out.toList ns → ns.Pairwise (· < ·) → (∀ k, k ∈ ns ↔ S k = true) → ns.length = n → Q (.ref p) s') :
    wpAny (model P w) A (call (.builtin "sorted") [.ref a]) Q E s := by
  obtain ⟨o, es, ep, t, ho, hex, hd, g, nd, hm, hb, hf, hn, hr, hl⟩ := R
  refine Calls.call_function_entry kind_sorted plain_sorted entry_sorted (args_sorted1 _) ?_
  unfold Builtin.«sorted»
  refine wpAny_bind (m := checkCount "sorted" 1 1 _) (wpAny_pure (wpAny_bind (collect_set (A := A.in1) hh ⟨o, ho, hex.1, hd⟩ hf hb hr hl fun s1 vs k1 hz g1 o1 pm => ?_)))
  have lv : vs.length = es.size := by rw [pm.length_eq, List.length_map, Array.length_toList]
  have big : vs.length ≤ sizeLine := by
    rw [lv]
    exact fits_of_scanBound hb
  have isI : IntsAre vs (vs.map Builtin.Re.reRawOf) := ints_of vs fun v hv => by
    obtain ⟨e, he, q⟩ := List.mem_map.mp (pm.mem_iff.mp hv)
    obtain ⟨k, tk, h1, _⟩ := g e he
    exact ⟨k, tk, by rw [← q]; exact h1⟩
  have pk : (vs.map Builtin.Re.reRawOf).Perm (es.toList.map keyOf) := by
    have z := pm.map Builtin.Re.reRawOf
    rw [List.map_map] at z
    exact z
  refine wpAny_bind (wpAny_newList ?_ (by simpa using big))
  have oL : (s1.heap.push (seqObj "list" vs.toArray 0)).get? s1.heap.objs.size = some (seqObj "list" vs.toArray 0) := Heap.get?_push_size _ rfl
  refine wpAny_bind (wpAny_holding (wpAny_call_entry slot_list_sort ⟨_, oL, rfl⟩ entry_list_sort (SrtO.list_sort_ord SrtO.swo_int oL big (fun h2 => SrtO.ints_sortable isI h2) fun out a1 a2 => ⟨_, rfl, ?_⟩) (args_list_sort _)))
  obtain ⟨q1, q2, q3⟩ := SrtO.ints_out isI a1 a2
  obtain ⟨c, hc⟩ := sortedHeap_at (vs := vs) (out := out.toArray) oL
  have pn : (out.map SrtO.iv).Perm (es.toList.map keyOf) := q2.trans pk
  refine wpAny_pure ⟨_, rfl, hQ _ s1.heap.objs.size out.toArray c (out.map SrtO.iv) (fun b u e => ?_) g1 o1 hz hc q1 (lt_of_le_nodup _ q3 (pn.nodup_iff.mpr nd)) (fun k => by rw [pn.mem_iff, ← hm k]) ?_⟩
  · have z := k1 b u e
    have lt := Heap.lt_size z
    exact (sortedHeap_old (Nat.ne_of_lt lt) (by rw [size_push']; exact Nat.lt_succ_of_lt lt)).trans (Heap.get?_push_of_some _ z)
  · rw [pn.length_eq, List.length_map, Array.length_toList]
    exact hn
end
section
variable {X : Cx}
def rSortedSetL (w : World) : List V → Hp → VK → Prop := fun vs H Q => ∃ (a : Addr) (S : Int → Bool) (n : Nat), vs = [V.ref a] ∧ H a = some (SetO w a S n) ∧ n ≤ sizeLine ∧ ∀ (ns : List Int) (p : Addr), ns.Pairwise (· < ·) → (∀ k : Int, k ∈ ns ↔ S k = true) → ns.length = n → H p = none → Q (.ref p) (upd H p (.lst (ns.map V.int)))
theorem cr_sortedSetL (hc : X.calm = true) : CallR X (.builtin "sorted") (rSortedSetL X.w) := by
  intro pins s σ H vs us Q I r h
  obtain ⟨a, S, n, rfl, ha, hn, q⟩ := h
  have R := setO_get I ha
  rw [Vals.ref1 r]
  refine sorted_setL R (I.ok.hd hc) fun s' p out c ns k g o hp hg hi hs hm hl => ?_
  have len : (ns.map V.int).length ≤ sizeLine := by
    rw [List.length_map, hl]
    exact hn
  have np : H p = none := I.hok.fresh hp
  have J : Inv X pins σ (upd H p (.lst (ns.map V.int))) { s with heap := s'.heap, gens := s'.gens, drawn := s'.drawn, toks := s'.toks } := I.call (ch := []) (Un.laid k hp np) (I.hok.laid k hp ⟨len, out.toList, c, vals_of_ints hi, hg⟩) (by rw [g]; exact I.bare) (fun _ z => nomatch z)
  have e : s' = { s with heap := s'.heap, gens := s'.gens, drawn := s'.drawn, toks := s'.toks } := by
    obtain ⟨_, _, _, _, _⟩ := s'
    obtain ⟨_, _, _, _, _⟩ := s
    cases o
    rfl
  rw [e]
  exact ⟨.ref p, _, J, rfl, q ns p hs hm hl np⟩
end
end Sq


set_option Elab.async false
set_option maxRecDepth 100000
set_option maxHeartbeats 4000000
/-! set(a list): of ints, of different texts -/
namespace Sq
open PySem PySem.Spec PyProof.Rows L2
/-- an empty set, as it is made -/
abbrev newSet (b : Bool) : Obj := { cls := .type "set", dict := none, data := .set #[] 0 (.fresh 0 0 b) }
/-- the state behind a set's making: the set and the list's iterator stand -/
abbrev twoNew (s : Shared) (b : Bool) (l : Addr) : Heap := (s.heap.push (newSet b)).push { cls := .type "list_iterator", data := .fields #[.ref l, .int 0 0] }
section
variable {P : Program} {w : World} {A : Around} {E : Value → Shared → Prop} {s : Shared}
set_option maxHeartbeats 6400000 in
/-- set(l), by what its loop brings -/
theorem set_by_loop {l : Addr} {its : Array Value} {Good : Heap → Prop} {Q : Value → Shared → Prop} (hh : A.handled = none) (hl : s.heap.IsList l its)
    (loop : ∀ (A' : Around) (R : Result → Shared → Prop) (tk : Nat), A'.handled = none → (∀ s', Moved (s.heap.objs.size :: [s.heap.objs.size + 1]) (fun a b => b = a) { s with heap := twoNew s (!w.params.followText "set-order") l, toks := tk } s' → Good s'.heap → R (.ok (.ret .none)) s') →
      codeAny (model P w) A' (.builtin "set.update.loop" ⟨[.ref s.heap.objs.size, .ref (s.heap.objs.size + 1)], []⟩) R { s with heap := twoNew s (!w.params.followText "set-order") l, toks := tk })
    (h : ∀ (h' : Heap) (tk : Nat), Good h' → (∀ b o, s.heap.get? b = some o → h'.get? b = some o) → Q (.ref s.heap.objs.size) { s with heap := h', toks := tk }) : wpAny (model P w) A (call (.type "set") [.ref l]) Q E s := by
  have ⟨_, _, e0⟩ := F.called_set.mro
  have e1 := F.called_set.made; have e2 := F.called_set.sub; have e3 := F.called_set.notType; have e4 := F.called_set.canCreate; have e5 := F.typeCall_set_1 (.ref l)
  generalize hb : (!w.params.followText "set-order") = fl at loop
  apply wpAny_call
  apply codeAny_of_tree
  show wpAny _ _ (callAny (.type "set") _) _ _ _
  apply wpAny_pure
  refine And.intro (Code.quiet_builtin _ (by decide +kernel)) (codeAny_builtin F.entry_type_call ?_)
  rw [Around.under_plain (weight_type_call_type "set" [.ref l] []) rfl]
  repeat (any_goals (first | assumption | wp_step))
  apply codeAny_mono (code_set_led1 (.ref l) (E := E) (Q₁ := fun ob s1 => ob = .ref s.heap.objs.size ∧ s1 = { s with heap := s.heap.push (newSet fl) }) (by rw [hb]; exact And.intro rfl rfl))
  intro r s1 hr
  match r, hr with
  | .error e, hr => exact hr
  | .ok .next, hr => exact hr.elim
  | .ok .brk, hr => exact hr.elim
  | .ok .cont, hr => exact hr.elim
  | .ok (.ret ob), hr =>
    obtain ⟨rfl, rfl⟩ := hr
    have gS : (s.heap.push (newSet fl)).get? s.heap.objs.size = some (newSet fl) := Heap.get?_push_size _ rfl
    have tS : Shared.TypeIs { s with heap := s.heap.push (newSet fl) } (.ref s.heap.objs.size) "set" := Exists.intro _ (And.intro gS rfl)
    have e6 := F.called_set.init.lookup; have e7 := F.called_set.init.bind (.ref s.heap.objs.size)
    repeat (any_goals (first | assumption | wp_step))
    apply codeAny_mono (codeAny_call_builtin (R := wants (fun r s2 => r = .none ∧ ∃ h' tk, s2 = { s with heap := h', toks := tk } ∧ Good h' ∧ ∀ b o, s.heap.get? b = some o → h'.get? b = some o) E) F.called_set.init.plain F.entry_set_init (check_set_init_1 tS ?_))
    · intro r2 s2 hr2
      match r2, hr2 with
      | .error e, hr2 => exact hr2
      | .ok .next, hr2 => exact hr2.elim
      | .ok .brk, hr2 => exact hr2.elim
      | .ok .cont, hr2 => exact hr2.elim
      | .ok (.ret r3), hr2 =>
        obtain ⟨rfl, h', tk, rfl, gd, kp⟩ := hr2
        repeat (any_goals (first | assumption | wp_step))
        exact h h' _ gd kp
    · obtain ⟨⟨oc, od, odt, osl⟩, ho, hc, nl, hd⟩ := hl
      simp only at hc hd
      subst hc hd
      have gl : (s.heap.push (newSet fl)).get? l = some { cls := .type "list", dict := od, data := .seq its nl, slots := osl } := Heap.get?_push_of_some _ ho
      have s1 := F.sub_list_set; have s2 := F.sub_list_frozenset
      have s3 : (Value.type "list" == Value.type "dict") = false := by decide
      have il : (s.heap.push (newSet fl)).IsList l its := ⟨_, gl, rfl, nl, rfl⟩
      unfold Builtin.«set.__init__» noKeywords Builtin.Frozenset.updateFrom
      generalize hPI : pyIter = PI
      wp_walk
      subst hPI
      apply wpAny_pyIter_list il
      apply wpAny_bind
      apply wpAny_runValue
      have hz : (s.heap.push (newSet fl)).objs.size = s.heap.objs.size + 1 := Heap.size_push ..
      simp only [hz]
      refine loop _ _ _ (by simp [hh]) ?_
      intro s' hm gd
      obtain ⟨h', g', d', tk', os'⟩ := s'
      have q1 : g' = s.gens := hm.gens
      have q2 : d' = s.drawn := hm.drawn
      have q3 : os' = s.os := hm.os
      subst q1 q2 q3
      show wpAny _ _ _ _ _ _
      apply wpAny_pure
      show wpAny _ _ (ret Value.none) _ _ _
      apply wpAny_pure
      refine ⟨rfl, h', tk', rfl, gd, fun b o e => ?_⟩
      have lb := Heap.lt_size e
      exact hm.heap b o (by simp only [List.mem_cons, List.not_mem_nil, or_false, not_or]; exact ⟨Nat.ne_of_lt lb, Nat.ne_of_lt (Nat.lt_succ_of_lt lb)⟩) (Heap.get?_push_of_some _ (Heap.get?_push_of_some _ e))
/-- set(l) of ints -/
theorem set_ints {l : Addr} {its : Array Value} {ns : List Int} {Q : Value → Shared → Prop} (hh : A.handled = none) (hl : s.heap.IsList l its) (hi : IntsAre its.toList ns) (hb : ns.length + 1 < scanBound)
    (h : ∀ (h' : Heap) (tk c : Nat), SetR w h' s.heap.objs.size (fun j => decide (j ∈ ns)) c → c ≤ ns.length → (∀ b o, s.heap.get? b = some o → h'.get? b = some o) → Q (.ref s.heap.objs.size) { s with heap := h', toks := tk }) : wpAny (model P w) A (call (.type "set") [.ref l]) Q E s := by
  have ln : its.size = ns.length := by
    have q := IntsAre.length hi
    rwa [Array.length_toList] at q
  have lt : l < s.heap.objs.size := by
    obtain ⟨_, ho, _⟩ := hl
    exact Heap.lt_size ho
  refine set_by_loop (Good := fun h' => ∃ c, SetR w h' s.heap.objs.size (fun j => decide (j ∈ ns)) c ∧ c ≤ ns.length) hh hl (fun A' R tk hA fin => ?_) fun h' tk ⟨c, r, le⟩ kp => h h' tk c r le kp
  have nI : l ≠ s.heap.objs.size + 1 := Nat.ne_of_lt (Nat.lt_succ_of_lt lt)
  have at_ : ∀ (i : Nat) (v : Value), its[i]? = some v → ∃ k t, ns[i]? = some k ∧ v = .int k t := fun i v hv => by
    have lti : i < ns.length := by
      rw [← ln]
      exact (Array.getElem?_eq_some_iff.mp hv).1
    obtain ⟨t, e⟩ := PyProof.Rows.IntsAre.int_at hi i v (by rw [Array.getElem?_toList]; exact hv)
    exact ⟨ns[i], t, List.getElem?_eq_getElem lti, by rw [e, List.getD_eq_getElem?_getD, List.getElem?_eq_getElem lti] <;> rfl⟩
  have sz : (s.heap.push (newSet (!w.params.followText "set-order"))).objs.size = s.heap.objs.size + 1 := Heap.size_push ..
  have gS : (twoNew s (!w.params.followText "set-order") l).get? s.heap.objs.size = some (newSet (!w.params.followText "set-order")) := Heap.get?_push_of_some _ (Heap.get?_push_size _ rfl)
  have gI : (twoNew s (!w.params.followText "set-order") l).get? (s.heap.objs.size + 1) = some { cls := .type "list_iterator", data := .fields #[.ref l, .int 0 0] } := by
    rw [← sz]
    exact Heap.get?_push_size _ rfl
  exact set_update_ints (Walks.list (by simpa using hA) (s.heap.objs.size + 1) l nI its).toS s.heap.objs.size (by simp only [List.mem_cons, List.not_mem_nil, or_false, not_or]; exact ⟨Nat.ne_of_lt (Nat.lt_succ_self _), Nat.ne_of_gt lt⟩) ns ln hb at_ (its.size - 0) 0 _ rfl (Nat.zero_le _)
    ⟨⟨_, gI, rfl, rfl⟩, (hl.push _).push _⟩ ⟨0, Nat.le_refl 0, setR_new_at gS⟩ fun s' c mv le r => fin s' mv ⟨c, r, by rwa [← ln]⟩
/-- the loop that puts different texts into a set -/
theorem put_texts {I : Addr} {fp wr : List Addr} {G : Array GenState → Array GenState → Prop} {n : Nat} {Pv : Nat → Value → Prop} {St : Nat → Shared → Prop} {R : Result → Shared → Prop}
    (W : WalksS P w A.in1 I fp wr G n Pv St) (S : Addr) (off : S ∉ fp) (xs : List Str) (hn : xs.length = n) (nd : xs.Nodup) (hb : n + 1 < scanBound) (hv : ∀ i v, Pv i v → ∃ x t, xs[i]? = some x ∧ v = .str x t) :
    ∀ (k i : Nat) (s : Shared), i + k = n → St i s → s.heap.SetOf (PySem.strKind P w) S (fun y => decide (y ∈ xs.take i)) i →
      (∀ s', Moved (S :: wr) G s s' → s'.heap.SetOf (PySem.strKind P w) S (fun y => decide (y ∈ xs)) n → R (.ok (.ret .none)) s') → codeAny (model P w) A (.builtin "set.update.loop" ⟨[.ref S, .ref I], []⟩) R s := by
  have off2 : S ∉ wr := fun h => off (W.sub _ h)
  have more : ∀ b ∈ wr, b ∈ S :: wr := fun _ hb => List.mem_cons_of_mem _ hb
  intro k
  induction k with
  | zero =>
    intro i s e st hS fin
    have e : i = n := e
    subst e
    apply codeAny_builtin F.entry_set_update_loop
    rw [Around.under_plainId F.plain_set_update_loop _]
    show wpAny _ A.in1 (pyNext (.ref I) >>= _) _ _ s
    apply wpAny_bind
    refine W.done s _ _ st fun s' mv => wpAny_pure (fin s' (mv.mono more) ?_)
    obtain ⟨o, es, ep, t, ho, q⟩ := hS
    rw [List.take_of_length_le (Nat.le_of_eq hn)] at q
    exact ⟨o, es, ep, t, mv.heap S o off2 ho, q⟩
  | succ k ih =>
    intro i s e st hS fin
    apply codeAny_builtin F.entry_set_update_loop
    rw [Around.under_plainId F.plain_set_update_loop _]
    show wpAny _ A.in1 (pyNext (.ref I) >>= _) _ _ s
    apply wpAny_bind
    refine W.item i s _ _ (by omega) st fun v s1 hP st1 mv => ?_
    obtain ⟨x, t, hx, rfl⟩ := hv i v hP
    have h1 : s1.heap.SetOf (PySem.strKind P w) S (fun y => decide (y ∈ xs.take i)) i := by
      obtain ⟨o, es, ep, t, ho, q⟩ := hS
      exact ⟨o, es, ep, t, mv.heap S o off2 ho, q⟩
    show wpAny _ A.in1 (holding [Value.str x t] (setAdd S (.str x t)) >>= _) _ _ s1
    apply wpAny_bind
    apply wpAny_holding
    unfold setAdd
    apply wpAny_holding
    apply wpAny_bind
    refine (PySem.strKind P w).pyHash (k := x) (strKind_is _ _ _ _) ?_
    refine wpAny_setAddHashed_of (knd := PySem.strKind P w) (s := { s1 with toks := s1.toks + 1 }) (strKind_is _ _ _ _) rfl h1 (by omega) fun h2 same h3 => ?_
    have nx : x ∉ xs.take i := fun hm => by
      obtain ⟨j, hj⟩ := List.mem_iff_getElem?.mp hm
      rw [List.getElem?_take] at hj
      split at hj
      · rename_i c
        obtain ⟨lj, ej⟩ := List.getElem?_eq_some_iff.mp hj
        obtain ⟨li, ei⟩ := List.getElem?_eq_some_iff.mp hx
        exact List.pairwise_iff_getElem.mp nd j i lj li c (ej.trans ei.symm)
      · cases hj
    have h4 : h2.SetOf (PySem.strKind P w) S (fun y => decide (y ∈ xs.take (i + 1))) (i + 1) := PyProof.Rows.SetOf_congr h3 (fun y => by
      rw [List.take_add_one, hx]
      simp [List.mem_append]) (by rw [decide_eq_false nx] <;> rfl)
    have kp : ∀ b o, b ≠ S → s1.heap.get? b = some o → h2.get? b = some o := fun b o ne e => by
      rw [same.2 b ne]
      exact e
    refine wpAny_pure ⟨plainId_quiet F.plain_set_update_loop _, ih (i + 1) _ (by omega) (W.frame _ s1 _ _ st1 (Nat.le_succ _) fun b hb o e => kp b o (fun z => off (by rwa [← z])) e) h4 fun s3 mv3 hS3 => ?_⟩
    exact fin s3 (Moved.trans W.gtrans ((mv.mono more).then_heap (Nat.le_succ _) fun b o hb e => kp b o (fun z => hb (by rw [z]; exact List.mem_cons_self)) e) mv3) hS3
/-- set(l) of different texts -/
theorem set_texts {l : Addr} {its : Array Value} {xs : List Str} {Q : Value → Shared → Prop} (hh : A.handled = none) (hl : s.heap.IsList l its) (hi : StrsAre its.toList xs) (nd : xs.Nodup) (hb : xs.length + 1 < scanBound)
    (h : ∀ (h' : Heap) (tk : Nat), h'.SetOf (PySem.strKind P w) s.heap.objs.size (fun y => decide (y ∈ xs)) xs.length → (∀ b o, s.heap.get? b = some o → h'.get? b = some o) → Q (.ref s.heap.objs.size) { s with heap := h', toks := tk }) : wpAny (model P w) A (call (.type "set") [.ref l]) Q E s := by
  have ln : xs.length = its.size := by rw [← StrsAre.len_eq hi, Array.length_toList]
  have lt : l < s.heap.objs.size := by
    obtain ⟨_, ho, _⟩ := hl
    exact Heap.lt_size ho
  refine set_by_loop (Good := fun h' => h'.SetOf (PySem.strKind P w) s.heap.objs.size (fun y => decide (y ∈ xs)) xs.length) hh hl (fun A' R tk hA fin => ?_) fun h' tk r kp => h h' tk r kp
  have nI : l ≠ s.heap.objs.size + 1 := Nat.ne_of_lt (Nat.lt_succ_of_lt lt)
  have at_ : ∀ (i : Nat) (v : Value), its[i]? = some v → ∃ x t, xs[i]? = some x ∧ v = .str x t := fun i v hv => by
    have lti : i < xs.length := by
      rw [ln]
      exact (Array.getElem?_eq_some_iff.mp hv).1
    obtain ⟨t, e⟩ := SS.strs_at hi i v (by rw [Array.getElem?_toList]; exact hv)
    exact ⟨xs[i], t, List.getElem?_eq_getElem lti, by rw [e, List.getD_eq_getElem?_getD, List.getElem?_eq_getElem lti] <;> rfl⟩
  have sz : (s.heap.push (newSet (!w.params.followText "set-order"))).objs.size = s.heap.objs.size + 1 := Heap.size_push ..
  have gS : (twoNew s (!w.params.followText "set-order") l).get? s.heap.objs.size = some (newSet (!w.params.followText "set-order")) := Heap.get?_push_of_some _ (Heap.get?_push_size _ rfl)
  have gI : (twoNew s (!w.params.followText "set-order") l).get? (s.heap.objs.size + 1) = some { cls := .type "list_iterator", data := .fields #[.ref l, .int 0 0] } := by
    rw [← sz]
    exact Heap.get?_push_size _ rfl
  exact put_texts (Walks.list (by simpa using hA) (s.heap.objs.size + 1) l nI its).toS s.heap.objs.size (by simp only [List.mem_cons, List.not_mem_nil, or_false, not_or]; exact ⟨Nat.ne_of_lt (Nat.lt_succ_self _), Nat.ne_of_gt lt⟩) xs ln nd (by rw [← ln]; exact hb) at_ its.size 0 _ (Nat.zero_add _)
    ⟨⟨_, gI, rfl, rfl⟩, (hl.push _).push _⟩ (PyProof.Rows.SetOf_congr ((PyProof.Rows.setObjOf_fresh (knd := PySem.strKind P w) _).setOf gS (by unfold scanBound; omega)) (fun _ => rfl) rfl) fun s' mv r => fin s' mv (by rw [ln]; exact r)
end
section
variable {X : Cx} {K : PySem.W.Frag}
/-- set(l) of ints, by place -/
def rSetInts (w : World) (K : PySem.W.Frag) : List V → Hp → VK → Prop := fun vs H Q => ∃ (a : Addr) (ns : List Int), vs = [V.ref a] ∧ SqL K H a (iv ns) ∧ ns.length < 4000 ∧ ∀ (p : Addr) (n : Nat), H p = none → n ≤ ns.length → Q (.ref p) (upd H p (SetO w p (fun j => decide (j ∈ ns)) n))
theorem cr_setInts (hc : X.calm = true) {w : World} (hw : X.w = w := by rfl) (hK : X.K = K := by rfl) : CallR X (.type "set") (rSetInts w K) := by
  subst hw hK
  intro pins s σ H vs us Q I r h
  obtain ⟨a, ns, rfl, ha, hn, q⟩ := h
  rw [Vals.ref1 r]
  obtain ⟨its, rv, pl, hz⟩ := I.list ha
  refine set_ints (ns := ns) (I.ok.hd hc) pl.isList (by simpa using RZ.intsAre_vals rv) (by unfold scanBound; omega) fun h' tk c R le kp => ?_
  have np : H s.heap.objs.size = none := I.hok.fresh (Nat.le_refl _)
  exact ⟨.ref s.heap.objs.size, _, I.laid (t' := tk) kp (Nat.le_refl _) (setO_new R), rfl, q _ c np le⟩
def rSortedSetL' (w : World) : List V → Hp → VK → Prop := fun vs H Q => ∃ (a : Addr) (ks : List Int) (n : Nat), vs = [V.ref a] ∧ H a = some (SetO w a (fun j => decide (j ∈ ks)) n) ∧ n ≤ sizeLine ∧ ∀ (ns : List Int) (p : Addr), ns.Pairwise (· < ·) → (∀ k : Int, k ∈ ns ↔ k ∈ ks) → ns.length = n → H p = none → Q (.ref p) (upd H p (.lst (iv ns)))
theorem cr_sortedOf (hc : X.calm = true) {w : World} (hw : X.w = w := by rfl) : CallR X (.builtin "sorted") (rSortedSetL' w) := by
  subst hw
  intro pins s σ H vs us Q I r h
  obtain ⟨a, ks, n, e, ha, hn, q⟩ := h
  exact cr_sortedSetL hc pins s σ H vs us Q I r ⟨a, _, n, e, ha, hn, fun ns p h1 h2 h3 h4 => q ns p h1 (fun k => by rw [h2 k, decide_eq_true_iff]) h3 h4⟩
/-- len(set(l)) of different texts -/
def tLenTexts (K : PySem.W.Frag) (ta : TE) : TE := fun σ H Q => ta σ H fun x H1 => ∃ (l : Addr) (xs : List Str), x = .ref l ∧ SqL K H1 l (xs.map V.str) ∧ xs.Nodup ∧ xs.length ≤ 4000 ∧ Q (.int (xs.length : Nat)) H1
theorem pe_lenTexts {a : Expr} {ta : TE} {p p2 q pos : Pos} (hg : Gl X "len") (hm : X.mg "len" = none) (hg2 : Gl X "set") (hm2 : X.mg "set" = none) (ha : PE X a ta) (hc : X.calm = true := by rfl) (hK : X.K = K := by rfl)
    (na : starEach [a] X.env = (false, eval a X.env) :: starEach [] X.env := by rfl) : PE X (.Call (.Name "len" p) [.Call (.Name "set" p2) [a] [] q] [] pos) (tLenTexts K ta) := by
  subst hK
  refine ⟨fun pins s σ H Q I h => Call_ (ld_blt I hg hm boot_len ?_)⟩
  apply PyProof.Rows.callWith_builtin1 (PyProof.Rows.args_cons ?_ rfl) rfl rfl
  refine Call_ ?_
  refine ld_blt I hg2 hm2 boot_set (PyProof.Rows.callWith_type1 (PyProof.Rows.args_cons (thn (ha.run pins s σ H _ I h) fun v s1 z => PyProof.Rows.args_nil ?_) na) na rfl)
  obtain ⟨x, H1, I1, r1, l, xs, rfl, hq, nd, le, q1⟩ := z
  cases r1
  obtain ⟨its, r, pl, hz⟩ := I1.list hq
  refine set_texts (xs := xs) (I1.ok.hd hc) pl.isList (by simpa using strsAre_of r) nd (by unfold scanBound; omega) fun h' tk hS kp => PyProof.Rows.args_nil ?_
  obtain ⟨o, es, ep, t, ho, hex, hd, _, _, _, hf, hn⟩ := hS
  have I2 : Inv X pins σ H1 { s1 with heap := h', toks := tk } := I1.kept kp
  exact call_len_set ho hex hd hf (by rw [hn] <;> omega) ⟨.int xs.length, H1, I2.tok _, ⟨_, by rw [hn]⟩, q1⟩
end
end Sq


namespace Sq
open PySem PySem.Spec PyProof.Rows L2
/-! ## ranges of wide ints -/
theorem turn_wide {P : Program} {w : World} {K : PySem.W.Frag} {tg : Expr} (z : Addr) (lo : Int) (n : Nat) : Turn P w K tg (Itr lo n) [z] z (fun i h => IsLongIter h z (lo + (i : Nat) * 1) ((n : Int) - (i : Nat)) 1) := by
  refine ⟨List.mem_singleton.mpr rfl, fun i h st b hb => ?_, fun i h h2 st k => k z (List.mem_singleton.mpr rfl) _ st, ?_, ?_, fun A i s Q E st h => wpAny_pyIter_longiter st h⟩
  · rw [List.mem_singleton.mp hb]
    exact ⟨_, st, fun v c => by cases (show Data.fields _ = Data.cell v from c)⟩
  · rintro X rfl rfl rfl hc i pins s σ H E I hf st hg
    have f := hf z (List.mem_singleton.mpr rfl)
    refine (Walks.longrange (prog := X.prog) (w := X.w) (I.ok.hd hc) z lo 1 n).item i s _ _ hg st fun v h2 tk hv st2 kk => ?_
    obtain ⟨t, rfl⟩ := hv
    have J : Inv X pins σ H { s with heap := h2, toks := tk } := I.turned (fun b o hb e => kk b o (fun m => hb (List.mem_singleton.mp m)) e) f.1 f.2.1 f.2.2.2.1 f.2.2.2.2.1 f.2.2.2.2.2
    refine ⟨_, rfl, go_of (s := { s with heap := h2, toks := tk }) (n := "longrange_iterator") st2 rfl rfl (by decide) ⟨.int (lo + i), H, J, ⟨t, by rw [Int.mul_one]⟩, ⟨rfl, rfl⟩, st2, fun b hb => (hf b hb).1⟩⟩
  · rintro X rfl rfl rfl hc i pins s σ H E I hf st hg
    have f := hf z (List.mem_singleton.mpr rfl)
    have m : n ≤ i := hg
    exact wpAny_pyNext_long_end (I.ok.hd hc) st (by omega) fun h2 k => ⟨rfl, I.turned (t' := s.toks) (fun b o hb e => k b o hb e) f.1 f.2.1 f.2.2.2.1 f.2.2.2.2.1 f.2.2.2.2.2⟩
section
variable {X : Cx} {tg a b : Expr} {t : TA} {p pos : Pos}
theorem rsz (lo hi : Int) : Builtin.Range.rangeSize lo hi 1 = ((hi - lo).toNat : Int) := by
  rw [rangeSize_one]
  split <;> omega
theorem wide_it {pins : List (Addr × Obj)} {σ : L2.St} {H : Hp} {s : Shared} {R : It → Hp → Prop} {E : Value → Shared → Prop} {lo hi : Int} {t u v : Tok} {tk : Nat} (I : Inv X pins σ H s) (q : R (Itr lo (hi - lo).toNat) H) :
    wpAny (model X.prog X.w) X.A (pyIter (.ref s.heap.objs.size)) (PIE X pins σ tg R) E { s with heap := s.heap.push { cls := .type "range", data := .fields #[.int lo t, .int hi u, .int 1 v] }, toks := tk } := by
  have J : Inv X pins σ H { s with heap := s.heap.push { cls := .type "range", data := .fields #[.int lo t, .int hi u, .int 1 v] }, toks := tk } := I.kept fun b o e => Heap.get?_push_of_some _ e
  have z0 : lo + ((0 : Nat) : Int) * 1 = lo := by omega
  have z1 : (((hi - lo).toNat : Nat) : Int) - ((0 : Nat) : Int) = Builtin.Range.rangeSize lo hi 1 := by
    rw [rsz]
    omega
  by_cases sm : Builtin.Range.small lo hi 1 = true
  · refine wpAny_pyIter_range (IsRange.new ..) sm ⟨(s.heap.push { cls := .type "range", data := .fields #[.int lo t, .int hi u, .int 1 v] }).objs.size, [(s.heap.push { cls := .type "range", data := .fields #[.int lo t, .int hi u, .int 1 v] }).objs.size], _, _, H, rfl,
      J.kept (t' := tk) fun b o e => Heap.get?_push_of_some _ e, turn_range _ lo (hi - lo).toNat, ?_, fun b hb => ?_, q⟩
    · show IsRangeIter _ _ (lo + ((0 : Nat) : Int) * 1) ((((hi - lo).toNat : Nat) : Int) - ((0 : Nat) : Int)) 1
      rw [z0, z1]
      exact Heap.get?_push_size _ rfl
    · rw [List.mem_singleton.mp hb]
      exact J.fpOk (Nat.le_refl _) (J.hok.fresh (Nat.le_refl _))
  · refine wpAny_pyIter_longrange (IsRange.new ..) (Bool.not_eq_true _ ▸ sm) ⟨(s.heap.push { cls := .type "range", data := .fields #[.int lo t, .int hi u, .int 1 v] }).objs.size, [(s.heap.push { cls := .type "range", data := .fields #[.int lo t, .int hi u, .int 1 v] }).objs.size], _, _, H, rfl,
      J.kept (t' := tk) fun b o e => Heap.get?_push_of_some _ e, turn_wide _ lo (hi - lo).toNat, ?_, fun b hb => ?_, q⟩
    · show IsLongIter _ _ (lo + ((0 : Nat) : Int) * 1) ((((hi - lo).toNat : Nat) : Int) - ((0 : Nat) : Int)) 1
      rw [z0, z1]
      exact Heap.get?_push_size _ rfl
    · rw [List.mem_singleton.mp hb]
      exact J.fpOk (Nat.le_refl _) (J.hok.fresh (Nat.le_refl _))
def iRngW (t : TA) : TI := fun σ H R => t σ H fun vs H1 => ∃ i j : Int, vs = [.int i, .int j] ∧ R (Itr i (j - i).toNat) H1
theorem pi_range2W (hg : Gl X "range") (hm : X.mg "range" = none) (ha : PA X [a, b] t) (h1 : starEach [a, b] X.env = [(false, eval a X.env), (false, eval b X.env)] := by rfl) (h2 : starEach [b] X.env = [(false, eval b X.env)] := by rfl) :
    PI X tg (.Call (.Name "range" p) [a, b] [] pos) (iRngW t) := by
  refine ⟨fun pins s σ H R I h => Call_ (ld_blt I hg hm boot_range (PyProof.Rows.callWith_type1 (thn (ha.run pos pins s σ H _ I h) fun us s1 hx => ?_) (by rw [h1, h2]) (by rw [h2]; rfl)))⟩
  obtain ⟨vs, H1, J, r, i, j, rfl, q⟩ := hx
  obtain ⟨u, v, rfl, ⟨c, rfl⟩, ⟨d, rfl⟩⟩ : ∃ u v, us = [u, v] ∧ RelV (.int i) u ∧ RelV (.int j) v := by
    cases r with
    | cons r1 r => cases r with
      | cons r2 r => cases r; exact ⟨_, _, rfl, r1, r2⟩
  exact call_range_2 (wide_it J q)
end
/-! ## parts of a list -/
theorem cut_from (xs : List V) (k : Nat) : cutV xs (some (k : Int)) none = xs.drop k := by
  unfold cutV
  rw [HT.sIx_nat, HT.sIx_none]
  rcases Nat.le_total k xs.length with h | h
  · rw [Nat.min_eq_left h]
    exact List.take_of_length_le (by rw [List.length_drop]; omega)
  · rw [Nat.min_eq_right h, List.drop_eq_nil_of_le (Nat.le_refl _), List.drop_eq_nil_of_le h]
    simp
theorem cut_to (xs : List V) (k : Nat) : cutV xs none (some (k : Int)) = xs.take k := by
  unfold cutV
  rw [HT.sIx_nat, HT.sIx_none, List.drop_zero, Nat.sub_zero]
  rcases Nat.le_total k xs.length with h | h
  · rw [Nat.min_eq_left h]
  · rw [Nat.min_eq_right h, List.take_of_length_le (Nat.le_refl _), List.take_of_length_le h]
theorem cut_mid (xs : List V) (j k : Nat) : cutV xs (some (j : Int)) (some (k : Int)) = (xs.drop j).take (k - j) := by
  unfold cutV
  rw [HT.sIx_nat, HT.sIx_nat]
  rcases Nat.le_total j xs.length with h | h
  · rw [Nat.min_eq_left h]
    rcases Nat.le_total k xs.length with h2 | h2
    · rw [Nat.min_eq_left h2]
    · rw [Nat.min_eq_right h2, List.take_of_length_le (by rw [List.length_drop]; omega), List.take_of_length_le (by rw [List.length_drop]; omega)]
  · rw [Nat.min_eq_right h, List.drop_eq_nil_of_le (Nat.le_refl _), List.drop_eq_nil_of_le h]
    simp
theorem iv_drop (ns : List Int) (k : Nat) : (iv ns).drop k = iv (ns.drop k) := by simp
theorem iv_take (ns : List Int) (k : Nat) : (iv ns).take k = iv (ns.take k) := by simp
/-! ## a op b op c op d -/
def tChain3 (r r' r'' : R2) (ta tb tc td : TE) : TE := fun σ H Q => ta σ H fun x H1 => tb σ H1 fun y H2 => r x y H2 fun z H3 => ∃ k, z = .bl k ∧
  (if k = true then tc σ H3 fun v H4 => r' y v H4 fun z' H5 => ∃ k', z' = .bl k' ∧ (if k' = true then td σ H5 fun u H6 => r'' v u H6 Q else Q (.bl false) H5) else Q (.bl false) H3)
section
variable {X : Cx} {a b c d : Expr} {ta tb tc td : TE} {pos : Pos} {op op' op'' : CmpOp} {r r' r'' : R2}
theorem pt_chain3 (h1 : OpR X (compareOp op) r) (h2 : OpR X (compareOp op') r') (h3 : OpR X (compareOp op'') r'') (ha : PE X a ta) (hb : PE X b tb) (hc : PE X c tc) (hd : PE X d td)
    (hm : lastMarks [op, op', op''] [b, c, d] = false := by with_unfolding_all rfl) : PT X (.Compare a [op, op', op''] [b, c, d] pos) (tTest (tChain3 r r' r'' ta tb tc td)) := by
  refine ⟨fun pins s σ H Q I h => isTrue_chain (thn (ha.run pins s σ H _ I h) fun v s1 ⟨x, H1, I1, r1, q1⟩ => test_link (thn (hb.run pins s1 σ H1 _ I1 q1) fun u s2 ⟨y, H2, I2, r2, q2⟩ =>
    thn (h1 pins s2 σ H2 x y v u _ I2 r1 r2 q2) fun e s3 ⟨z, H3, I3, r3, k, ez, q3⟩ => ?_)) hm⟩
  subst ez
  cases r3
  refine wpAny_truthy_bool ?_
  cases k with
  | false =>
    obtain ⟨k2, e2, q2⟩ := q3
    cases e2
    exact ite_ff ⟨H3, I3, q2⟩
  | true =>
    refine ite_tt (test_link (thn (hc.run pins s3 σ H3 _ I3 q3) fun w4 s4 ⟨y4, H4, I4, r4, q4⟩ => thn (h2 pins s4 σ H4 y y4 u w4 _ I4 r2 r4 q4) fun e5 s5 ⟨z5, H5, I5, r5, k5, e5', q5⟩ => ?_))
    subst e5'
    cases r5
    refine wpAny_truthy_bool ?_
    cases k5 with
    | false =>
      obtain ⟨k2, e2, q2⟩ := q5
      cases e2
      exact ite_ff ⟨H5, I5, q2⟩
    | true =>
      refine ite_tt (test_last (thn (hd.run pins s5 σ H5 _ I5 q5) fun w6 s6 ⟨y6, H6, I6, r6, q6⟩ => thn (h3 pins s6 σ H6 y4 y6 w4 w6 _ I6 r4 r6 q6) fun e7 s7 ⟨z7, H7, I7, r7, k7, e7', q7⟩ => ?_))
      subst e7'
      cases r7
      exact wpAny_truthy_bool ⟨H7, I7, q7⟩
end
end Sq


set_option Elab.async false
set_option maxRecDepth 100000
set_option maxHeartbeats 4000000
namespace Sq
open PySem PySem.Spec PyProof.Rows L2
/-! ## an own exception's __init__(self, value): super().__init__(text); self.value = value -/
section
open PySem.W PySem.Calls
variable {prog : Program} {w : World} {A : Around} {E : Value → Shared → Prop} {h : Heap} {g : Array GenState} {d : Drawn} {t : Nat} {os : OsState}
variable {nm q : Str} {C N : Addr} {bs bm : List Value} {hdct : Bool} {sn : List Str} {sub : List Value} {ab : Bool} {col : Option Bool} {dd : Option Addr} {k0 k1 k2 k3 k5 : Option Value}
/-- ValueError.__init__, bound to e, called -/
theorem call_vw {u e t0 : Addr} {rest : List Value} {Q : Value → Shared → Prop}
    (hC : h.get? C = some (excClassObj nm q C N bs bm hdct sn sub ab col dd k0 k1 k2 k3 k5 "ValueError.__new__")) (he : h.get? e = some (HandSPX.excO C t0)) (hu : h.get? u = some (kxs_mw "ValueError.__init__" e)) (hrest : rest.length ≤ sizeLine)
    (hq : ∀ h' t1, (∀ b o, b ≠ e → h.get? b = some o → h'.get? b = some o) → h'.get? e = some (HandSPX.excO C t1) → Q .none ⟨h', g, d, t, os⟩) :
    wpAny (model prog w) A (call (.ref u) rest) Q E ⟨h, g, d, t, os⟩ := by
  refine wpAny_call (codeAny_of_tree ?_)
  show wpAny _ A.in1 (callAny (.ref u) ⟨rest, []⟩) _ _ _
  simp only [callAny]
  refine wpAny_bind (wpAny_load hu ?_)
  simp only [kxs_mw, show (Value.type "method-wrapper" == Value.type "method" || Value.type "method-wrapper" == Value.type "builtin_function_or_method" || Value.type "method-wrapper" == Value.type "method-wrapper") = true by decide, if_true]
  refine W.KFB.if_so (by decide) ?_
  refine wpAny_bind (check_bound_init F.excBase_ValueError.toExcCallFacts hC he rfl ?_)
  refine wpAny_bind (wpAny_pure (wpAny_pure ⟨Code.quiet_builtin _ (by decide +kernel), codeAny_builtin F.excBase_ValueError.initEntry ?_⟩))
  exact exc_init_tree (cls := .ref C) (t0 := t0) (dv := none) (c2 := .none) (c3 := .none) (b4 := .bool false) he hrest fun h' k e' _ => hq h' h.objs.size k e'
end

def spXI (C : Addr) : Sp := fun vs H Q _ => ∃ (a : Addr) (v : V), vs = [.ref a, v] ∧ H a = some (exo a C none) ∧ ∀ dx, H dx = none → dx ≠ a → Q .non (upd (upd H dx (exd dx [("value", v)])) a (exo a C (some dx)))
/-- what the written part says of such an __init__ -/
structure XIn (P : Program) (K : PySem.W.Frag) (C f cc cda : Addr) (qual file : Str) : Prop where
  code : PySem.W.codeIn K (.ref cda) qual = true
  cell : ∃ cl cld csl, K.lookup cc = some ⟨cl, cld, .cell (some (.ref C)), csl⟩
  rec_ : ∃ ccl cdd vs ccs tf, K.lookup cda = some ⟨ccl, cdd, .fields vs, ccs⟩ ∧ vs[2]? = some (.str file tf)
  file : ((P.main.file : Str) == file) = true
  top : (P.main.scope.names.lookup ("super" : Str)).isSome = false
  opq : PySem.W.nsIn K PySem.cStatics "thirdparty.any" = some none
  sup : PySem.W.ks_superIn K C C "__init__" = some (some (.builtin "ValueError.__init__"))
  veb : PySem.W.subIn K (.ref C) (.type "ValueError") = some true
  self : PySem.W.mroIn K C (.ref C) = some true
  val : PySem.W.findIn K (.ref C) "value" = some none
abbrev xiScope : Scope := ⟨.function, [("self", .local), ("value", .local), ("__class__", .free), ("super", .globalImplicit)], false, false, []⟩
abbrev xiArgs (q0 q1 : Pos) : Arguments := { posonlyargs := [], args := [{ arg := "self", annotation := none, pos := q0 }, { arg := "value", annotation := none, pos := q1 }], vararg := none, kwonlyargs := [], kw_defaults := [], kwarg := none, defaults := [] }
abbrev xiBody (m : Str) (p0 p1 p2 p3 p4 p5 p6 p7 p8 p9 : Pos) : List Stmt := [.Expr (.Call (.Attribute (.Call (.Name "super" p0) [] [] p1) "__init__" p2) [.Constant (.str m) 0 p3] [] p4) p5, .Assign [.Attribute (.Name "self" p6) "value" p7] (.Name "value" p8) p9]
theorem xi_S : NdefX.NScope ["self", "value", "__class__"] ["self", "value"] ["__class__"] xiScope := NdefX.nscope_by (by decide +kernel)
/-- how the call of super().__init__ begins (by rfl, once the places are known) -/
def XiCall (qual : Str) (f cc cda : Addr) (m : Str) (p0 p1 p2 p3 p4 : Pos) : Prop := ∀ L : Addr, eval (.Call (.Attribute (.Call (.Name "super" p0) [] [] p1) "__init__" p2) [.Constant (.str m) 0 p3] [] p4) (PySem.W.ksEnv qual xiScope L f (.ref cda) cc) = (do
  let ov ← attributeBase (.Call (.Name "super" p0) [] [] p1) "__init__" (PySem.W.ksEnv qual xiScope L f (.ref cda) cc) (eval (.Call (.Name "super" p0) [] [] p1) (PySem.W.ksEnv qual xiScope L f (.ref cda) cc))
  standAt p2.atName
  let (g, first) ← holding [ov] (getMethod ov "__init__" (do return (← importBound (.Call (.Name "super" p0) [] [] p1) (PySem.W.ksEnv qual xiScope L f (.ref cda) cc)).getD true))
  callWith p4 g first (backTo p4 (starEach [.Constant (.str m) 0 p3] (PySem.W.ksEnv qual xiScope L f (.ref cda) cc))) [])
theorem ok_xi {P : Program} {w : World} {K : PySem.W.Frag} {mg : Str → Option Value} {base : Heap} {CX : CXT} {k : Nat} {C f cc cda : Addr} {qual file : Str} {kV doc pm ct oc : Value} {an od : Option Addr} {osl : Array (Option Value)}
    {p0 p1 p2 p3 p4 p5 p6 p7 p8 p9 q0 q1 : Pos} {m : Str} (T : OexC K C) (XI : XIn P K C f cc cda qual file)
    (lk : K.lookup f = some ⟨oc, od, .func (PySem.W.ksFn "__init__" qual (xiArgs q0 q1) (xiBody m p0 p1 p2 p3 p4 p5 p6 p7 p8 p9) xiScope .none kV doc pm an (.ref cda) ct cc), osl⟩) (hms : mg "super" = none) (he : XiCall qual f cc cda m p0 p1 p2 p3 p4) :
    FnOk P w K mg base CX (k + 1) f (PySem.W.ksFn "__init__" qual (xiArgs q0 q1) (xiBody m p0 p1 p2 p3 p4 p5 p6 p7 p8 p9) xiScope .none kV doc pm an (.ref cda) ct cc) ["self", "value"] (spXI C) := by
  refine ⟨fun vs H Q E h => by obtain ⟨a, v, rfl, _⟩ := h; rfl, fun A outer s H args us vs Q E hr e0 hbind r hsp => ?_⟩
  obtain ⟨a, v, rfl, ha, hq⟩ := hsp
  have KX : K.In s.heap := e0.mod.kin.keeps fun b o e => (e0.bs b o e).1
  have lim : s.heap.NoLimit := e0.mod.nolimit.keeps fun b o e => (e0.bs b o e).1
  obtain ⟨cl, cld, csl, hcell⟩ := XI.cell
  obtain ⟨ccl, cdd, cvs, ccs, tf, hcode, hvs⟩ := XI.rec_
  refine PySem.ks_codeAny_call_defAt (binds := (["self", "value"] : List Str).zip us) hr.depth (KX _ _ lk) rfl lim (PySem.W.codeRec_of KX XI.code) rfl hbind xi_S.nocell (fun ⟨n, _⟩ hy => xi_S.par n (List.of_mem_zip hy).1) (fun h1 hns kp => ?_) xi_S.co xi_S.gen xi_S.kind
  have S := xi_S
  let F : NdefX.NF := ⟨"__init__", qual, xiArgs q0 q1, xiBody m p0 p1 p2 p3 p4 p5 p6 p7 p8 p9, xiScope, [("__class__", cc)], cda⟩
  have cells : NdefX.CellsAt F.cl ["__class__"] [none] s.heap H := by
    have one : ∀ y c, F.cl.lookup y = some c → y = ("__class__" : Str) ∧ c = cc := fun y c e => by
      have e' : ([("__class__", cc)] : List (Str × Addr)).lookup y = some c := e
      by_cases z : y = ("__class__" : Str)
      · subst z
        simp [List.lookup] at e'
        exact ⟨rfl, e'.symm⟩
      · have z2 : (y == ("__class__" : Str)) = false := by simpa using z
        simp [List.lookup, z2] at e'
    refine ⟨rfl, fun y c e => ?_, fun x y c e1 e2 => ?_, fun i y e => ?_⟩
    · rw [(one y c e).2]
      exact ⟨(e0.bs _ _ (e0.mod.kin _ _ hcell)).2, _, ⟨_, KX _ _ hcell, rfl⟩⟩
    · rw [(one x c e1).1, (one y c e2).1]
    · cases i with
      | zero =>
        obtain rfl : ("__class__" : Str) = y := by simpa using e
        exact ⟨cc, by simp [F, List.lookup], fun v h => by simp at h⟩
      | succ i => simp at e
  have I : Inv (NdefX.ncx CX P w K mg base ["self", "value", "__class__"] F f A outer s H E) [] (NdefX.startF ["self", "value", "__class__"] [.ref a, v] [none]) H { s with heap := h1, toks := s.toks + ((["self", "value"] : List Str).zip us).length } :=
    NdefX.inv_startN (F := F) S hr.hd e0 rfl r cells hns kp
  have K1 : K.In h1 := KX.keeps kp
  show PySem.wpAt (model P w) (A.deeper (PySem.W.ksEnv qual xiScope s.heap.objs.size f (.ref cda) cc)) (.func (xiBody m p0 p1 p2 p3 p4 p5 p6 p7 p8 p9) (PySem.W.ksEnv qual xiScope s.heap.objs.size f (.ref cda) cc)) (execs (xiBody m p0 p1 p2 p3 p4 p5 p6 p7 p8 p9) (PySem.W.ksEnv qual xiScope s.heap.objs.size f (.ref cda) cc)) _ _ _
  refine ks_wpAt_execs_cons (ks_wpAt_Expr_any (ks_wpAt_MethodCall ?_ (he _)))
  refine ks_wpAt_super_base (env := NdefX.envF F f s.heap.objs.size) rfl rfl (by decide) rfl (K1 _ _ lk) rfl rfl rfl (K1 _ _ hcode) rfl hvs XI.file XI.top ?_
  obtain ⟨nm, q, N, bs, bm, sn, sub, ab, col, dd, k0, k1, k2, k3, k5, hC, hbm⟩ := T.cls
  have hcl : PySem.W.clsIn K C = some { name := nm, bases := bs, mro := .ref C :: bm, ns := N, qualname := q, hasDict := true, slotNames := sn, subclasses := sub, abstract := ab, collection := col, hasDel := false } := by unfold PySem.W.clsIn; rw [hC] <;> rfl
  obtain ⟨mb, hb1, hb2⟩ := I.mod.blt
  obtain ⟨t1, hoe⟩ := exo_at I.hok ha
  have hself : (((["self", "value"] : List Str).zip us).reverse.lookup ("self" : Str)) = some (Value.ref a) := by
    cases r with
    | cons r1 r => cases r with
      | cons r2 r =>
        cases r
        obtain rfl := r1
        rfl
  refine PySem.W.ks_loadName_global rfl rfl (Calls.loadGlobal_builtin (I.mod.glob.keeps I.bk) hms (hb1.keeps I.bk) ((hb2 _ (by decide)).trans PyProof.Rows.Boot.«super») ⟨rfl, ?_⟩)
  refine wpAny_loadName_free rfl rfl rfl ⟨_, K1 _ _ hcell, rfl⟩ ?_
  refine wpAny_loadName_local rfl rfl hns hself ?_
  refine ks_wpAny_isType_cls (K1 _ _ hC) rfl ⟨rfl, ?_⟩
  refine ks_wpAny_call_super (K1 _ _ hC) rfl hoe rfl (fun c e => by cases e) (PySem.W.looks_mroIn K1 XI.self) (fun h2 e2 kp2 => ?_)
  have I2 := I.kept (t' := s.toks + ((["self", "value"] : List Str).zip us).length) kp2
  have K2 : K.In h2 := K1.keeps kp2
  obtain ⟨t2, hoe2⟩ := exo_at I2.hok ha
  have at2 : PySem.W.InstAt h2 a { cls := .ref C, dict := none, data := .fields #[.ref t2, .none, .none, .none, .bool false, .none] } C none := ⟨hoe2, rfl, rfl, trivial⟩
  have hsup : PySem.W.alongIn K "__init__" (((.ref C :: bm).dropWhile (· != Value.ref C)).drop 1) = some (some (.builtin "ValueError.__init__")) := by
    have z := XI.sup
    unfold PySem.W.ks_superIn at z
    rw [hcl] at z
    exact z
  refine PySem.W.kxs_getMethod PySem.W.kxs_ValueError e2 (PySem.W.looks_opaque K2 XI.opq) (l₀ := .ref C :: bm) ((PySem.W.looks_clsIn K2 hcl).andThen .now) rfl K2 hsup (at2.type.andThen (PySem.W.looks_subIn K2 XI.veb)) (PySem.W.ks_ne K2 at2 hcl) (by decide) ?_
  have I3 := I2.kept (h' := h2.push (PySem.W.kxs_mw "ValueError.__init__" a)) (t' := s.toks + ((["self", "value"] : List Str).zip us).length + 1) fun b o e => Heap.get?_push_of_some _ e
  refine PySem.W.kxs_callWith (i := "ValueError.__init__") (x := a) rfl (Calls.evalArgs_plain (Calls.spliced_cons (Calls.Constant_str (pos := p3) (k := 0) (Calls.spliced_nil ⟨Heap.get?_push_at rfl rfl, ?_⟩))))
  have I4 := I3.tok (s.toks + ((["self", "value"] : List Str).zip us).length + 1 + 1)
  obtain ⟨t4, hoe4⟩ := exo_at I4.hok ha
  refine call_vw (t0 := t4) (Heap.get?_push_of_some _ (K2 _ _ hC)) hoe4 (Heap.get?_push_at rfl rfl) (by simp [sizeLine_eq]) fun h5 t5 k5 e5 => ?_
  have J0 := I4.write (h' := h5) (t' := s.toks + ((["self", "value"] : List Str).zip us).length + 1 + 1) (x := a) (e := a) (o := exo a C none) (by rw [ha]; exact True.intro) (.inl rfl) k5 ⟨_, e5⟩ (exo_ok e5)
  have eu : upd H a (exo a C none) = H := by
    funext b
    by_cases hb : b = a
    · rw [hb, upd_same, ha]
    · rw [upd_ne hb]
  rw [eu] at J0
  show PySem.wpAt _ _ _ (execs [.Assign [.Attribute (.Name "self" p6) "value" p7] (.Name "value" p8) p9] _) _ _ _
  refine wpAt_of_wpAny ?_
  have pst : PSs (NdefX.ncx CX P w K mg base ["self", "value", "__class__"] F f A outer s H E) [.Assign [.Attribute (.Name "self" p6) "value" p7] (.Name "value" p8) p9] (tOst K "value" (tVar 0) (tVar 1)) := pss_one (ps_ost (pv 0) (pv 1) rfl)
  refine wpAny_mono (pst.run [] _ _ H { nx := fun _ H' => Q .non H', rt := Q } J0 ⟨v, rfl, .ref a, rfl, a, C, rfl, T, XI.val, .inl ⟨ha, fun dx n ne => hq dx n ne⟩⟩) (fun fl s' hs => ?_) fun e s' hs => hs
  cases fl with
  | ret u =>
    obtain ⟨v, σ', H', J, rv, q⟩ := hs
    exact ⟨v, H', J.os, J.bare, J.base, J.hok, rv, q⟩
  | next =>
    obtain ⟨σ', H', J, q⟩ := hs
    exact ⟨.non, H', J.os, J.bare, J.base, J.hok, rfl, q⟩
  | brk =>
    obtain ⟨_, _, _, q⟩ := hs
    exact False.elim q
  | cont =>
    obtain ⟨_, _, _, q⟩ := hs
    exact False.elim q
end Sq


set_option Elab.async false
set_option maxRecDepth 100000
set_option maxHeartbeats 4000000
namespace Sq
open PySem PySem.Spec PyProof.Rows L2
/-! ## an exception that has been caught and is kept -/
/-- at a: an exception of the class cls with the dict d, at rest -/
def Xo (a : Addr) (cls : Value) (d : Option Addr) : HO := .ext fun h => ∃ (oe : Obj) (vs : Array Value), h.get? a = some oe ∧ Zc cls d oe ∧ oe.data = .fields vs
theorem xo_ok {P : Program} {w : World} {H : Hp} {h : Heap} {a : Addr} {cls : Value} {d : Option Addr} {oe : Obj} {vs : Array Value} (e : h.get? a = some oe) (z : Zc cls d oe) (f : oe.data = .fields vs) : ObjOk P w H h a (Xo a cls d) :=
  ⟨⟨oe, vs, e, z, f⟩, ⟨_, e⟩, fun _ _ ⟨o2, v2, e2, z2, f2⟩ k => ⟨o2, v2, k _ e2, z2, f2⟩⟩
theorem xo_at {P : Program} {w : World} {H : Hp} {h : Heap} {a : Addr} {cls : Value} {d : Option Addr} (hok : HOk P w H h) (e : H a = some (Xo a cls d)) : ∃ (oe : Obj) (vs : Array Value), h.get? a = some oe ∧ Zc cls d oe ∧ oe.data = .fields vs := by
  have x : ObjOk P w H h a (.ext fun h => ∃ (oe : Obj) (vs : Array Value), h.get? a = some oe ∧ Zc cls d oe ∧ oe.data = .fields vs) := hok a _ e
  exact x.1
section
variable {X : Cx} {pins : List (Addr × Obj)} {σ : L2.St} {H : Hp} {s : Shared} {a : Addr} {cls : Value} {d : Option Addr} {oe : Obj} {vs : Array Value}
/-- an object that is younger than the entry and that nothing holds is kept from now on -/
theorem track (J : Inv X pins σ H s) (e : s.heap.get? a = some oe) (na : H a = none) (nL : a ≠ X.env.locals) (np : ∀ p ∈ X.pn ++ pins, p.1 ≠ a) (young : X.s_0.heap.get? a = none) (z : Zc cls d oe) (f : oe.data = .fields vs) : Inv X pins σ (upd H a (Xo a cls d)) s := by
  have old : ∀ {b : Addr} {o : Obj}, X.s_0.heap.get? b = some o → b ≠ a := fun {b o} q c => by
    rw [c, young] at q
    cases q
  have set : ∀ {b : Addr} {o : HO}, H b = some o → b ≠ a := fun {b o} q c => by
    rw [c, na] at q
    cases q
  refine ⟨J.ok, J.os, J.bare, ⟨J.base.keep, J.base.slot, fun b o q n x => ?_, J.base.there, fun b xs q => ?_, fun b o v q => ?_, fun b ps q => ?_⟩, J.loc, J.cell, ?_, fun y c q => ?_, fun p hp => ?_, fun b o q => ?_, J.len⟩
  · rw [upd_ne (old q)]
    exact J.base.free b o q n x
  · have z := J.base.tups b xs q
    rw [upd_ne (set z)]
    exact z
  · have z := J.base.frzs b o v q
    rw [upd_ne (set z)]
    exact z
  · obtain ⟨more, z⟩ := J.base.tbls b ps q
    exact ⟨more, by rw [upd_ne (set z)]; exact z⟩
  · rw [upd_ne (Ne.symm nL)]
    exact J.free
  · have nc : c ≠ a := fun h => by
      obtain ⟨w, o, e2, d2⟩ := J.cell y c q
      rw [h, e] at e2
      cases e2
      rw [f] at d2
      cases d2
    rw [upd_ne nc]
    exact J.freeC y c q
  · obtain ⟨e1, n1, r1⟩ := J.pin p hp
    exact ⟨e1, by rw [upd_ne (np p hp)]; exact n1, r1⟩
  · by_cases hb : b = a
    · subst hb
      rw [upd_same] at q
      cases q
      exact xo_ok e z f
    · rw [upd_ne hb] at q
      have own : ∀ c, H c = some (.own b) → c ≠ a := fun c hc h => by
        rw [h, na] at hc
        cases hc
      exact (J.hok b o q).stay (fun c v _ k => k) (fun c hc => by rw [upd_ne (own c hc)]; exact hc) fun c xs hc => by rw [upd_ne fun h => by rw [h, na] at hc; cases hc]; exact hc
end

/-- what is wished behind the suite of 'except x as n' -/
def keepD (D : Ends) (i : Nat) : Ends where
  nx := fun τ G => D.nx (τ.set i none) G
  rt := D.rt
  bk := fun τ G => D.bk (τ.set i none) G
  ct := fun τ G => D.ct (τ.set i none) G
def wKeep (K : PySem.W.Frag) (c : Value) (i : Nat) (ts : Addr → Value → Option Addr → TS) (Wout : WX) (D : Ends) : WX := fun cls d σ H => ∃ b, PySem.W.exmOne K cls c = some b ∧
  (b = true → ∀ a, H a = none → ts a cls d (keepD D i) (σ.set i (some (.ref a))) (upd H a (Xo a cls d))) ∧ (b = false → Wout cls d σ H)
/-- into the suite and out of it -/
theorem suite_in {X : Cx} {pins : List (Addr × Obj)} {σ : L2.St} {H : Hp} {s : Shared} {a : Addr} (I : Inv X pins σ H s) : Inv (X.suite a (X.pn ++ pins)) [] σ H s :=
  ⟨I.ok.suite _ _, I.os, I.bare, I.base, I.loc, I.cell, I.free, I.freeC, fun p hp => I.pin p (by rw [List.append_nil] at hp; exact hp), I.hok, I.len⟩
theorem suite_out {X : Cx} {pins : List (Addr × Obj)} {σ : L2.St} {H : Hp} {s : Shared} {a : Addr} (I : Inv (X.suite a (X.pn ++ pins)) [] σ H s) (ok : X.Ok) : Inv X pins σ H s :=
  ⟨ok, I.os, I.bare, I.base, I.loc, I.cell, I.free, I.freeC, fun p hp => I.pin p (by rw [List.append_nil]; exact hp), I.hok, I.len⟩
section
variable {X : Cx} {x n : Str} {c : Value} {i : Nat} {body rest : List Stmt} {st : Stmt} {np pos pos2 : Pos} {tb : WX → TS} {ts : Addr → Value → Option Addr → TS} {Wout : WX}
/-- as ps_try_as; the exception stays behind the suite -/
theorem ps_try_keep (hs : X.stack = X.env :: X.outer) (hf : X.env.frame = some X.env.locals) (hN : X.N.Nodup) (hi : X.N[i]? = some n) (hln : X.env.kindOf n = some .local) (hex : X.ex = []) (hc : Names X x c) (tk : Takes X Wout)
    (hb : ∀ (W : WX) (pn : List (Addr × Obj)) (xe : Value → Shared → Prop), Takes (X.tr pn xe) W → PassesOwn (model X.prog X.w) X.A X.env xe → PSs (X.tr pn xe) body (tb W))
    (hsu : ∀ (a : Addr) (cls : Value) (d : Option Addr) (pn : List (Addr × Obj)), PSs (X.suite a pn) (st :: rest) (ts a cls d)) :
    PS X (.Try body [.ExceptHandler (some (.Name x np)) (some n) (st :: rest) pos2] [] [] pos) (fun D σ H => tb (wKeep X.K c i ts Wout D) D σ H) := by
  refine ⟨fun pins s σ H D I h => wpAny_Try_except ?_⟩
  have ok := I.ok
  have hfr : X.A.frames = some (X.env :: X.outer) := by rw [ok.frames, hs]
  have hlc : Loc X.env.scope n := .inl hln
  have seen : ∀ {C : Heap} {h : Heap} {q : Addr} {o : Obj} {vs : Array Value}, h.FunFrames C (X.env :: X.outer) → h.get? q = some o → o.data = .fields vs → q ∉ frs (X.env :: X.outer) := fun {C h q o vs} ff e dd hm => by
    obtain ⟨_, o2, e2, nn⟩ := ff.mem hm
    rw [e] at e2
    cases e2
    exact nn _ dd
  refine wpAny_mono ((hb (wKeep X.K c i ts Wout D) (X.pn ++ pins) _ (fun u s2 air => ?_) PassesOwn.looking).run [] s σ H D (I.toTry _) h) (fun fl s2 q => ?_) fun _ _ z => z
  · obtain ⟨a, G, sI, pins2, τ, H2, cls, d, rfl, J2, nb, up, sky, na, os, ag, b, hb1, yes, no⟩ := air
    have J : Inv X pins τ H2 sI := J2.ofTry ok
    rw [hs] at sky
    refine Sky.land Zc.steady hfr hf sky fun h3 l3 up3 => ?_
    have J3 : Inv X pins τ H2 { s2 with heap := h3 } := J.landed nb l3.1 (up.trans up3) os ag
    obtain ⟨o3, v3, e3, z3, d3⟩ := l3.there
    have out := seen l3.2.2.1 e3 d3
    have nL : a ≠ X.env.locals := fun z => out (List.mem_filterMap.mpr ⟨X.env, List.mem_cons_self, by rw [hf, z]⟩)
    have nF : a ∉ X.fs := fun hm => by
      obtain ⟨e, he, q⟩ := List.mem_filterMap.mp hm
      exact out (List.mem_filterMap.mpr ⟨e, List.mem_cons_of_mem _ he, q⟩)
    have young : sI.heap.get? a = none := by
      cases q : sI.heap.get? a with
      | none => rfl
      | some o =>
        have z := nb a o q (by rw [hs]; exact out)
        rw [l3.2.1] at z
        cases z
    have young0 : X.s_0.heap.get? a = none := by
      cases q : X.s_0.heap.get? a with
      | none => rfl
      | some o =>
        obtain ⟨o2, z⟩ := J.base.there a o q (by rw [hex]; simp)
        rw [young] at z
        cases z
    have off : ∀ p ∈ X.pn ++ pins, p.1 ≠ a := fun p hp z => by
      have y := (J.pin p hp).1
      rw [z, young] at y
      cases y
    have S3 := J3.suite e3 d3 na nL nF
    have LT : PySem.W.Looks (model X.prog X.w) h3 (typeOf (.ref a)) cls := fun _ _ _ s k q => wpAny_typeOf_ref (k _ _ e3) (by rw [z3.1]; exact q)
    have LM := PySem.W.exm_one (M := model X.prog X.w) J3.kIn LT hb1
    have ask : ∀ {Q2 : Value → Shared → Prop} {E2 : Value → Shared → Prop}, Q2 c { s2 with heap := h3 } → wpAny (model X.prog X.w) (X.A.mark (some (.ref a))) (eval (.Name x np) X.env) Q2 E2 { s2 with heap := h3 } := fun {Q2 E2} q => by
      obtain ⟨hg, hdb, hm | ⟨hm, hv, hnn⟩⟩ := hc
      · exact ld_glob (X := X.suite a ((a, o3) :: (X.pn ++ pins))) S3 hg hm q hdb
      · exact ld_blt (X := X.suite a ((a, o3) :: (X.pn ++ pins))) S3 hg hm hv q hnn hdb
    refine wpAny_handleBy_cons (codeAny_handlers_test (ask (LM.here ?_))) (by intro q; cases q)
    cases b with
    | true =>
      refine codeAny_handlers_suite_as (HandSPX.lands_againZ l3 fun h4 l4 up4 => ?_)
      have J4 : Inv X pins τ H2 { s2 with heap := h4 } := J.landed nb l4.1 ((up.trans up3).trans up4) os ag
      obtain ⟨o4, v4, e4, z4, d4⟩ := l4.there
      have S4 : Inv (X.suite a (X.pn ++ pins)) [] τ (upd H2 a (Xo a cls d)) { s2 with heap := h4 } := suite_in (track J4 e4 na nL off young0 z4 d4)
      refine store_ok (X := X.suite a (X.pn ++ pins)) (v := .ref a) S4 hN hi hlc rfl (fun s5 S5 => ?_) (.inr hln)
      refine wpAny_mono ((hsu a cls d (X.pn ++ pins)).run [] s5 _ _ _ S5 (yes rfl a na)) (fun fl s6 hsp => ?_) fun _ _ z => z.elim
      have fin : ∀ {σ6 : L2.St} {H6 : Hp} {Q2 : Shared → Prop}, Inv (X.suite a (X.pn ++ pins)) [] σ6 H6 s6 → (∀ s7, Inv X pins (σ6.set i none) H6 s7 → Q2 s7) →
          wpAny (model X.prog X.w) X.A (do bindName X.env n .none; unbindBehindTheSuite X.env n pos2) (fun _ s7 => Q2 s7) X.xe s6 := fun {σ6 H6 Q2} S6 hq =>
        gone_ok (X := X.suite a (X.pn ++ pins)) S6 hN hi hln fun s7 S7 => hq s7 (suite_out S7 ok)
      cases fl with
      | next =>
        obtain ⟨σ6, H6, S6, q6⟩ := hsp
        exact fin S6 fun s7 J7 => ⟨_, _, J7, q6⟩
      | brk =>
        obtain ⟨σ6, H6, S6, q6⟩ := hsp
        exact fin S6 fun s7 J7 => ⟨_, _, J7, q6⟩
      | cont =>
        obtain ⟨σ6, H6, S6, q6⟩ := hsp
        exact fin S6 fun s7 J7 => ⟨_, _, J7, q6⟩
      | ret u =>
        obtain ⟨v6, σ6, H6, S6, r6, q6⟩ := hsp
        exact fin S6 fun s7 J7 => ⟨_, _, _, J7, r6, q6⟩
    | false =>
      refine wpAny_handleBy_nil ?_
      obtain ⟨_, _, _, oe, vs, T, _, _, he, _, hd, h1, _⟩ := id l3
      unfold PySem.passOn
      refine wpAny_bind (wpAny_field he hd h1 ?_)
      rw [if_neg (show ¬ ((Value.ref T == Value.none) = true) from by simp)]
      have go : wpAny (model X.prog X.w) X.A (setFlight (.ref a) X.env.frame) (fun _ s4 => wpAny (model X.prog X.w) X.A (throw (.ref a) : Sem Flow) (SP X pins D) X.xe s4) X.xe { s2 with heap := h3 } := by
        rw [hf]
        exact HandSPX.setFlight_upZ l3 fun h4 g4 up4 => wpAny_throw (tk _ _ ⟨a, G, sI, pins, τ, H2, cls, d, rfl, J, nb, (up.trans up3).trans up4, .inr (.inr (by rw [hs]; exact g4)), na, os, ag, no rfl⟩)
      first
        | exact wpAny_bind (wpAny_pure (wpAny_bind go))
        | exact wpAny_bind go
  · cases fl with
    | next =>
      obtain ⟨τ, H2, J, q⟩ := q
      exact wpAny_execs_nil ⟨τ, H2, J.ofTry ok, q⟩
    | brk =>
      obtain ⟨τ, H2, J, q⟩ := q
      exact ⟨τ, H2, J.ofTry ok, q⟩
    | cont =>
      obtain ⟨τ, H2, J, q⟩ := q
      exact ⟨τ, H2, J.ofTry ok, q⟩
    | ret u =>
      obtain ⟨v, τ, H2, J, r, q⟩ := q
      exact ⟨v, τ, H2, J.ofTry ok, r, q⟩
end

/-! ## a kept exception looked at -/
/-- at a: a kept exception of the own class C with the attributes fs -/
def Kept (H : Hp) (a C : Addr) (fs : List (Str × V)) : Prop := ∃ d, (H a = some (Xo a (.ref C) (some d)) ∧ H d = some (.xd fs)) ∨ (H a = some (exo a C (some d)) ∧ H d = some (exd d fs))
theorem kept_at {X : Cx} {pins : List (Addr × Obj)} {σ : L2.St} {H : Hp} {s : Shared} {a C : Addr} {fs : List (Str × V)} (I : Inv X pins σ H s) (k : Kept H a C fs) :
    ∃ (oe od : Obj) (d : Addr) (mA : Str → Option Value), PySem.W.InstAt s.heap a oe C (some od) ∧ s.heap.get? d = some od ∧ s.heap.Ns1 d mA ∧ ∀ f, RelO (fs.lookup f) (mA f) := by
  obtain ⟨d, ⟨h1, h2⟩ | ⟨h1, h2⟩⟩ := k
  · obtain ⟨oe, vs, e, z, f⟩ := xo_at I.hok h1
    have hx : ObjOk X.prog X.w H s.heap d (.xd fs) := I.hok d _ h2
    obtain ⟨mA, hns, hr⟩ := hx
    obtain ⟨od, ho, _⟩ := lookIn_ns hns
    exact ⟨oe, od, d, mA, ⟨e, z.1, by unfold PySem.W.notCls; rw [f] <;> rfl, by rw [z.2]; exact ho⟩, ho, hns, hr⟩
  · obtain ⟨t1, e⟩ := exo_at I.hok h1
    obtain ⟨mA, hns, hr⟩ := exd_at I.hok h2
    obtain ⟨od, ho, _⟩ := lookIn_ns hns
    exact ⟨_, od, d, mA, ⟨e, rfl, rfl, ho⟩, ho, hns, hr⟩
def rIsX (K : PySem.W.Frag) : List V → Hp → VK → Prop := fun xs H Q => ∃ (a C : Addr) (fs : List (Str × V)) (c : V) (cv : Value) (b : Bool), xs = [.ref a, c] ∧ Kept H a C fs ∧ ExcC K C ∧ ClsV c cv ∧ PySem.W.kitOne K (.ref C) cv = some b ∧ Q (.bl b) H
theorem call_isX {X : Cx} {K : PySem.W.Frag} (h : X.K = K := by rfl) : CallR X (.builtin "isinstance") (rIsX K) := by
  subst h
  intro pins s σ H xs us Q I r h
  obtain ⟨a, C, fs, c, cv, b, rfl, k, EC, hc, e, q⟩ := h
  obtain ⟨oe, od, d, mA, J, _⟩ := kept_at I k
  cases r with
  | @cons _ u0 _ ur rx rr =>
    cases rr with
    | @cons _ u1 _ _ rt rr =>
      cases rr
      cases rx
      have ec : u1 = cv := by
        cases hc <;> exact rt
      subst ec
      obtain ⟨cd, hcd, _⟩ := PySem.W.any_some EC.hd
      exact PySem.W.kia_one (PySem.W.kitx_exc (by rw [hcd]; rfl) EC.hg EC.hk EC.hs EC.ha EC.hn EC.ht EC.hm) I.kIn J e (fun z => nomatch z) fun tk => ⟨.bl b, H, I.kept (t' := tk) fun _ _ z => z, rfl, q⟩
def tXv (K : PySem.W.Frag) (te : TE) (f : Str) : TE := fun σ H Q => te σ H fun x H1 => ∃ (a C : Addr) (fs : List (Str × V)) (v : V), x = .ref a ∧ Kept H1 a C fs ∧ XfC K C ∧ PySem.W.findIn K (.ref C) f = some none ∧ fs.lookup f = some v ∧ Q v H1
theorem pe_xv {X : Cx} {K : PySem.W.Frag} {e : Expr} {te : TE} {f : Str} {pos : Pos} (he : PE X e te) (hb : attributeBase e f X.env (eval e X.env) = eval e X.env := by rfl) (h : X.K = K := by rfl) : PE X (.Attribute e f pos) (tXv K te f) := by
  subst h
  refine ⟨fun pins s σ H Q I h => attr_of hb (thn (he.run pins s σ H _ I h) fun u s1 hh => ?_)⟩
  obtain ⟨x, H1, I1, rx, a, C, fs, v, rfl, k, T, hno, l, q⟩ := hh
  obtain rfl : u = Value.ref a := rx
  obtain ⟨oe, od, d, mA, J, ho, hns, hr⟩ := kept_at I1 k
  obtain ⟨od2, ho2, hl⟩ := lookIn_ns hns
  rw [ho] at ho2
  cases ho2
  obtain ⟨u, hu, ru⟩ := RelO.some_of (v := v) (o := mA f) (by rw [← l]; exact hr f)
  exact HandSPX.exc_get I1.kIn J T.ga T.gg T.exC (PySem.W.findObj_own T.hdC hno rfl (by rw [hl, hu])) (handed_of ru) ⟨v, H1, I1.tok _, ru, q⟩
end Sq


set_option Elab.async false
set_option maxRecDepth 100000
set_option maxHeartbeats 4000000
namespace Sq
open PySem PySem.Spec PyProof.Rows L2
/-! ## raise C(e), C an own class with the __init__ of MExc -/
structure Rai (P : Program) (w : World) (K : PySem.W.Frag) (mg : Str → Option Value) (base : Heap) (k : Nat) (x : Str) (C : Addr) : Prop where
  ex : ∃ (f : Addr) (fd : FuncData), OexC K C ∧ PySem.W.findIn K (.ref C) "__init__" = some (some (.ref f)) ∧ PySem.W.typeIn K (.ref f) = some (.type "function") ∧ FnOk P w K mg base CX0 k f fd ["self", "value"] (spXI C) ∧ mg x = some (.ref C) ∧ L2.Binds K fd ["self", "value"] []
def tRx (W : WX) (C : Addr) (te : TE) : TS := fun _ σ H => te σ H fun v H1 => ∀ d, H1 d = none → W (.ref C) (some d) σ (upd H1 d (.xd [("value", v)]))
theorem heap_rx {H : Hp} {a d : Addr} {u z o : HO} (na : H a = none) (n : d ≠ a) : upd (del (upd (upd (upd H a u) d z) a o) a) d (.xd [("value", v)]) = upd H d (.xd [("value", v)]) := by
  funext b
  by_cases h1 : b = d
  · rw [h1, upd_same, upd_same]
  · rw [upd_ne h1, upd_ne h1]
    by_cases h2 : b = a
    · rw [h2, del_same, na]
    · rw [del_ne h2, upd_ne h2, upd_ne h1, upd_ne h2]
/-- a reading that may be weakened -/
def tWk (te : TE) : TE := fun σ H Q => ∃ R : VK, te σ H R ∧ ∀ v G, R v G → Q v G
theorem pe_wk {X : Cx} {e : Expr} {te : TE} (h : PE X e te) : PE X e (tWk te) := ⟨fun pins s σ H Q I ⟨R, q, k⟩ => wpAny_mono (h.run pins s σ H R I q) (fun u s1 ⟨x, G, J, r, z⟩ => ⟨x, G, J, r, k _ _ z⟩) fun _ _ z => z⟩
section
variable {X : Cx} {W : WX} {k j : Nat} {C : Addr} {x : Str} {p pos pos2 : Pos} {e : Expr} {te : TE}
theorem ps_rx (c : Rai X.prog X.w X.K X.mg X.base k x C) (hr : Room j X.A) (hk : k + 1 ≤ j) (hg : Gl X x) (tk : Takes X W) (ha : PE X e te) (hc : X.calm = true := by rfl)
    (hdb : (x == ("__debug__" : Str)) = false := by decide) (he : starEach [e] X.env = (false, eval e X.env) :: starEach [] X.env := by rfl) (hpl : (backTo pos (starEach [] X.env)).any (·.1) = false := by rfl) : PS X (.Raise (some (.Call (.Name x p) [e] [] pos)) none pos2) (tRx W C te) := by
  obtain ⟨f, fd, T, iC, tI, F, hm, b⟩ := c.ex
  have mk := pmk_oex (pos := pos) (p := p) T iC tI F (hr.mono hk) b .nil pass0 hg hm (pa_cons (pe_wk ha) pa_nil he) hdb he hpl
  have r := ps_raise (pos := pos2) hc tk mk
  refine ⟨fun pins s σ H D I h => r.run pins s σ H D I ⟨_, h, fun v G q => ⟨Nat.le_of_ble_eq_true rfl, fun a na => ⟨a, v, rfl, upd_same, fun dx nd ne => ?_⟩⟩⟩⟩
  have nd' : G dx = none := by
    rw [upd_ne ne] at nd
    exact nd
  refine ⟨rfl, dx, _, upd_same, by rw [upd_ne ne, upd_same], nd', ?_⟩
  rw [heap_rx na ne]
  exact q dx nd'
end

/-! ## defs that may raise -/
structure CalX (P : Program) (w : World) (K : PySem.W.Frag) (mg : Str → Option Value) (base : Heap) (k : Nat) (x : Str) (sp : Sp) : Prop where
  ex : ∃ (f : Addr) (fd : FuncData) (ps : List Str), FnOk P w K mg base (L2.CX P w) k f fd ps sp ∧ mg x = some (.ref f) ∧ PySem.W.keepIn K (.ref f) = true ∧ L2.Binds K fd ps []
section
variable {P : Program} {w : World} {K : PySem.W.Frag} {mg : Str → Option Value} {base : Heap}
theorem DefAt.calX {x : Str} {st : Stmt} {ps N : List Str} {k : Nat} {sp : Sp} (D : DefAt K mg x st ps) (S : FnScope N ps (defScope st)) (len : ∀ vs H Q E, sp vs H Q E → vs.length = ps.length)
    (hb : ∀ (f : Addr) (cdv : Value) (A : Around) (outer : List Env) (s : Shared) (H : Hp) (vs : List V) (Q : VK) (E : XK), Room k (A.deeper (envOfC x (defScope st) s.heap.objs.size f cdv)) → sp vs H Q E →
      (Takes (cxOf (L2.CX P w) P w K mg base N x (defScope st) f cdv A outer s H E) fun cls d _ G => E cls d G) →
      ∃ t, PSs (cxOf (L2.CX P w) P w K mg base N x (defScope st) f cdv A outer s H E) (defBody st) t ∧ t { nx := fun _ H' => Q .non H', rt := Q } (start N vs) H) : CalX P w K mg base (k + 1) x sp := by
  obtain ⟨f, fd, F, hm, b⟩ := D.ex
  exact ⟨f, fd, ps, F.okX S len fun cdv A outer s H vs Q E hr hsp => hb f cdv A outer s H vs Q E hr hsp (takes_of rfl rfl rfl rfl), hm, F.kp, b⟩
/-- where it raises nothing it is a plain def -/
theorem fn_calm {k : Nat} {f : Addr} {fd : FuncData} {ps : List Str} {sp sp' : Sp} (F : FnOk P w K mg base (L2.CX P w) k f fd ps sp) (h : ∀ vs H Q E, sp' vs H Q E → sp vs H Q E0) : FnOk P w K mg base CX0 k f fd ps sp' := by
  refine ⟨fun vs H Q E q => F.len _ _ _ _ (h _ _ _ _ q), fun A outer s H args us vs Q E hr e0 b r q => codeAny_mono (F.run A outer s H args us vs Q E0 hr e0 b r (h _ _ _ _ q)) fun res s' z => ?_⟩
  cases res with
  | ok fl => cases fl <;> exact z
  | error e =>
    obtain ⟨_, _, _, _, _, _, _, _, _, _, _, _, no⟩ := z
    exact no.elim
theorem CalX.calm {x : Str} {k : Nat} {sp sp' : Sp} (c : CalX P w K mg base k x sp) (h : ∀ vs H Q E, sp' vs H Q E → sp vs H Q E0) : Cal P w K mg base k x sp' [] := by
  obtain ⟨f, fd, ps, F, hm, kp, b⟩ := c.ex
  exact ⟨f, fd, ps, [], fn_calm F h, hm, kp, b, .nil⟩
theorem CalX.imp {x : Str} {k j : Nat} {sp sp' : Sp} (c : CalX P w K mg base k x sp) (hk : k ≤ j) (h : ∀ vs H Q E, sp' vs H Q E → sp vs H Q E) : CalX P w K mg base j x sp' := by
  obtain ⟨f, fd, ps, F, hm, kp, b⟩ := c.ex
  exact ⟨f, fd, ps, (F.mono hk).imp h, hm, kp, b⟩
end
section
variable {X : Cx} {W : WX} {k j : Nat} {x : Str} {sp : Sp} {p pos : Pos} {e : Expr} {es : List Expr} {t : TA}
/-- a call that may raise, where W is wished of what is raised -/
theorem pe_cx (c : CalX X.prog X.w X.K X.mg X.base k x sp) (hr : Room j X.A) (hk : k ≤ j) (tk : Takes X W) (hg : Gl X x) (ha : PA X (e :: es) t)
    (hdb : (x == ("__debug__" : Str)) = false := by decide) (he : starEach (e :: es) X.env = (false, eval e X.env) :: starEach es X.env := by rfl) (hpl : (backTo pos (starEach es X.env)).any (·.1) = false := by rfl) :
    PE X (.Call (.Name x p) (e :: es) [] pos) (tCallS sp (WE W) t) := by
  obtain ⟨f, fd, ps, F, hm, kp, b⟩ := c.ex
  exact pe_callS F (hr.mono hk) hg hm kp b (passAt tk) ha hdb he hpl
/-- a call of such a def that raises nothing -/
theorem pe_cx0 (c : CalX X.prog X.w X.K X.mg X.base k x sp) (hr : Room j X.A) (hk : k ≤ j) (hg : Gl X x) (ha : PA X (e :: es) t)
    (hdb : (x == ("__debug__" : Str)) = false := by decide) (he : starEach (e :: es) X.env = (false, eval e X.env) :: starEach es X.env := by rfl) (hpl : (backTo pos (starEach es X.env)).any (·.1) = false := by rfl) :
    PE X (.Call (.Name x p) (e :: es) [] pos) (tCall sp [] E0 t) := by
  obtain ⟨f, fd, ps, F, hm, kp, b⟩ := c.ex
  exact L2.pe_call F (hr.mono hk) hg hm kp b .nil passL ha hdb he hpl
end

/-! ## methods and new objects that may raise -/
structure MetX (P : Program) (w : World) (K : PySem.W.Frag) (mg : Str → Option Value) (base : Heap) (k : Nat) (C : Addr) (m : Str) (sp : Sp) : Prop where
  ex : ∃ (f : Addr) (fd : FuncData) (ps : List Str), Cls K C ∧ Meth K C m f ∧ FnOk P w K mg base (L2.CX P w) k f fd ps sp ∧ L2.Binds K fd ps []
structure MakX (P : Program) (w : World) (K : PySem.W.Frag) (mg : Str → Option Value) (base : Heap) (k : Nat) (x : Str) (C : Addr) (sp : Sp) : Prop where
  ex : ∃ (f : Addr) (fd : FuncData) (ps : List Str), Mk K C f ∧ FnOk P w K mg base (L2.CX P w) k f fd ps sp ∧ mg x = some (.ref C) ∧ L2.Binds K fd ps []
section
variable {P : Program} {w : World} {K : PySem.W.Frag} {mg : Str → Option Value} {base : Heap} {C : Addr} {m x qual : Str} {st : Stmt} {ps N : List Str} {k : Nat} {sp : Sp}
theorem MetAt.metX (D : MetAt K C m qual st ps) (cl : Cls K C) (S : FnScope N ps (defScope st)) (len : ∀ vs H Q E, sp vs H Q E → vs.length = ps.length)
    (hb : ∀ (f : Addr) (cdv : Value) (A : Around) (outer : List Env) (s : Shared) (H : Hp) (vs : List V) (Q : VK) (E : XK), Room k (A.deeper (envOfC qual (defScope st) s.heap.objs.size f cdv)) → sp vs H Q E →
      (Takes (cxOf (L2.CX P w) P w K mg base N qual (defScope st) f cdv A outer s H E) fun cls d _ G => E cls d G) →
      ∃ t, PSs (cxOf (L2.CX P w) P w K mg base N qual (defScope st) f cdv A outer s H E) (defBody st) t ∧ t { nx := fun _ H' => Q .non H', rt := Q } (start N vs) H) : MetX P w K mg base (k + 1) C m sp := by
  obtain ⟨f, fd, F, hm, b⟩ := D.ex
  exact ⟨f, fd, ps, cl, hm, F.okX S len fun cdv A outer s H vs Q E hr hsp => hb f cdv A outer s H vs Q E hr hsp (takes_of rfl rfl rfl rfl), b⟩
theorem IniAt.makX (D : IniAt K mg C x qual st ps) (S : FnScope N ps (defScope st)) (len : ∀ vs H Q E, sp vs H Q E → vs.length = ps.length)
    (hb : ∀ (f : Addr) (cdv : Value) (A : Around) (outer : List Env) (s : Shared) (H : Hp) (vs : List V) (Q : VK) (E : XK), Room k (A.deeper (envOfC qual (defScope st) s.heap.objs.size f cdv)) → sp vs H Q E →
      (Takes (cxOf (L2.CX P w) P w K mg base N qual (defScope st) f cdv A outer s H E) fun cls d _ G => E cls d G) →
      ∃ t, PSs (cxOf (L2.CX P w) P w K mg base N qual (defScope st) f cdv A outer s H E) (defBody st) t ∧ t { nx := fun _ H' => Q .non H', rt := Q } (start N vs) H) : MakX P w K mg base (k + 1) x C sp := by
  obtain ⟨f, fd, F, hm, hg, b⟩ := D.ex
  exact ⟨f, fd, ps, hm, F.okX S len fun cdv A outer s H vs Q E hr hsp => hb f cdv A outer s H vs Q E hr hsp (takes_of rfl rfl rfl rfl), hg, b⟩
end
theorem MetX.calm {P : Program} {w : World} {K : PySem.W.Frag} {mg : Str → Option Value} {base : Heap} {C : Addr} {m : Str} {k : Nat} {sp sp' : Sp} (c : MetX P w K mg base k C m sp) (h : ∀ vs H Q E, sp' vs H Q E → sp vs H Q E0) : Met P w K mg base k C m sp' := by
  obtain ⟨f, fd, ps, c1, c2, F, b⟩ := c.ex
  exact ⟨f, fd, ps, c1, c2, fn_calm F h, b⟩
theorem MakX.calm {P : Program} {w : World} {K : PySem.W.Frag} {mg : Str → Option Value} {base : Heap} {C : Addr} {x : Str} {k : Nat} {sp sp' : Sp} (c : MakX P w K mg base k x C sp) (h : ∀ vs H Q E, sp' vs H Q E → sp vs H Q E0) : Mak P w K mg base k x C sp' := by
  obtain ⟨f, fd, ps, M, F, hm, b⟩ := c.ex
  exact ⟨f, fd, ps, M, fn_calm F h, hm, b⟩
def tMethS (C : Addr) (m : Str) (sp : Sp) (E : L2.St → XK) (ta : TE) (t : TA) : TE := fun σ H Q => ta σ H fun x H1 => ∃ a dx fs, x = .ref a ∧ H1 a = some (.ins C dx fs) ∧ fs.lookup m = none ∧ t σ H1 fun vs H2 => sp (x :: vs) H2 Q (E σ)
def tMakeS (C : Addr) (sp : Sp) (E : L2.St → XK) (t : TA) : TE := fun σ H Q => t σ H fun vs H1 => ∀ x dx, H1 x = none → H1 dx = none → dx ≠ x →
  sp (.ref x :: vs) (upd (upd H1 dx (.own x)) x (.ins C dx [])) (fun v H2 => v = .non ∧ Q (.ref x) H2) (E σ)
section
variable {X : Cx} {W : WX} {k j : Nat} {C : Addr} {x m : Str} {sp : Sp} {p pos apos : Pos} {e o : Expr} {es : List Expr} {ta : TE} {t : TA}
theorem pe_mx {pl : Sem Bool} (c : MetX X.prog X.w X.K X.mg X.base k C m sp) (hr : Room j X.A) (hk : k ≤ j) (tk : Takes X W) (he : PE X o ta) (ha : PA X (e :: es) t)
    (ht : eval (.Call (.Attribute o m apos) (e :: es) [] pos) X.env = (do
      let ov ← eval o X.env
      standAt apos.atName
      let (f, first) ← holding [ov] (getMethod ov m pl)
      callWith pos f first (backTo pos (starEach (e :: es) X.env)) (backToKw pos (keywordEach [] X.env))) := by rfl)
    (hst : starEach (e :: es) X.env = (false, eval e X.env) :: starEach es X.env := by rfl) (hpl : (backTo pos (starEach es X.env)).any (·.1) = false := by rfl) : PE X (.Call (.Attribute o m apos) (e :: es) [] pos) (tMethS C m sp (WE W) ta t) := by
  obtain ⟨f, fd, ps, cl, hm, F, b⟩ := c.ex
  refine ⟨fun pins s σ H Q I h => PySem.W.methodCall_KW (pl := pl) (thn (he.run pins s σ H _ I h) fun u s1 hh => ?_) ht⟩
  obtain ⟨x, H1, I1, rx, a, dx, fs, rfl, ea, l, q⟩ := hh
  obtain rfl : u = Value.ref a := rx
  refine getmeth_ok I1 ea cl hm l (PySem.W.callWith_K (first := [.ref a]) (h₀ := X.base) I.ok.mod.kin hm.kp (thn (ha.run pos pins s1 σ H1 _ I1 q) fun us s2 hh => ?_) hst hpl)
  obtain ⟨vs, H2, I2, r, q2⟩ := hh
  exact ⟨I2.kIn, run_fnS (us := .ref a :: us) (vs := .ref a :: vs) F (hr.mono hk) b (passAt tk σ) I2 (.cons rfl r) q2⟩
theorem pe_mkx (c : MakX X.prog X.w X.K X.mg X.base k x C sp) (hr : Room j X.A) (hk : k + 1 ≤ j) (tk : Takes X W) (hg : Gl X x) (ha : PA X (e :: es) t)
    (hdb : (x == ("__debug__" : Str)) = false := by decide) (he : starEach (e :: es) X.env = (false, eval e X.env) :: starEach es X.env := by rfl) (hpl : (backTo pos (starEach es X.env)).any (·.1) = false := by rfl) :
    PE X (.Call (.Name x p) (e :: es) [] pos) (tMakeS C sp (WE W) t) := by
  obtain ⟨f, fd, ps, M, F, hm, b⟩ := c.ex
  refine ⟨fun pins s σ H Q I h => wpAny_Call_Name_kw (ld_glob I hg hm ?_ hdb)⟩
  refine PySem.W.callWith_K (h₀ := X.base) I.ok.mod.kin M.kp (thn (ha.run pos pins s σ H _ I h) fun us s1 hh => ?_) he hpl
  obtain ⟨vs, H1, I1, r, q⟩ := hh
  refine ⟨I1.kIn, ?_⟩
  have hq := q (s1.heap.objs.size + 1) s1.heap.objs.size (I1.hok.fresh (Nat.le_succ _)) (I1.hok.fresh (Nat.le_refl _)) (Nat.ne_of_lt (Nat.lt_succ_self _))
  have I2 := Inv.made (C := C) I1
  have r2 : Vals (V.ref (s1.heap.objs.size + 1) :: vs) (Value.ref (s1.heap.objs.size + 1) :: us) := .cons rfl r
  have ln : (Value.ref (s1.heap.objs.size + 1) :: us).length = ps.length := by
    rw [← r2.length]
    exact F.len _ _ _ _ hq
  have bb := b _ (Value.ref (s1.heap.objs.size + 1) :: us) I2.kIn (by rw [List.append_nil]; exact ln)
  rw [List.append_nil] at bb
  show wpAny _ _ (call (.ref C) us) _ _ _
  refine wpAny_call (make_map (f := f) I1.kIn M.makes M.init (beq_iff_eq.mp M.fn) (codeAny_mono (F.run _ X.stack _ _ ⟨Value.ref (s1.heap.objs.size + 1) :: us, []⟩ _ _ _ (WE W σ) ((hr.mono hk).make C us []) (I2.env0.make C us []) bb r2 hq) fun r s' hq2 => ?_))
  cases r with
  | error er => exact passAt tk σ pins _ _ er s' I2 hq2
  | ok fl =>
    cases fl with
    | ret u =>
      obtain ⟨v, H', I3, rv, ev, q3⟩ := I2.after hq2
      subst ev
      exact ⟨rv, ⟨V.ref (s1.heap.objs.size + 1), H', I3, rfl, q3⟩⟩
    | next => exact False.elim hq2
    | brk => exact False.elim hq2
    | cont => exact False.elim hq2
theorem pe_mx0 {pl : Sem Bool} (c : MetX X.prog X.w X.K X.mg X.base k C m sp) (hr : Room j X.A) (hk : k ≤ j) (he : PE X o ta) (ha : PA X (e :: es) t)
    (ht : eval (.Call (.Attribute o m apos) (e :: es) [] pos) X.env = (do
      let ov ← eval o X.env
      standAt apos.atName
      let (f, first) ← holding [ov] (getMethod ov m pl)
      callWith pos f first (backTo pos (starEach (e :: es) X.env)) (backToKw pos (keywordEach [] X.env))) := by rfl)
    (hst : starEach (e :: es) X.env = (false, eval e X.env) :: starEach es X.env := by rfl) (hpl : (backTo pos (starEach es X.env)).any (·.1) = false := by rfl) : PE X (.Call (.Attribute o m apos) (e :: es) [] pos) (tMeth C m sp [] E0 ta t) := by
  obtain ⟨f, fd, ps, c1, c2, F, b⟩ := c.ex
  exact L2.pe_meth (pl := pl) he c1 c2 F (hr.mono hk) b .nil passL ha hst hpl ht
theorem pe_mkx0 (c : MakX X.prog X.w X.K X.mg X.base k x C sp) (hr : Room j X.A) (hk : k + 1 ≤ j) (hg : Gl X x) (ha : PA X (e :: es) t)
    (hdb : (x == ("__debug__" : Str)) = false := by decide) (he : starEach (e :: es) X.env = (false, eval e X.env) :: starEach es X.env := by rfl) (hpl : (backTo pos (starEach es X.env)).any (·.1) = false := by rfl) :
    PE X (.Call (.Name x p) (e :: es) [] pos) (tMake C sp [] E0 t) := by
  obtain ⟨f, fd, ps, M, F, hm, b⟩ := c.ex
  exact L2.pe_make M F (hr.mono hk) hg hm b .nil passL ha hdb he hpl
end

/-! ## an exception class of the text, out of what the top has written -/
theorem rai_mk {P : Program} {w : World} {K : PySem.W.Frag} {h base : Heap} {mg : Str → Option Value} {x : Str} {C f cc cda N : Addr} {nm q qual m file : Str} {bs bm sub : List Value} {sn : List Str} {ab : Bool} {col : Option Bool} {dd cld cdd od an : Option Addr} {k0 k1 k2 k3 k5 : Option Value}
    {cl ccl oc kV doc pm ct : Value} {csl ccs osl : Array (Option Value)} {cvs : Array Value} {tf : Tok} {p0 p1 p2 p3 p4 p5 p6 p7 p8 p9 q0 q1 : Pos} (X : K.In h) (G : h.Ns mainGlobals mg) (hm : mg x = some (.ref C))
    (lC : K.lookup C = some (excClassObj nm q C N bs bm true sn sub ab col dd k0 k1 k2 k3 k5 "ValueError.__new__")) (rC : PySem.HandSPX.refsVE bm = true) (sa : PySem.W.findIn K (.ref C) "__setattr__" = some (some (.builtin "object.__setattr__")))
    (ex : PySem.W.subIn K (.ref C) (.type "BaseException") = some true) (ty : PySem.W.typeIn K (.ref C) = some (.type "type")) (kc : PySem.W.keepIn K (.ref C) = true)
    (ini : PySem.W.findIn K (.ref C) "__init__" = some (some (.ref f))) (tyf : PySem.W.typeIn K (.ref f) = some (.type "function"))
    (l : K.lookup f = some ⟨oc, od, .func (PySem.W.ksFn "__init__" qual (xiArgs q0 q1) (xiBody m p0 p1 p2 p3 p4 p5 p6 p7 p8 p9) xiScope .none kV doc pm an (.ref cda) ct cc), osl⟩)
    (co : PySem.W.codeIn K (.ref cda) qual = true) (cell : K.lookup cc = some ⟨cl, cld, .cell (some (.ref C)), csl⟩) (rec_ : K.lookup cda = some ⟨ccl, cdd, .fields cvs, ccs⟩) (v2 : cvs[2]? = some (.str file tf)) (fl : ((P.main.file : Str) == file) = true)
    (top : (P.main.scope.names.lookup ("super" : Str)).isSome = false) (opq : PySem.W.nsIn K PySem.cStatics "thirdparty.any" = some none) (sup : PySem.W.ks_superIn K C C "__init__" = some (some (.builtin "ValueError.__init__"))) (veb : PySem.W.subIn K (.ref C) (.type "ValueError") = some true)
    (slf : PySem.W.mroIn K C (.ref C) = some true) (val : PySem.W.findIn K (.ref C) "value" = some none) (ms : PySem.W.nsIn K mainGlobals "super" = some none) (he : XiCall qual f cc cda m p0 p1 p2 p3 p4)
    (hb : ∀ us : List Value, us.length = 2 → bindArgs (PySem.W.ksFn "__init__" qual (xiArgs q0 q1) (xiBody m p0 p1 p2 p3 p4 p5 p6 p7 p8 p9) xiScope .none kV doc pm an (.ref cda) ct cc) ⟨us, []⟩ = pure ((["self", "value"] : List Str).zip us)) : Rai P w K mg base 1 x C :=
  ⟨f, _, ⟨⟨nm, q, N, bs, bm, sn, sub, ab, col, dd, k0, k1, k2, k3, k5, lC, rC⟩, sa, ex, ty, kc⟩, ini, tyf,
    ok_xi ⟨⟨nm, q, N, bs, bm, sn, sub, ab, col, dd, k0, k1, k2, k3, k5, lC, rC⟩, sa, ex, ty, kc⟩ ⟨co, ⟨cl, cld, csl, cell⟩, ⟨ccl, cdd, cvs, ccs, tf, rec_, v2⟩, fl, top, opq, sup, veb, slf, val⟩ l (PySem.W.mg_none_of X G ms) he, hm, L2.Binds.all hb⟩
end Sq


set_option Elab.async false
set_option maxRecDepth 100000
set_option maxHeartbeats 4000000
namespace Sq
open PySem PySem.Spec PyProof.Rows L2
/-! ## methods called by keywords alone -/
structure MetKX (P : Program) (w : World) (K : PySem.W.Frag) (mg : Str → Option Value) (base : Heap) (k : Nat) (C : Addr) (m : Str) (ks : List Str) (sp : Sp) : Prop where
  ex : ∃ (f : Addr) (fd : FuncData) (ps : List Str) (spf : Sp) (g : List Value → List Value → List Value) (gV : List V → List V → List V),
    Cls K C ∧ Meth K C m f ∧ FnOk P w K mg base (L2.CX P w) k f fd ps spf ∧ KBn K fd ps 1 ks g gV ∧ ∀ x zs H Q E, sp (x :: zs) H Q E → zs.length = ks.length ∧ spf (gV [x] zs) H Q E
def tMetK (C : Addr) (m : Str) (sp : Sp) (E : L2.St → XK) (ta : TE) (tk : TA) : TE := fun σ H Q => ta σ H fun x H1 => ∃ a dx fs, x = .ref a ∧ H1 a = some (.ins C dx fs) ∧ fs.lookup m = none ∧ tk σ H1 fun zs H2 => sp (x :: zs) H2 Q (E σ)
section
variable {X : Cx} {W : WX} {k j : Nat} {C : Addr} {m : Str} {ks : List Str} {sp : Sp} {pos apos : Pos} {o : Expr} {kws : List Keyword} {ta : TE} {t : TA}
theorem pe_mkwx {pl : Sem Bool} (c : MetKX X.prog X.w X.K X.mg X.base k C m ks sp) (hr : Room j X.A) (hk : k ≤ j) (tk : Takes X W) (he : PE X o ta) (ha : PK X kws t)
    (ht : eval (.Call (.Attribute o m apos) [] kws pos) X.env = (do
      let ov ← eval o X.env
      standAt apos.atName
      let (f, first) ← holding [ov] (getMethod ov m pl)
      callWith pos f first (backTo pos (starEach [] X.env)) (backToKw pos (keywordEach kws X.env))) := by rfl)
    (hall : (backToKw pos (keywordEach kws X.env)).all (·.1.isSome) = true := by rfl) (hks : (backToKw pos (keywordEach kws X.env)).filterMap (·.1) = ks := by rfl)
    (hpl : ((backTo pos (starEach [] X.env)).any (·.1) || (backToKw pos (keywordEach kws X.env)).any (·.1.isNone)) = false := by rfl) : PE X (.Call (.Attribute o m apos) [] kws pos) (tMetK C m sp (WE W) ta t) := by
  obtain ⟨f, fd, ps, spf, g, gV, cl, hm, F, hb, hs⟩ := c.ex
  refine ⟨fun pins s σ H Q I h => PySem.W.methodCall_KW (pl := pl) (thn (he.run pins s σ H _ I h) fun u s1 hh => ?_) ht⟩
  obtain ⟨x, H1, I1, rx, a, dx, fs, rfl, ea, l, q⟩ := hh
  obtain rfl : u = Value.ref a := rx
  refine getmeth_ok I1 ea cl hm l (PySem.W.callWith_KW0 (first := [.ref a]) (h₀ := X.base) I.ok.mod.kin hm.kp hall (thn (ha.run pos pins s1 σ H1 _ I1 q) fun ws s2 hh => ?_) hpl)
  obtain ⟨zs, H2, I2, rz, q2⟩ := hh
  obtain ⟨lz, q3⟩ := hs _ _ _ _ _ q2
  refine ⟨I2.kIn, ?_⟩
  rw [hks]
  have r1 : Vals [V.ref a] [Value.ref a] := .cons rfl .nil
  refine wpAny_call (codeAny_mono (F.run X.A X.stack s2 H2 ⟨[.ref a], ks.zip ws⟩ (g [.ref a] ws) (gV [.ref a] zs) Q (WE W σ) (hr.mono hk) I2.env0 (hb.to s2 [.ref a] ws I2.kIn rfl (rz.length.symm.trans lz)) (hb.rel r1 rz) q3) fun r s3 hq => ?_)
  cases r with
  | error er => exact passAt tk σ pins H2 s2 er s3 I2 hq
  | ok fl =>
    cases fl with
    | ret u => exact I2.after hq
    | next => exact False.elim hq
    | brk => exact False.elim hq
    | cont => exact False.elim hq
end
/-! ## new objects made by keywords alone -/
structure MakK (P : Program) (w : World) (K : PySem.W.Frag) (mg : Str → Option Value) (base : Heap) (k : Nat) (x : Str) (C : Addr) (ks : List Str) (sp : Sp) : Prop where
  ex : ∃ (f : Addr) (fd : FuncData) (ps : List Str) (spf : Sp) (g : List Value → List Value → List Value) (gV : List V → List V → List V),
    Mk K C f ∧ FnOk P w K mg base CX0 k f fd ps spf ∧ mg x = some (.ref C) ∧ KBn K fd ps 1 ks g gV ∧ ∀ x zs H Q E, sp (x :: zs) H Q E → zs.length = ks.length ∧ spf (gV [x] zs) H Q E
def tMakK (C : Addr) (sp : Sp) (tk : TA) : TE := fun σ H Q => tk σ H fun zs H1 => ∀ x dx, H1 x = none → H1 dx = none → dx ≠ x → sp (.ref x :: zs) (upd (upd H1 dx (.own x)) x (.ins C dx [])) (fun v H3 => v = .non ∧ Q (.ref x) H3) E0
section
variable {X : Cx} {k j : Nat} {C : Addr} {x : Str} {ks : List Str} {sp : Sp} {p pos : Pos} {kws : List Keyword} {t : TA}
theorem pe_mkk (c : MakK X.prog X.w X.K X.mg X.base k x C ks sp) (hr : Room j X.A) (hk : k + 1 ≤ j) (hg : Gl X x) (ha : PK X kws t)
    (hall : (backToKw pos (keywordEach kws X.env)).all (·.1.isSome) = true := by rfl) (hks : (backToKw pos (keywordEach kws X.env)).filterMap (·.1) = ks := by rfl) (hdb : (x == ("__debug__" : Str)) = false := by decide)
    (hpl : ((backTo pos (starEach [] X.env)).any (·.1) || (backToKw pos (keywordEach kws X.env)).any (·.1.isNone)) = false := by rfl) : PE X (.Call (.Name x p) [] kws pos) (tMakK C sp t) := by
  obtain ⟨f, fd, ps, spf, g, gV, M, F, hm, hb, hs⟩ := c.ex
  refine ⟨fun pins s σ H Q I h => wpAny_Call_Name_kw (ld_glob I hg hm (PySem.W.callWith_KW0 (h₀ := X.base) I.ok.mod.kin M.kp hall (thn (ha.run pos pins s σ H _ I h) fun ws s2 hh => ?_) hpl) hdb)⟩
  obtain ⟨zs, H2, I2, rz, q2⟩ := hh
  refine ⟨I2.kIn, ?_⟩
  rw [hks]
  have lz : zs.length = ks.length := (hs _ _ _ _ _ (q2 (s2.heap.objs.size + 1) s2.heap.objs.size (I2.hok.fresh (Nat.le_succ _)) (I2.hok.fresh (Nat.le_refl _)) (Nat.ne_of_lt (Nat.lt_succ_self _)))).1
  exact run_makeK (us := []) (vs := []) M F (hr.mono hk) hb pass0 I2 .nil rz rfl lz fun x dx n1 n2 n3 => (hs _ _ _ _ _ (q2 x dx n1 n2 n3)).2
end
/-! ## list.count of plain values -/
def rCntF (K : PySem.W.Frag) : V → List V → Hp → VK → Prop := fun x xs H Q => ∃ (a : Addr) (ys : List V) (y : V), x = .ref a ∧ xs = [y] ∧ SqL K H a ys ∧ flatV y = true ∧ ys.all flatV = true ∧ Q (.int ((ys.countP fun z => eqV z y : Nat) : Int)) H
theorem count_flat {y : V} : ∀ {ys : List V} {us : List Value}, Vals ys us → ys.all flatV = true → us.countP (eqU y) = ys.countP fun z => eqV z y
  | _, _, .nil, _ => rfl
  | _, _, .cons (a := z) (b := u) r t, f => by
    rw [List.all_cons, Bool.and_eq_true] at f
    rw [List.countP_cons, List.countP_cons, count_flat t f.2, eqU_of r f.1]
theorem mt_countF {X : Cx} : MtR X "list.count" (rCntF X.K) := by
  intro pins s σ H x xs v us Q I rx rxs h
  obtain ⟨a, ys, y, rfl, rfl, hs, fy, fys, q⟩ := h
  cases rx
  obtain ⟨uy, rfl, ry⟩ := rxs.one
  obtain ⟨its, rv, ⟨⟨cls, dd, data, sl⟩, n, ho, hc, hdn, hd⟩, hlen⟩ := I.list hs
  simp only at hc hd
  subst hc hd
  refine call_meets PySem.F.slot_list_count ⟨_, ho, rfl⟩ PySem.F.entry_list_count (PySem.F.args_list_count_2 _ _) (SeqAt.list_countAt a its.toArray n dd sl uy (eqU y)) ⟨ho, fun u2 hu2 => mem_eqAt ry fy rv fys u2 (by simpa using hu2), ?_⟩
  refine ⟨.int ((ys.countP fun z => eqV z y : Nat) : Int), H, I.tok _, ⟨s.toks, ?_⟩, q⟩
  show Value.int ((its.toArray.toList.countP (eqU y) : Nat) : Int) s.toks = _
  rw [List.toList_toArray, count_flat rv fys]
/-! ## a method, an __init__ called by place and by keywords -/
theorem kbn_self {K : PySem.W.Frag} {x qual : Str} {st : Stmt} {f : Addr} {fd : FuncData} {ps ks : List Str} (F : Fun K x qual st f fd) (g : {α : Type} → α → List α → List α) (hg : ∀ {v : V} {u : Value} {vs : List V} {us : List Value}, RelV v u → Vals vs us → Vals (g v vs) (g u us))
    (h : ∀ (kV doc pm : Value) (an : Option Addr) (cdv ct u : Value) (ws : List Value), ws.length = ks.length →
      bindArgs (PySem.W.fnOf x qual (defArgs st) (defBody st) (defScope st) .none kV doc pm an cdv ct) ⟨[u], ks.zip ws⟩ = pure (ps.zip (g u ws))) : KBn K fd ps 1 ks (fun us ws => match us with | [u] => g u ws | _ => ws) (fun us ws => match us with | [u] => g u ws | _ => ws) := by
  obtain ⟨oc, od, kV, doc, pm, an, cdv, ct, osl, rfl, lk, hcd⟩ := F.ex
  refine ⟨fun s us ws X l1 l2 => ?_, fun r1 r2 => ?_⟩
  · match us, l1 with
    | [u], _ => exact .of_eq (h kV doc pm an cdv ct u ws l2)
  · cases r1 with
    | nil => exact r2
    | cons a r => cases r with
      | nil => exact hg a r2
      | cons b r => exact r2
section
variable {P : Program} {w : World} {K : PySem.W.Frag} {mg : Str → Option Value} {base : Heap} {C : Addr} {m x qual : Str} {st : Stmt} {ps ks N : List Str} {k : Nat} {sp spk : Sp}
theorem MetAt.metKX (D : MetAt K C m qual st ps) (cl : Cls K C) (S : FnScope N ps (defScope st)) (len : ∀ vs H Q E, sp vs H Q E → vs.length = ps.length)
    (hb : ∀ (f : Addr) (cdv : Value) (A : Around) (outer : List Env) (s : Shared) (H : Hp) (vs : List V) (Q : VK) (E : XK), Room k (A.deeper (envOfC qual (defScope st) s.heap.objs.size f cdv)) → sp vs H Q E →
      (Takes (cxOf (L2.CX P w) P w K mg base N qual (defScope st) f cdv A outer s H E) fun cls d _ G => E cls d G) →
      ∃ t, PSs (cxOf (L2.CX P w) P w K mg base N qual (defScope st) f cdv A outer s H E) (defBody st) t ∧ t { nx := fun _ H' => Q .non H', rt := Q } (start N vs) H)
    (g : {α : Type} → α → List α → List α) (hg : ∀ {v : V} {u : Value} {vs : List V} {us : List Value}, RelV v u → Vals vs us → Vals (g v vs) (g u us))
    (h : ∀ (kV doc pm : Value) (an : Option Addr) (cdv ct u : Value) (ws : List Value), ws.length = ks.length →
      bindArgs (PySem.W.fnOf m qual (defArgs st) (defBody st) (defScope st) .none kV doc pm an cdv ct) ⟨[u], ks.zip ws⟩ = pure (ps.zip (g u ws)))
    (hs : ∀ x zs H Q E, spk (x :: zs) H Q E → zs.length = ks.length ∧ sp (g x zs) H Q E) : MetX P w K mg base (k + 1) C m sp ∧ MetKX P w K mg base (k + 1) C m ks spk := by
  obtain ⟨f, fd, F, hm, b⟩ := D.ex
  have ok := F.okX S len fun cdv A outer s H vs Q E hr hsp => hb f cdv A outer s H vs Q E hr hsp (takes_of rfl rfl rfl rfl)
  exact ⟨⟨f, fd, ps, cl, hm, ok, b⟩, ⟨f, fd, ps, sp, _, _, cl, hm, ok, kbn_self F g hg h, hs⟩⟩
theorem IniAt.makK (D : IniAt K mg C x qual st ps) (S : FnScope N ps (defScope st)) (len : ∀ vs H Q E, sp vs H Q E → vs.length = ps.length)
    (hb : ∀ (f : Addr) (cdv : Value) (A : Around) (outer : List Env) (s : Shared) (H : Hp) (vs : List V) (Q : VK) (E : XK), Room k (A.deeper (envOfC qual (defScope st) s.heap.objs.size f cdv)) → sp vs H Q E →
      (Takes (cxOf (L2.CX P w) P w K mg base N qual (defScope st) f cdv A outer s H E) fun cls d _ G => E cls d G) →
      ∃ t, PSs (cxOf (L2.CX P w) P w K mg base N qual (defScope st) f cdv A outer s H E) (defBody st) t ∧ t { nx := fun _ H' => Q .non H', rt := Q } (start N vs) H)
    (g : {α : Type} → α → List α → List α) (hg : ∀ {v : V} {u : Value} {vs : List V} {us : List Value}, RelV v u → Vals vs us → Vals (g v vs) (g u us))
    (h : ∀ (kV doc pm : Value) (an : Option Addr) (cdv ct u : Value) (ws : List Value), ws.length = ks.length →
      bindArgs (PySem.W.fnOf "__init__" qual (defArgs st) (defBody st) (defScope st) .none kV doc pm an cdv ct) ⟨[u], ks.zip ws⟩ = pure (ps.zip (g u ws)))
    (hs : ∀ x zs H Q E, spk (x :: zs) H Q E → zs.length = ks.length ∧ sp (g x zs) H Q E0) : MakX P w K mg base (k + 1) x C sp ∧ MakK P w K mg base (k + 1) x C ks spk := by
  obtain ⟨f, fd, F, hm, hg2, b⟩ := D.ex
  have ok := F.okX S len fun cdv A outer s H vs Q E hr hsp => hb f cdv A outer s H vs Q E hr hsp (takes_of rfl rfl rfl rfl)
  have ok0 : FnOk P w K mg base CX0 (k + 1) f fd ps (fun vs H Q _ => sp vs H Q E0) := fn_calm ok fun vs H Q E z => z
  exact ⟨⟨f, fd, ps, hm, ok, hg2, b⟩, ⟨f, fd, ps, _, _, _, hm, ok0, hg2, kbn_self F g hg h, hs⟩⟩
end
/-! ## [.. for i, x in enumerate(xs) ..] -/
theorem lc_enum {K : PySem.W.Frag} {a : Addr} {xs : List V} {g : TG} {tt : TT} {te : TE} {vs : List Nat} {σ : L2.St} {H1 : Hp} {D : Addr} {Qd : Hp → Prop} (Pv : Nat → Hp → Prop) (h0 : Pv 0 (upd H1 D (.lst []))) (hq : ∀ i H, Pv i H → SqL K H a xs)
    (hs : ∀ (i : Nat) (x : V) (T : Addr) (H : Hp), xs[i]? = some x → Pv i H → H T = none → g (.ref T) (wipe σ vs) (upd H T (.tup [.int (i : Nat), x])) fun σ2 H2 => wipe σ2 vs = wipe σ vs ∧ tt σ2 H2 fun b H3 =>
      if b = true then te σ2 H3 fun y H4 => ∃ acc, H4 D = some (.lst acc) ∧ acc.length < sizeLine ∧ Pv (i + 1) (upd H4 D (.lst (acc ++ [y]))) else Pv (i + 1) H3) (hd : ∀ H, Pv xs.length H → Qd H) :
    ∃ W : Nat → Nat → Hp → Prop, (∃ m, W 0 m (upd H1 D (.lst []))) ∧ ∀ i m H, W i m H →
      ((Ite K a).stop i H ∧ Qd H) ∨ ((Ite K a).go i H ∧ ∃ Nx : Hp → Prop, (∀ H', Nx H' → ∃ m', m' < m ∧ W (i + 1) m' H') ∧ ∀ x H', (Ite K a).yld i H x H' → g x (wipe σ vs) H' fun σ2 H2 => wipe σ2 vs = wipe σ vs ∧ tt σ2 H2 fun b H3 =>
        if b = true then te σ2 H3 fun y H4 => ∃ acc, H4 D = some (.lst acc) ∧ acc.length < sizeLine ∧ Nx (upd H4 D (.lst (acc ++ [y]))) else Nx H3) := by
  refine ⟨fun i m H => m + i = xs.length ∧ Pv i H, ⟨xs.length, rfl, h0⟩, fun i m H hW => ?_⟩
  obtain ⟨em, p⟩ := hW
  have q := hq i H p
  by_cases lt : i < xs.length
  · have ex : xs[i]? = some xs[i] := List.getElem?_eq_getElem lt
    refine .inr ⟨⟨xs, _, q, ex⟩, Pv (i + 1), fun H' p' => ⟨m - 1, by omega, by omega, p'⟩, fun v H' hy => ?_⟩
    obtain ⟨T, x, rfl, nT, rfl, f⟩ := hy
    exact hs i x T H (f xs q) p nT
  · have ei : i = xs.length := by omega
    subst ei
    exact .inl ⟨⟨xs, q, Nat.le_refl _⟩, hd H p⟩
/-! ## a kept exception stays -/
theorem Kept.same {H H' : Hp} {a C : Addr} {fs : List (Str × V)} (k : Kept H a C fs) (s : Same H H') : Kept H' a C fs := by
  obtain ⟨d, ⟨h1, h2⟩ | ⟨h1, h2⟩⟩ := k
  · exact ⟨d, .inl ⟨s _ _ h1, s _ _ h2⟩⟩
  · exact ⟨d, .inr ⟨s _ _ h1, s _ _ h2⟩⟩
theorem kept_new {H : Hp} {a C d : Addr} {fs : List (Str × V)} (na : H a = none) (hd : H d = some (.xd fs)) : Kept (upd H a (Xo a (.ref C) (some d))) a C fs := ⟨d, .inl ⟨upd_same, upd_keep na hd⟩⟩
theorem But.same {o : Addr} {H H1 H' : Hp} (b : But o H1 H') (s : Same H H1) (n : H o = none) : Same H H' := fun c u e => b c u (fun z => by
  rw [z, n] at e
  cases e) (s c u e)
theorem exm_mk {K : PySem.W.Frag} {C S : Addr} {b : Bool} (h1 : PySem.W.subIn K (.ref S) (.type "BaseException") = some true) (h2 : PySem.W.isClsIn K S = true) (h3 : PySem.W.typeIn K (.ref S) = some (.type "type")) (h4 : PySem.W.subIn K (.ref C) (.ref S) = some b) : PySem.W.exmOne K (.ref C) (.ref S) = some b := by
  have e1 : (PySem.W.subIn K (.ref S) (.type "BaseException") == some true) = true := by rw [h1] <;> rfl
  have e2 : ((PySem.W.clsIn K S).isSome && PySem.W.typeIn K (.ref S) == some (.type "type")) = true := by
    have h2' : (PySem.W.clsIn K S).isSome = true := h2
    rw [h2', h3] <;> rfl
  show (if (PySem.W.subIn K (.ref S) (.type "BaseException") == some true) = true then (if ((PySem.W.clsIn K S).isSome && PySem.W.typeIn K (.ref S) == some (.type "type")) = true then PySem.W.subIn K (.ref C) (.ref S) else none) else none) = some b
  rw [if_pos e1, if_pos e2]
  exact h4
end Sq


set_option Elab.async false
set_option maxRecDepth 100000
set_option maxHeartbeats 4000000
namespace Sq
open PySem PySem.Spec PyProof.Rows L2
/-! ## a, *b = a list -/
theorem star_list {prog : Program} {w : World} {A : Around} {E : Value → Shared → Prop} {s : Shared} {l : Addr} {items : Array Value} {n i : Nat} {Q : List Value → Shared → Prop} (hl : s.heap.IsList l items) (hh : A.handled = none) (hi : i < n) (hn : n ≤ items.size + 1) (hz : items.size ≤ 16384)
    (h : ∀ (h₂ : Heap) (tk : Nat), (∀ b o, s.heap.get? b = some o → h₂.get? b = some o) → Q (items.toList.take i ++ [.ref h₂.objs.size] ++ (items.toList.drop i).drop (items.size + 1 - n)) { s with heap := h₂.push { cls := .type "list", data := .seq ((items.toList.drop i).take (items.size + 1 - n)).toArray }, toks := tk }) :
    wpAny (model prog w) A (unpackItems (.ref l) n (some i)) Q E s := by
  have hlt : l ≠ s.heap.objs.size := by obtain ⟨o, ho, _⟩ := hl; exact Nat.ne_of_lt (Heap.lt_size ho)
  have hll : l < s.heap.objs.size := by obtain ⟨o, ho, _⟩ := hl; exact Heap.lt_size ho
  unfold unpackItems
  refine wpAny_bind ?_
  unfold notIterableAtAll
  refine wpAny_bind (wpAny_specialOf hl.typeIs PySem.F.slot_list_iter.lookup ?_)
  refine wpAny_pure ?_
  simp only [Bool.false_eq_true, if_false]
  refine wpAny_bind (wpAny_holding (wpAny_pyIter_list hl ?_))
  refine wpAny_bind (wpAny_holding (PySem.W.kun_draw hlt i 0 _ _ ⟨_, Heap.get?_push_size _ rfl, rfl, rfl⟩ (hl.push _) (by omega) fun h₁ hit₁ hs₁ => ?_))
  have hl₁ : h₁.IsList l items := (hl.push _).extBut hs₁.extBut hlt
  rw [Nat.zero_add] at hit₁
  have hit₁' := hit₁
  obtain ⟨oi, hoi, _⟩ := hit₁'
  have hl₁' := hl₁
  obtain ⟨ol, hol, _⟩ := hl₁'
  rw [List.drop_zero]
  have hfl : (items.toList.take i).length = i := by rw [List.length_take, Array.length_toList]; omega
  rw [if_neg (show ¬ ((items.toList.take i).length < i) by rw [hfl]; omega)]
  refine wpAny_bind (wpAny_holding (PySem.W.kun_collect (s := { s with heap := h₁ }) (T := "list_iterator") (.inr (.inr (.inl rfl))) (Walks.list (A := A.in1) hh s.heap.objs.size l hlt items) (fun j u st => st.1.typeIs) (k := i) (by omega) ⟨hit₁, hl₁⟩ (Heap.lt_size hoi) (Heap.lt_size hol) (fun h₂ tk hk => ?_) (by rw [sizeLine_eq]; omega)))
  have hrl : (items.toList.drop i).length = items.size - i := by rw [List.length_drop, Array.length_toList]
  have hmid : (items.toList.drop i).length - (n - 1 - i) = items.size + 1 - n := by rw [hrl]; omega
  show wpAny _ _ (if (items.toList.drop i).length < n - 1 - i then _ else _) _ _ _
  rw [if_neg (by rw [hrl]; omega)]
  show wpAny _ _ (newList ((items.toList.drop i).take ((items.toList.drop i).length - (n - 1 - i))) >>= fun d => pure (items.toList.take i ++ [d] ++ (items.toList.drop i).drop ((items.toList.drop i).length - (n - 1 - i)))) _ _ _
  rw [hmid]
  have he : ∀ b o, s.heap.get? b = some o → h₂.get? b = some o := fun b o e => hk b o (Nat.ne_of_lt (Heap.lt_size e)) (hs₁.extBut b o (Nat.ne_of_lt (Heap.lt_size e)) (Heap.get?_push_of_some _ e))
  exact wpAny_bind (wpAny_newList (wpAny_pure (h h₂ tk he)) (by rw [List.length_take, hrl, sizeLine_eq]; omega))
def gStar (K : PySem.W.Frag) (t : TGs) : TG := fun v σ H Q => ∃ a x xs, v = .ref a ∧ SqL K H a (x :: xs) ∧ xs.length ≤ 16000 ∧ ∀ D, H D = none → t [x, .ref D] σ (upd H D (.lst xs)) Q
section
variable {X : Cx} {K : PySem.W.Frag} {e : Expr} {es : List Expr} {t : TG} {u ts : TGs} {p pos : Pos} {k : Nat}
theorem pgs_star (h1 : PG X e t) (h2 : PGs X es u) (hs : (assignEach (.Starred e p :: es) X.env).map (·.2) = assign e X.env :: (assignEach es X.env).map (·.2) := by rfl) : PGs X (.Starred e p :: es) (gCons t u) := by
  refine ⟨fun pins s σ H vs us Q I r h => ?_⟩
  obtain ⟨v, vr, e1, h⟩ := h
  subst e1
  cases r with
  | cons r rr =>
    rw [hs]
    refine assignInOrder_cons (thn (h1.run pins s σ H _ _ _ I r h) fun _ s1 ⟨σ1, H1, I1, q1⟩ => ?_)
    exact h2.run pins s1 σ1 H1 _ _ Q I1 rr q1
/-- a, *b = a list -/
theorem pg_star (hc : X.calm = true) (h : PGs X es ts) (hn : (assignEach es X.env).length = 2 := by rfl) (hst : (assignEach es X.env).findIdx? (·.1) = some 1 := by rfl) (hK : X.K = K := by rfl) : PG X (.Tuple es k pos) (gStar K ts) := by
  subst hK
  refine ⟨fun pins s σ H v u Q I r hw => ?_⟩
  obtain ⟨a, x, xs, e1, hq, hl, hw⟩ := hw
  subst e1
  cases r
  obtain ⟨its, rv, pl, hz⟩ := I.list hq
  have hl' : s.heap.IsList a its.toArray := by
    obtain ⟨o, m, e, c, d, q⟩ := pl
    exact ⟨o, e, c, m, q⟩
  rw [PyProof.Rows.assign_Tuple]
  refine wpAny_bind (wpAny_standAt ?_)
  unfold unpack
  rw [hn, hst]
  cases rv with
  | @cons _ v0 _ vs0 r0 rr =>
    have hlen : vs0.length = xs.length := rr.length.symm
    refine wpAny_bind (wpAny_holding (star_list hl' (I.ok.hd hc) (by decide) (by rw [List.size_toArray, List.length_cons]; omega) (by rw [List.size_toArray, List.length_cons]; omega) fun h₂ tk kp => ?_))
    have I1 : Inv X pins σ H { s with heap := h₂, toks := tk } := I.kept kp
    have em : (((v0 :: vs0).toArray.toList.drop 1).take ((v0 :: vs0).toArray.size + 1 - 2)) = vs0 := by
      rw [List.toList_toArray, List.size_toArray, List.length_cons, List.drop_one, List.tail_cons]
      exact List.take_of_length_le (by omega)
    have el : (((v0 :: vs0).toArray.toList.drop 1).drop ((v0 :: vs0).toArray.size + 1 - 2)) = [] := by
      rw [List.toList_toArray, List.size_toArray, List.length_cons, List.drop_one, List.tail_cons]
      exact List.drop_eq_nil_of_le (by omega)
    have hf := I1.hok.fresh (Nat.le_refl _)
    have I2 : Inv X pins σ (upd H h₂.objs.size (.lst xs)) { s with heap := h₂.push { cls := .type "list", data := .seq vs0.toArray }, toks := tk } :=
      I1.laid (t' := tk) (fun b u q => Heap.get?_push_of_some _ q) (Nat.le_refl _) ⟨by rw [sizeLine_eq]; omega, vs0, _, rr, Heap.get?_push_size _ rfl⟩
    rw [em, el]
    exact h.run pins _ σ _ [x, .ref h₂.objs.size] [v0, .ref h₂.objs.size] Q I2 (.cons r0 (.cons rfl .nil)) (hw _ hf)
end
def tStarL (K : PySem.W.Frag) (te : TE) (t : TA) : TA := fun σ H Q => te σ H fun x H1 => ∃ (p : Addr) (xs : List V), x = V.ref p ∧ SqL K H1 p xs ∧ t σ H1 fun ys H2 => Q (xs ++ ys) H2
/-- *e in a display, e a list -/
theorem pa_starK {X : Cx} {K : PySem.W.Frag} {e : Expr} {es : List Expr} {te : TE} {t : TA} {p : Pos} (he : PE X e te) (hr : PA X es t) (hs : starEach (.Starred e p :: es) X.env = (true, eval e X.env) :: starEach es X.env := by rfl) (hK : X.K = K := by rfl) : PA X (.Starred e p :: es) (tStarL K te t) := by
  subst hK
  have z := StX.pa_star (pe_wk he) hr hs
  refine ⟨fun pos pins s σ H Q I h => z.run pos pins s σ H Q I ⟨_, h, fun v G q => ?_⟩⟩
  obtain ⟨a, xs, e, hq, q⟩ := q
  exact ⟨a, xs, e, .inr hq, q⟩
theorem pe_gc {X : Cx} {x : Str} {v : V} {pos : Pos} (hg : Gl X x) (h : ∃ u, X.mg x = some u ∧ RelV v u) (hdb : (x == ("__debug__" : Str)) = false := by decide) : PE X (.Name x pos) (tC v) := by
  obtain ⟨u, a, b⟩ := h
  exact pe_glob hg a b hdb
/-! ## texts of lists, sign by sign -/
def dig (c : Nat) : Bool := decide (48 ≤ c) && decide (c ≤ 57)
def wrd (n t : Nat) : List Nat := if 1 < t then TL.numL n ++ 94 :: TL.numL t else TL.numL n
/-- equal neighbours, and how often -/
def grpS (acc : List (Int × Nat)) (k : Int) : List (Int × Nat) := match acc.getLast? with
  | some (a, c) => if a = k then acc.dropLast ++ [(a, c + 1)] else acc ++ [(k, 1)]
  | none => [(k, 1)]
def grp (ns : List Int) : List (Int × Nat) := ns.foldl grpS []
def ungrp (ps : List (Int × Nat)) : List Int := ps.flatMap fun p => List.replicate p.2 p.1
theorem ungrp_app (a b : List (Int × Nat)) : ungrp (a ++ b) = ungrp a ++ ungrp b := List.flatMap_append
theorem last_split {α : Type} {l : List α} {x : α} (h : l.getLast? = some x) : l = l.dropLast ++ [x] := by
  have ne : l ≠ [] := fun e => by
    rw [e] at h
    cases h
  rw [List.getLast?_eq_some_getLast ne] at h
  have e := List.dropLast_concat_getLast ne
  rw [Option.some.inj h] at e
  exact e.symm
theorem ungrp_step (acc : List (Int × Nat)) (k : Int) : ungrp (grpS acc k) = ungrp acc ++ [k] := by
  unfold grpS
  cases h : acc.getLast? with
  | none =>
    have e : acc = [] := by
      cases acc with
      | nil => rfl
      | cons a t => simp at h
    subst e
    simp [ungrp]
  | some p =>
    obtain ⟨a, c⟩ := p
    have e := last_split h
    simp only
    split
    · rename_i z
      subst z
      rw [ungrp_app]
      conv => rhs; rw [e, ungrp_app]
      simp [ungrp, List.replicate_succ']
    · rw [ungrp_app]
      simp [ungrp]
theorem ungrp_fold : ∀ (ns : List Int) (acc : List (Int × Nat)), ungrp (ns.foldl grpS acc) = ungrp acc ++ ns
  | [], acc => by simp
  | k :: r, acc => by
    rw [List.foldl_cons, ungrp_fold r, ungrp_step, List.append_assoc]
    rfl
theorem ungrp_grp (ns : List Int) : ungrp (grp ns) = ns := by
  unfold grp
  rw [ungrp_fold]
  simp [ungrp]
/-- the counts are at least 1; what stands there stands in the list -/
def GrpOk (b : Int → Prop) (N : Nat) (ps : List (Int × Nat)) : Prop := ∀ p ∈ ps, b p.1 ∧ 1 ≤ p.2 ∧ p.2 ≤ N
theorem grp_step {b : Int → Prop} {N : Nat} {acc : List (Int × Nat)} {k : Int} (h : GrpOk b N acc) (hk : b k) : GrpOk b (N + 1) (grpS acc k) := by
  have up : ∀ p ∈ acc, b p.1 ∧ 1 ≤ p.2 ∧ p.2 ≤ N + 1 := fun p hp => ⟨(h p hp).1, (h p hp).2.1, Nat.le_succ_of_le (h p hp).2.2⟩
  unfold grpS
  cases e : acc.getLast? with
  | none =>
    intro p hp
    rw [List.mem_singleton.mp hp]
    exact ⟨hk, Nat.le_refl _, by simp⟩
  | some q =>
    obtain ⟨a, c⟩ := q
    have es := last_split e
    have hq := h (a, c) (by rw [es]; simp)
    simp only
    split
    · intro p hp
      rcases List.mem_append.mp hp with z | z
      · exact up p (List.dropLast_subset _ z)
      · rw [List.mem_singleton.mp z]
        exact ⟨hq.1, by simp, by have := hq.2.2; simp only at this ⊢; omega⟩
    · intro p hp
      rcases List.mem_append.mp hp with z | z
      · exact up p z
      · rw [List.mem_singleton.mp z]
        exact ⟨hk, Nat.le_refl _, by simp⟩
theorem grp_fold {b : Int → Prop} : ∀ (ns : List Int) (N : Nat) (acc : List (Int × Nat)), GrpOk b N acc → (∀ k ∈ ns, b k) → GrpOk b (N + ns.length) (ns.foldl grpS acc)
  | [], N, acc, h, _ => h
  | k :: r, N, acc, h, hk => by
    have := grp_fold r (N + 1) (grpS acc k) (grp_step h (hk k (List.mem_cons_self ..))) fun j hj => hk j (List.mem_cons_of_mem _ hj)
    rw [List.foldl_cons, List.length_cons, show N + (r.length + 1) = N + 1 + r.length by omega]
    exact this
theorem grp_ok {b : Int → Prop} {ns : List Int} (h : ∀ k ∈ ns, b k) : GrpOk b ns.length (grp ns) := by
  have := grp_fold ns 0 [] (fun p z => nomatch z) h
  rw [Nat.zero_add] at this
  exact this
theorem grp_snoc (ns : List Int) (k : Int) : grp (ns ++ [k]) = grpS (grp ns) k := by
  unfold grp
  rw [List.foldl_append]
  rfl
theorem grpS_len (acc : List (Int × Nat)) (k : Int) : (grpS acc k).length ≤ acc.length + 1 ∧ 0 < (grpS acc k).length := by
  unfold grpS
  cases e : acc.getLast? with
  | none => simp
  | some q =>
    obtain ⟨a, c⟩ := q
    have es := congrArg List.length (last_split e)
    simp only [List.length_append, List.length_singleton] at es
    simp only
    split <;> simp <;> omega
theorem grp_len (ns : List Int) : (grp ns).length ≤ ns.length := by
  have : ∀ (ns : List Int) (acc : List (Int × Nat)), (ns.foldl grpS acc).length ≤ acc.length + ns.length := by
    intro ns
    induction ns with
    | nil => intro acc; simp
    | cons k r ih =>
      intro acc
      have a := ih (grpS acc k)
      have b := (grpS_len acc k).1
      rw [List.foldl_cons, List.length_cons]
      omega
  have a := this ns []
  simpa [grp] using a
theorem grp_nil {ns : List Int} : grp ns = [] ↔ ns = [] := by
  constructor
  · intro h
    have e := ungrp_grp ns
    rw [h] at e
    exact e.symm
  · rintro rfl
    rfl
def noneL : List Nat := [110, 111, 110, 101]
def wrds (ns : List Int) : List (List Nat) := (grp ns).map fun p => wrd p.1.toNat p.2
def showL (ns : List Int) : List Nat := if ns = [] then noneL else TL.joinL [44, 32] (wrds ns)
/-! ## and read back -/
def numIn (w : List Nat) : Option Nat := if 1 ≤ w.length ∧ w.length ≤ 200 ∧ w.all dig = true then some (NumText.digitsVal w) else none
def numsIn (w : List Nat) : Option (List Int) := match TL.spl [94] 0 [] w with
  | [] => none
  | f :: o => match numIn f, (match o with | [] => some 1 | t :: _ => numIn t) with
    | some n, some t => if 1 < o.length ∨ n < 2 then none else some (List.replicate t (n : Int))
    | _, _ => none
theorem dig_num (n : Nat) : (TL.numL n).all dig = true := by
  rw [List.all_eq_true]
  intro c hc
  have := TL.numL_digits n c hc
  unfold dig
  rw [Bool.and_eq_true, decide_eq_true_eq, decide_eq_true_eq]
  exact this
theorem numIn_num {n : Nat} (h : (TL.numL n).length ≤ 200) : numIn (TL.numL n) = some n := by
  unfold numIn
  have l : 1 ≤ (TL.numL n).length := by
    cases e : TL.numL n with
    | nil => exact absurd e (TL.numL_ne n)
    | cons a t => simp
  rw [if_pos ⟨l, h, dig_num n⟩, TL.numL_val]
theorem free94 (n : Nat) : 94 ∉ TL.numL n := TL.numL_free (.inr (by decide))
theorem free44 (n t : Nat) : 44 ∉ wrd n t := by
  unfold wrd
  have a : ∀ m, 44 ∉ TL.numL m := fun m => TL.numL_free (.inl (by decide))
  split
  · simp only [List.mem_append, List.mem_cons, not_or]
    exact ⟨a n, by decide, a t⟩
  · exact a n
theorem spl_wrd (n t : Nat) : TL.spl [94] 0 [] (wrd n t) = if 1 < t then [TL.numL n, TL.numL t] else [TL.numL n] := by
  unfold wrd
  split
  · have e := TL.spl_part1 (s := 94) (S := []) (p := TL.numL n) (rest := TL.numL t) (acc := []) (free94 n)
    rw [show TL.numL n ++ 94 :: TL.numL t = TL.numL n ++ ([94] ++ TL.numL t) from rfl, e, TL.spl_last1 (free94 t)]
    rfl
  · rw [TL.spl_last1 (free94 n)]
    rfl
theorem nums_wrd {n t : Nat} (hn : (TL.numL n).length ≤ 200) (ht : (TL.numL t).length ≤ 200) (h2 : 2 ≤ n) (h1 : 1 ≤ t) : numsIn (wrd n t) = some (List.replicate t (n : Int)) := by
  unfold numsIn
  rw [spl_wrd]
  by_cases h : 1 < t
  · rw [if_pos h]
    simp only [numIn_num hn, numIn_num ht]
    rw [if_neg (by simp; omega)]
  · rw [if_neg h]
    simp only [numIn_num hn]
    rw [if_neg (by simp; omega), show t = 1 by omega]
theorem free110 (n t : Nat) : 110 ∉ wrd n t := by
  unfold wrd
  have a : ∀ m, 110 ∉ TL.numL m := fun m => TL.numL_free (.inr (by decide))
  split
  · simp only [List.mem_append, List.mem_cons, not_or]
    exact ⟨a n, by decide, a t⟩
  · exact a n
theorem wrds_ne {ns : List Int} (h : ns ≠ []) : wrds ns ≠ [] := fun e => h (grp_nil.mp (List.map_eq_nil_iff.mp e))
theorem spl_show {ns : List Int} (h : ns ≠ []) : TL.spl [44, 32] 0 [] (showL ns) = wrds ns := by
  unfold showL
  rw [if_neg h]
  refine TL.spl_join (wrds_ne h) fun p hp => ?_
  obtain ⟨q, _, rfl⟩ := List.mem_map.mp hp
  exact free44 _ _
theorem show_ne {ns : List Int} (h : ns ≠ []) : showL ns ≠ noneL := fun e => by
  have a := spl_show h
  rw [e, TL.spl_last1 (show 44 ∉ noneL by decide)] at a
  have m : noneL ∈ wrds ns := by
    rw [← a]
    simp
  obtain ⟨q, _, eq⟩ := List.mem_map.mp m
  have : 110 ∈ noneL := by decide
  rw [← eq] at this
  exact free110 _ _ this
theorem show_inj_nil {ns : List Int} : showL ns = noneL ↔ ns = [] := ⟨fun e => Classical.byContradiction fun h => show_ne h e, fun e => by
  subst e
  rfl⟩
/-- lists that are shown and read here -/
def Nice (ns : List Int) : Prop := (∀ k ∈ ns, 2 ≤ k ∧ k < 10 ^ 200) ∧ ns.length ≤ 5000
theorem num_len {k : Int} (h0 : 0 ≤ k) (h : k < 10 ^ 200) : (TL.numL k.toNat).length ≤ 200 := by
  have e : ((10 : Int) ^ 200) = ((10 ^ 200 : Nat) : Int) := by norm_cast
  refine TL.numL_len (by decide) ?_
  rw [e] at h
  omega
theorem lt5 {n : Nat} (h : n ≤ 5000) : n < sizeLine := by
  rw [sizeLine_eq]
  omega
theorem num_len3 {t : Nat} (h : t ≤ 5000) : (TL.numL t).length ≤ 4 := TL.numL_len (by decide) (by omega)
theorem Nice.grp {ns : List Int} (h : Nice ns) : GrpOk (fun k => 2 ≤ k ∧ k < 10 ^ 200) 5000 (grp ns) := fun p hp => by
  have := grp_ok h.1 p hp
  have l := h.2
  exact ⟨this.1, this.2.1, by omega⟩
theorem wrd_len {k : Int} {t : Nat} (h0 : 0 ≤ k) (h : k < 10 ^ 200) (ht : t ≤ 5000) : (wrd k.toNat t).length ≤ 205 := by
  have a := num_len h0 h
  have b := num_len3 ht
  unfold wrd
  split
  · rw [List.length_append, List.length_cons]
    omega
  · omega
theorem join_len (s : List Nat) : ∀ ws : List (List Nat), (TL.joinL s ws).length ≤ (ws.map (·.length)).sum + ws.length * s.length
  | [] => by simp [TL.joinL]
  | [p] => by simp [TL.joinL]
  | p :: q :: r => by
    have ih := join_len s (q :: r)
    simp only [TL.joinL, List.length_append, List.map_cons, List.sum_cons, List.length_cons] at ih ⊢
    have : (r.length + 1 + 1) * s.length = (r.length + 1) * s.length + s.length := by rw [Nat.add_mul (r.length + 1) 1]; omega
    omega
theorem sum_le {b : Nat} : ∀ {ws : List (List Nat)}, (∀ w ∈ ws, w.length ≤ b) → (ws.map (·.length)).sum ≤ ws.length * b
  | [], _ => by simp
  | w :: r, h => by
    have a := h w (List.mem_cons_self ..)
    have c := sum_le (ws := r) fun x hx => h x (List.mem_cons_of_mem _ hx)
    rw [List.map_cons, List.sum_cons, List.length_cons, Nat.add_mul]
    omega
theorem Nice.words {ns : List Int} (h : Nice ns) : (∀ w ∈ wrds ns, w.length ≤ 205) ∧ (wrds ns).length ≤ 5000 := by
  refine ⟨fun w hw => ?_, ?_⟩
  · obtain ⟨p, hp, rfl⟩ := List.mem_map.mp hw
    obtain ⟨a, b, c⟩ := h.grp p hp
    exact wrd_len (by omega) a.2 c
  · unfold wrds
    rw [List.length_map]
    exact Nat.le_trans (grp_len ns) h.2
theorem Nice.len {ns : List Int} (h : Nice ns) : (showL ns).length ≤ 1050000 := by
  obtain ⟨a, b⟩ := h.words
  unfold showL
  split
  · decide
  · have c := join_len [44, 32] (wrds ns)
    have d := sum_le a
    have e := Nat.mul_le_mul_right 205 b
    have f : (wrds ns).length * ([44, 32] : List Nat).length ≤ 5000 * 2 := Nat.mul_le_mul_right 2 b
    omega
theorem wrds_get {ns : List Int} {i : Nat} {w : List Nat} (h : (wrds ns)[i]? = some w) : ∃ p, (grp ns)[i]? = some p ∧ w = wrd p.1.toNat p.2 := by
  unfold wrds at h
  rw [List.getElem?_map] at h
  cases e : (grp ns)[i]? with
  | none =>
    rw [e] at h
    cases h
  | some p =>
    rw [e] at h
    exact ⟨p, rfl, (Option.some.inj h).symm⟩
theorem ungrp_take {ps : List (Int × Nat)} {i : Nat} {p : Int × Nat} (h : ps[i]? = some p) : ungrp (ps.take (i + 1)) = ungrp (ps.take i) ++ List.replicate p.2 p.1 := by
  rw [List.take_add_one, h, ungrp_app]
  simp [ungrp]
/-! ## the pairs in the heap -/
def Prs (H : Hp) (l : Addr) (ps : List (Int × Nat)) : Prop := ∃ ts : List Addr, H l = some (.lst (ts.map V.ref)) ∧ ts.length = ps.length ∧ ∀ (i : Nat) (t : Addr) (p : Int × Nat), ts[i]? = some t → ps[i]? = some p → H t = some (.tup [.int p.1, .int ((p.2 : Nat) : Int)])
theorem Prs.same {H H' : Hp} {l : Addr} {ps : List (Int × Nat)} (h : Prs H l ps) (s : Same H H') : Prs H' l ps := by
  obtain ⟨ts, a, b, c⟩ := h
  exact ⟨ts, s _ _ a, b, fun i t p h1 h2 => s _ _ (c i t p h1 h2)⟩
def dPs (ps : List (Int × Nat)) : PyData := .list (ps.map fun p => .tuple [.int p.1, .int ((p.2 : Nat) : Int)])
theorem dpall_prs {K : PySem.W.Frag} {H : Hp} : ∀ (ts : List Addr) (ps : List (Int × Nat)), ts.length = ps.length → (∀ (i : Nat) (t : Addr) (p : Int × Nat), ts[i]? = some t → ps[i]? = some p → H t = some (.tup [.int p.1, .int ((p.2 : Nat) : Int)])) →
    DpAll K H (ts.map V.ref) (ps.map fun p => .tuple [.int p.1, .int ((p.2 : Nat) : Int)])
  | [], [], _, _ => .nil
  | [], _ :: _, h, _ => by simp at h
  | _ :: _, [], h, _ => by simp at h
  | t :: ts, p :: ps, h, c => .cons (.tup (SqT.of (c 0 t p rfl rfl)) (.cons (.int _) (.cons (.int _) .nil))) (dpall_prs ts ps (by simpa using h) fun i t' p' h1 h2 => c (i + 1) t' p' (by simpa using h1) (by simpa using h2))
theorem dp_prs {K : PySem.W.Frag} {H : Hp} {l : Addr} {ps : List (Int × Nat)} (h : Prs H l ps) : Dp K H (.ref l) (dPs ps) := by
  obtain ⟨ts, a, b, c⟩ := h
  exact .lst (seqL_of a) (dpall_prs ts ps b c)
theorem can_prs : ∀ ps : List (Int × Nat), PyData.canLayAll0 (ps.map fun p => .tuple [.int p.1, .int ((p.2 : Nat) : Int)]) = true
  | [] => by simp [PyData.canLayAll0]
  | p :: r => by simp [PyData.canLayAll0, PyData.canLay0, can_prs r]
theorem dep_prs : ∀ ps : List (Int × Nat), PyData.depthAll (ps.map fun p => .tuple [.int p.1, .int ((p.2 : Nat) : Int)]) ≤ 1
  | [] => by simp [PyData.depthAll]
  | p :: r => by
    have := dep_prs r
    simp only [List.map_cons, PyData.depthAll, PyData.depth]
    omega
theorem shaped_prs (ps : List (Int × Nat)) : SeqAt.shaped (dPs ps) = true := by
  have := dep_prs ps
  unfold SeqAt.shaped dPs
  rw [Bool.and_eq_true, decide_eq_true_eq]
  refine ⟨by simp only [PyData.canLay0, can_prs], ?_⟩
  show PyData.depth _ ≤ 64
  rw [PyData.depth]
  omega
theorem eqv_prs0 (ps : List (Int × Nat)) : PyData.eqv (dPs ps) (dI []) = decide (ps = []) := by
  unfold dPs dI
  cases ps with
  | nil => simp [PyData.eqv, PyData.eqvAll]
  | cons a r => simp [PyData.eqv, PyData.eqvAll]
/-- found != [] -/
theorem r_nePs {K : PySem.W.Frag} {H : Hp} {l b : Addr} {ps : List (Int × Nat)} {Q : VK} (h1 : Prs H l ps) (h2 : SqL K H b (iv [])) (q : Q (.bl (!decide (ps = []))) H) : rNeQ K (.ref l) (.ref b) H Q :=
  rNeQ_of ⟨dPs ps, dI [], dp_prs h1, dp_iv h2, shaped_prs ps, shaped_dI [], by rw [eqv_prs0]; exact q⟩
theorem Prs.last {H : Hp} {l : Addr} {ps : List (Int × Nat)} {a : Int} {c : Nat} (h : Prs H l ps) (e : ps.getLast? = some (a, c)) :
    ∃ (ts : List Addr) (t : Addr) (j : Nat), H l = some (.lst (ts.map V.ref)) ∧ ixN (ts.map V.ref).length (-1) = some j ∧ atI (ts.map V.ref) (-1) = some (.ref t) ∧ H t = some (.tup [.int a, .int ((c : Nat) : Int)]) ∧
      ∀ (T : Addr) (k : Int) (H' : Hp), (∀ b o, b ≠ l → H b = some o → H' b = some o) → H' T = some (.tup [.int k, .int (((c + 1 : Nat) : Nat) : Int)]) → H' l = some (.lst ((ts.map V.ref).set j (.ref T))) → Prs H' l (ps.dropLast ++ [(k, c + 1)]) := by
  obtain ⟨ts, h1, h2, h3⟩ := h
  have ep := last_split e
  have lp := congrArg List.length ep
  simp only [List.length_append, List.length_singleton, List.length_dropLast] at lp
  have hpos : 0 < ts.length := by omega
  have lt : ts.length - 1 < ts.length := by omega
  have ix : ixN (ts.map V.ref).length (-1) = some (ts.length - 1) := by
    rw [List.length_map]
    unfold ixN
    rw [if_neg (by omega)]
    rw [if_pos (by omega)]
    congr 1
    omega
  have eg : ps[ts.length - 1]? = some (a, c) := by
    rw [h2, ep]
    simp
  refine ⟨ts, ts[ts.length - 1], ts.length - 1, h1, ix, ?_, h3 _ _ _ (List.getElem?_eq_getElem lt) eg, fun T k H' keep hT hl => ?_⟩
  · unfold atI
    rw [ix]
    show (ts.map V.ref)[ts.length - 1]? = _
    rw [List.getElem?_map, List.getElem?_eq_getElem lt]
    rfl
  · refine ⟨ts.set (ts.length - 1) T, by rw [hl, List.map_set], by rw [List.length_set, List.length_append, List.length_dropLast, List.length_singleton]; omega, fun i t p ht hp => ?_⟩
    have li : i < ts.length := by
      have := (List.getElem?_eq_some_iff.mp ht).1
      rw [List.length_set] at this
      exact this
    by_cases z : i = ts.length - 1
    · subst z
      rw [List.getElem?_set_self lt] at ht
      have et : T = t := Option.some.inj ht
      rw [List.getElem?_append_right (by rw [List.length_dropLast]; omega), List.length_dropLast, show ts.length - 1 - (ps.length - 1) = 0 by omega] at hp
      have epp : (k, c + 1) = p := by simpa using hp
      rw [← et, ← epp]
      exact hT
    · rw [List.getElem?_set_ne (by omega)] at ht
      rw [List.getElem?_append_left (by rw [List.length_dropLast]; omega), List.getElem?_dropLast, if_pos (by omega)] at hp
      have old := h3 i t p ht hp
      refine keep t _ (fun e => ?_) old
      rw [e, h1] at old
      cases old
theorem Prs.snoc {H H' : Hp} {l : Addr} {ps : List (Int × Nat)} {k : Int} (h : Prs H l ps) : ∃ ts : List Addr, H l = some (.lst (ts.map V.ref)) ∧ ts.length = ps.length ∧
    ∀ (T : Addr) (H' : Hp), (∀ b o, b ≠ l → H b = some o → H' b = some o) → H' T = some (.tup [.int k, .int ((1 : Nat) : Int)]) → H' l = some (.lst (ts.map V.ref ++ [.ref T])) → Prs H' l (ps ++ [(k, 1)]) := by
  obtain ⟨ts, h1, h2, h3⟩ := h
  refine ⟨ts, h1, h2, fun T H' keep hT hl => ⟨ts ++ [T], by rw [hl]; simp, by simp [h2], fun i t p ht hp => ?_⟩⟩
  by_cases z : i < ts.length
  · rw [List.getElem?_append_left z] at ht
    rw [List.getElem?_append_left (by omega)] at hp
    have old := h3 i t p ht hp
    refine keep t _ (fun e => ?_) old
    rw [e, h1] at old
    cases old
  · have li : i = ts.length := by
      have := (List.getElem?_eq_some_iff.mp ht).1
      simp at this
      omega
    subst li
    rw [List.getElem?_append_right (Nat.le_refl _), Nat.sub_self] at ht
    rw [h2, List.getElem?_append_right (Nat.le_refl _), Nat.sub_self] at hp
    have et : T = t := by simpa using ht
    have ep : (k, 1) = p := by simpa using hp
    rw [← et, ← ep]
    exact hT
theorem show_short {ns : List Int} (h : Nice ns) {n : Nat} (hn : ns.length ≤ n) : (showL ns).length ≤ n * 207 + 4 := by
  obtain ⟨a, b⟩ := h.words
  unfold showL
  split
  · show 4 ≤ _
    omega
  · have c := join_len [44, 32] (wrds ns)
    have d := sum_le a
    have l : (wrds ns).length ≤ n := by
      unfold wrds
      rw [List.length_map]
      exact Nat.le_trans (grp_len ns) hn
    have e := Nat.mul_le_mul_right 205 l
    have f : (wrds ns).length * ([44, 32] : List Nat).length ≤ n * 2 := Nat.mul_le_mul_right 2 l
    omega
theorem fold_rep (k : Int) : ∀ (c : Nat) (gs : List (Int × Nat)) (t : Nat), (List.replicate c k).foldl grpS (gs ++ [(k, t)]) = gs ++ [(k, t + c)]
  | 0, gs, t => by simp
  | c + 1, gs, t => by
    have e : grpS (gs ++ [(k, t)]) k = gs ++ [(k, t + 1)] := by
      unfold grpS
      simp
    rw [List.replicate_succ, List.foldl_cons, e, fold_rep k c gs (t + 1), show t + 1 + c = t + (c + 1) by omega]
theorem grp_add {ns : List Int} {gs : List (Int × Nat)} {k : Int} {c : Nat} (h : grp ns = gs) (hl : ∀ a t, gs.getLast? = some (a, t) → a ≠ k) (hc : 1 ≤ c) : grp (ns ++ List.replicate c k) = gs ++ [(k, c)] := by
  obtain ⟨c', rfl⟩ : ∃ c', c = c' + 1 := ⟨c - 1, by omega⟩
  unfold grp at h ⊢
  rw [List.foldl_append, h, List.replicate_succ, List.foldl_cons]
  have e : grpS gs k = gs ++ [(k, 1)] := by
    unfold grpS
    cases el : gs.getLast? with
    | none =>
      have : gs = [] := List.getLast?_eq_none_iff.mp el
      subst this
      rfl
    | some q =>
      obtain ⟨a, t⟩ := q
      simp only
      rw [if_neg (hl a t el)]
  rw [e, fold_rep k c' gs 1, show 1 + c' = c' + 1 by omega]
theorem grp_two {o : Int} {m : Nat} (h : 1 ≤ m) : grp ((o + 1) :: List.replicate m o) = [(o + 1, 1), (o, m)] :=
  grp_add (ns := [o + 1]) (gs := [(o + 1, 1)]) rfl (fun a t e => by
    have : a = o + 1 := by
      have := congrArg (Option.map Prod.fst) e
      simpa using this.symm
    omega) h
theorem show_two {o : Int} {m : Nat} (h : 2 ≤ m) : showL ((o + 1) :: List.replicate m o) = TL.numL (o + 1).toNat ++ ([44, 32] ++ (TL.numL o.toNat ++ 94 :: TL.numL m)) := by
  unfold showL wrds
  rw [if_neg (by simp), grp_two (by omega)]
  simp only [List.map_cons, List.map_nil, TL.joinL]
  unfold wrd
  rw [if_neg (by decide), if_pos (by omega)]
end Sq

/-! ## own tactic words (local) -/
local macro_rules | `(tactic| walk_at "sq hp") => `(tactic| first
  | assumption
  | exact L2.upd_same
  | (refine Sq.Sep.get (by assumption) ?_; walk_at "sq hp")
  | (refine Sq.upd_keep (by assumption) ?_; walk_at "sq hp")
  | (refine Sq.Same.get (by assumption) ?_; walk_at "sq hp")
  | (refine Sq.upd_off (by assumption) ?_; walk_at "sq hp")
  | (refine Sq.upd_off (Ne.symm (by assumption)) ?_; walk_at "sq hp"))
local macro_rules | `(tactic| walk_at "sq sql") => `(tactic| first
  | assumption
  | exact Sq.seqL_of (by walk_at "sq hp")
  | exact L2.Same.seq (by assumption) (by assumption)
  | exact L2.Same.seq (Sq.Sep.same (by assumption)) (by assumption))
local macro_rules | `(tactic| walk_at "sq len") => `(tactic| (
  (try simp only [List.length_map, List.length_append, List.length_cons, List.length_nil, List.length_take, List.length_drop, List.length_reverse]); (try rw [PySem.sizeLine_eq]); omega))
local macro_rules | `(tactic| walk_at "sq side") => `(tactic| first
  | exact rfl
  | exact Nat.zero_le _
  | exact Sq.lit_len (Nat.le_of_ble_eq_true rfl)
  | ((with_reducible show L2.SqL _ _ _ _); walk_at "sq sql")
  | ((with_reducible show L2.SqT _ _ _ _); exact L2.SqT.of (by walk_at "sq hp"))
  | (apply Exists.intro; walk_at "sq sql")
  | ((with_reducible show _ = some _); walk_at "sq hp")
  | ((with_reducible show Sq.Sep _ _ _); assumption)
  | ((with_reducible show L2.ClsV _ _); first | exact .ty _ | exact .own _)
  | ((with_reducible show L2.TyX _ _ _ _); first | exact .base .non | exact .base (.bl _) | exact .base (.int _) | exact .base (.str _) | exact Sq.tyx_lst (by walk_at "sq sql") | exact Sq.tyx_tup (by exact L2.SqT.of (by walk_at "sq hp")) | assumption)
  | ((with_reducible show Sq.CPowW _ _); first | assumption | exact ⟨by decide, by decide, by decide⟩)
  | ((with_reducible show L2.CMulW _ _); first | assumption | exact (by decide +kernel))
  | ((with_reducible show L2.CDivW _ _); first | assumption | exact ⟨by decide, by decide⟩)
  | ((with_reducible show L2.tyV _ "list" _ _); exact Or.inl ⟨rfl, _, by walk_at "sq sql"⟩)
  | ((with_reducible show _ < PySem.sizeLine); walk_at "sq len")
  | ((with_reducible show _ ≤ PySem.sizeLine); walk_at "sq len")
  | ((with_reducible show (0 : Int) < _); first | assumption | decide | omega)
  | decide
  | omega)
local macro_rules | `(tactic| walk_at "sq go") => `(tactic| repeat (first
  | exact rfl
  | (fail_if_success (show ∃ W : Nat → Nat → L2.St → L2.Hp → Prop, _)
     fail_if_success (show ∃ W : Nat → Nat → L2.Hp → Prop, _)
     fail_if_success (show ∃ W : Nat → L2.St → L2.Hp → Prop, _)
     fail_if_success (show ∃ W : Nat → Nat → List L2.V → L2.St → L2.Hp → Prop, _)
     apply Exists.intro)
  | (apply And.intro; focus walk_at "sq side")
  | refine L2.iteT ?_
  | refine L2.iteF ?_))
namespace Sq
open PySem PySem.Spec PyProof.Rows L2
def topS (i : Nat) : Stmt := PySem.Challenge.pw_squeezelists_k14_whole_no_two_lists_alik.main.body.getD i (.Pass ⟨0, 0, 0, 0⟩)
structure Bt (mg : Str → Option Value) : Prop where
  «ValueError» : mg "ValueError" = none
  «bool» : mg "bool" = none
  «enumerate» : mg "enumerate" = none
  «int» : mg "int" = none
  «isinstance» : mg "isinstance" = none
  «len» : mg "len" = none
  «list» : mg "list" = none
  «max» : mg "max" = none
  «min» : mg "min" = none
  «range» : mg "range" = none
  «repr» : mg "repr" = none
  «set» : mg "set" = none
  «sorted» : mg "sorted" = none
  «str» : mg "str" = none
  «tuple» : mg "tuple" = none
  «zip» : mg "zip" = none
section
variable {P : Program} {w : World} {K : PySem.W.Frag} {mg : Str → Option Value} {base : Heap}

/-! ### check_list, of valid lists -/
abbrev s_check_list : Stmt := topS 4
theorem sc_check_list : FnScope ["replacements", "index", "replacement"] ["replacements"] (defScope s_check_list) := ⟨rfl, rfl, rfl, by decide +kernel, rfl, by decide +kernel, by decide +kernel⟩

def spCheckList (K : PySem.W.Frag) : Sp := fun vs H Q _ => ∃ (a : Addr) (ns : List Int), vs = [.ref a] ∧ SqL K H a (iv ns) ∧ Keep (Two ns) ∧ ∀ H', Same H H' → Q .non H'
theorem cal_check_list (D : DefAt K mg "check_list" s_check_list ["replacements"]) (B : Bt mg) : Cal P w K mg base 1 "check_list" (spCheckList K) [] := by
  refine D.cal sc_check_list (fun vs H Q E h => ?_) (fun f cdv A outer s H vs Q E hr h => ?_)
  · obtain ⟨a, ns, rfl, _⟩ := h
    rfl
  · obtain ⟨a, ns, rfl, hS, ⟨h2⟩, q⟩ := h
    refine ⟨_, (pss_one (ps_for PassesOwn.never rfl (pi_enumK (K := K) (by rfl) B.enumerate (pa_cons (pv 0) pa_nil)) (pg_tupK (K := K) (n := 2) rfl (pgs_cons (pg_name (i := 1) sc_check_list.nd rfl (Or.inl rfl)) (pgs_cons (pg_name (i := 2) sc_check_list.nd rfl (Or.inl rfl)) pgs_nil)))
   (pss_one (ps_if (pt_cmpR op_lt (pv 2) pe_int (nomark _)) (pss_one ps_never) pss_nil)))), ?_⟩
    walk_at "sq go"
    refine for_enum (K := K) (a := a) (xs := iv ns) (fun i σ H' => Keep (∃ x y, σ = [some (.ref a), x, y] ∧ Same H H')) ⟨none, none, rfl, .refl H⟩ (fun i σ H' h => ?_) (fun i x T σ H' hx h nT => ?_) (fun σ H' h => ?_)
    · obtain ⟨_, _, _, s⟩ := h.o
      exact s.seq hS
    · obtain ⟨y1, y2, rfl, s⟩ := h.o
      obtain ⟨n, hn, rfl⟩ := iv_get hx
      have hn2 := h2 n (List.mem_of_getElem? hn)
      walk_at "sq go"
      refine ifD (fun c => absurd c (by omega)) (fun c => ?_)
      exact ⟨_, _, rfl, s.trans (same_new nT)⟩
    · obtain ⟨y1, y2, rfl, s⟩ := h.o
      exact q H' s

/-! ### lengths of runs, of valid arguments -/
abbrev s_squeezed_once : Stmt := topS 5
theorem sc_squeezed_once : FnScope ["length", "replacement"] ["length", "replacement"] (defScope s_squeezed_once) := ⟨rfl, rfl, rfl, by decide +kernel, rfl, by decide +kernel, by decide +kernel⟩

def spSqOnce : Sp := fun vs H Q _ => ∃ n k : Int, vs = [.int n, .int k] ∧ Keep (2 ≤ k ∧ k < 2 ^ 240) ∧ Q (.int (once n k)) H
theorem cal_squeezed_once (D : DefAt K mg "squeezed_once" s_squeezed_once ["length", "replacement"]) (B : Bt mg) : Cal P w K mg base 1 "squeezed_once" spSqOnce [] := by
  refine D.cal sc_squeezed_once (fun vs H Q E h => ?_) (fun f cdv A outer s H vs Q E hr h => ?_)
  · obtain ⟨n, k, rfl, _⟩ := h
    rfl
  · obtain ⟨n, k, rfl, ⟨h2, hb⟩, q⟩ := h
    refine ⟨_, (pss_one (ps_ret (pe_op op_add (pe_op op_fdivW (pv 0) (pv 1)) (pe_op op_mod (pv 0) (pv 1))))), ?_⟩
    have c : CDivW n k := div_ok (by omega) hb
    walk_at "sq go"
    exact q

abbrev s_greatest_origin_of : Stmt := topS 7
theorem sc_greatest_origin_of : FnScope ["length", "replacements", "replacement"] ["length", "replacements"] (defScope s_greatest_origin_of) := ⟨rfl, rfl, rfl, by decide +kernel, rfl, by decide +kernel, by decide +kernel⟩

/-- sizes of a length and a list's numbers -/
def FitP (ns : List Int) (m : Int) : Prop := ∃ b c : Nat, (∀ k ∈ ns, Sm b k) ∧ Sm c m ∧ 10 ≤ b ∧ 10 ≤ c ∧ c + (ns.length + 1) * b ≤ 900000
theorem sm_prod {b c : Nat} {m : Int} : ∀ {ns : List Int}, (∀ k ∈ ns, Sm b k) → Sm c m → Sm (c + ns.length * b) (m * prodL ns)
  | [], _, h => by simpa [prodL] using h
  | k :: r, hb, h => by
    have ih := sm_prod (ns := r) (m := m * k) (c := c + b) (fun j hj => hb j (List.mem_cons_of_mem _ hj)) (h.mul (hb k (List.mem_cons_self ..)))
    rw [prodL_cons, ← Int.mul_assoc, List.length_cons, Nat.add_mul, Nat.one_mul, show c + (r.length * b + b) = c + b + r.length * b by omega]
    exact ih
def spGO (K : PySem.W.Frag) : Sp := fun vs H Q _ => ∃ (n : Int) (p : Addr) (ns : List Int), vs = [.int n, .ref p] ∧ SqL K H p (iv ns) ∧ Keep (FitP ns n) ∧ Q (.int (n * prodL ns)) H
theorem prod_take {row : List Int} {k : Int} {i : Nat} (h : row[i]? = some k) (n : Int) : n * prodL (row.take (i + 1)) = n * prodL (row.take i) * k := by
  rw [List.take_add_one, h]
  show n * prodL (row.take i ++ [k]) = _
  rw [prodL_snoc, Int.mul_assoc]
theorem cal_greatest_origin_of (D : DefAt K mg "greatest_origin_of" s_greatest_origin_of ["length", "replacements"]) (B : Bt mg) : Cal P w K mg base 1 "greatest_origin_of" (spGO K) [] := by
  refine D.cal sc_greatest_origin_of (fun vs H Q E h => ?_) (fun f cdv A outer s H vs Q E hr h => ?_)
  · obtain ⟨n, p, ns, rfl, _⟩ := h
    rfl
  · obtain ⟨n, p, ns, rfl, hS, ⟨b, c, hb, hc, h10, hc10, hz⟩, q⟩ := h
    refine ⟨_, (pss_cons (ps_for PassesOwn.never rfl (pi_listK (K := K) (pv 1)) (pg_name (i := 2) sc_greatest_origin_of.nd rfl (Or.inl rfl))
   (pss_one (ps_aug (i := 0) sc_greatest_origin_of.nd rfl (Or.inl rfl) (pv 2) ip_mulW)))
  (pss_one (ps_ret (pv 0)))), ?_⟩
    walk_at "sq go"
    refine for_list (K := K) (a := p) (xs := iv ns) (fun i σ H' => Keep (∃ x, σ = [some (.int (n * prodL (ns.take i))), some (.ref p), x] ∧ H' = H)) ⟨none, by simp [prodL, L2.start], rfl⟩ (fun i σ H' _ h => ?_) (fun i x σ H' hx h => ?_) (fun σ H' h => ?_)
    · obtain ⟨x, _, rfl⟩ := h.o
      exact hS
    · obtain ⟨x, rfl, rfl⟩ := h.o
      obtain ⟨k, hk, rfl⟩ := iv_get hx
      have s1 := sm_prod (ns := ns.take i) (fun j hj => hb j (List.mem_of_mem_take hj)) hc
      have len : (ns.take i).length ≤ ns.length := by
        rw [List.length_take]
        omega
      have le := Nat.mul_le_mul_right b len
      have wm : CMulW (n * prodL (ns.take i)) k := s1.wide (hb k (List.mem_of_getElem? hk)) (by omega) (by omega) (by
        rw [Nat.add_mul] at hz
        omega)
      walk_at "sq go"
      exact ⟨_, by rw [prod_take hk]; rfl, rfl⟩
    · obtain ⟨x, rfl, rfl⟩ := h.o
      have e : (iv ns).length = ns.length := iv_len _
      rw [e, List.take_length]
      walk_at "sq go"
      exact q

/-! ### runs that part two lists -/
def Bnd (ns : List Int) : Prop := Two ns ∧ (∀ k ∈ ns, k ≤ 10 ^ 6) ∧ ns.length ≤ 200
theorem Bnd.sub {ns ms : List Int} (h : Bnd ns) (hs : ∀ k ∈ ms, k ∈ ns) (hl : ms.length ≤ ns.length) : Bnd ms := ⟨fun k hk => h.1 k (hs k hk), fun k hk => h.2.1 k (hs k hk), Nat.le_trans hl h.2.2⟩
theorem Bnd.sm {ns : List Int} (h : Bnd ns) : ∀ k ∈ ns, Sm 20 k := fun k hk => by
  have := h.1 k hk
  have := h.2.1 k hk
  unfold Sm
  omega
theorem Bnd.fit {ns : List Int} (h : Bnd ns) {m : Int} {c : Nat} (hm : Sm c m) (h10 : 10 ≤ c) (hc : c ≤ 100000) : FitP ns m := by
  refine ⟨20, c, h.sm, hm, by decide, h10, ?_⟩
  have := h.2.2
  omega
theorem Bnd.prod {ns : List Int} (h : Bnd ns) : Sm 4010 (prodL ns) := by
  have z := sm_prod (ns := ns) (m := 1) (c := 10) h.sm (by unfold Sm; decide)
  rw [Int.one_mul] at z
  refine z.mono ?_
  have := h.2.2
  omega
abbrev s_parting_run : Stmt := topS 10
theorem sc_parting_run : FnScope ["first", "second", "one", "other", "index", "run", "left", "right"] ["first", "second"] (defScope s_parting_run) := ⟨rfl, rfl, rfl, by decide +kernel, rfl, by decide +kernel, by decide +kernel⟩

def spPart (K : PySem.W.Frag) : Sp := fun vs H Q _ => ∃ (a b : Addr) (ns ms : List Int), vs = [.ref a, .ref b] ∧ SqL K H a (iv ns) ∧ SqL K H b (iv ms) ∧ Keep (Bnd ns ∧ Bnd ms ∧ (ns = ms → ∀ H', Same H H' → Q .non H') ∧ ∀ n H', ns ≠ ms → 1 ≤ n → sqz n ns ≠ sqz n ms → Same H H' → Q (.int n) H')
local macro_rules | `(tactic| walk_at "sq side") => `(tactic| first
  | ((with_reducible show _ → _ → _ → _ → _ = false); assumption)
  | ((with_reducible show List.all _ _ = true); assumption)
  | ((with_reducible show _[_]? = some _); assumption))
theorem two_part (D : DefAt K mg "parting_run" s_parting_run ["first", "second"]) (B : Bt mg) (g_SINGLE : ∃ u, mg "SINGLE" = some u ∧ L2.RelV (.int 1) u) (c_check_list : Cal P w K mg base 1 "check_list" (spCheckList K) []) (c_greatest_origin_of : Cal P w K mg base 1 "greatest_origin_of" (spGO K) []) : Def2 P w K mg base 2 "parting_run" s_parting_run ["first", "second"] (spPart K) := by
  refine D.two sc_parting_run (fun vs H Q E h => ?_) (fun f cdv A outer s H vs Q E hr h => ?_)
  · obtain ⟨a, b, ns, ms, rfl, _⟩ := h
    rfl
  · obtain ⟨a, b, ns, ms, rfl, hA, hB, ⟨bn, bm, q0, q1⟩⟩ := h
    refine ⟨_, (pss_cons (ps_expr (pe_c c_check_list hr (by first | decide | omega) (by rfl) (pa_cons (pv 0) pa_nil)))
  (pss_cons (ps_expr (pe_c c_check_list hr (by first | decide | omega) (by rfl) (pa_cons (pv 1) pa_nil)))
  (pss_cons (ps_if (pt_cmpR (op_eqDK (K := K) hr.units) (pv 0) (pv 1) (nomark _)) (pss_one (ps_ret pe_non)) pss_nil)
  (pss_cons (ps_par (i := 2) (j := 3) rfl sc_parting_run.nd rfl rfl (by decide) rfl rfl (pa_cons (pe_c c_greatest_origin_of hr (by first | decide | omega) (by rfl) (pa_cons (pe_gc (by rfl) g_SINGLE) (pa_cons (pv 0) pa_nil))) (pa_cons (pe_c c_greatest_origin_of hr (by first | decide | omega) (by rfl) (pa_cons (pe_gc (by rfl) g_SINGLE) (pa_cons (pv 1) pa_nil))) pa_nil)) (by rfl))
  (pss_cons (ps_if (pt_cmpR op_ne (pv 2) (pv 3) (nomark _)) (pss_one (ps_ret (pe_callB (call_max2 rfl) (by rfl) B.max (by decide +kernel) (pa_cons (pv 2) (pa_cons (pv 3) pa_nil))))) pss_nil)
  (pss_cons (ps_set (i := 4) sc_parting_run.nd rfl (Or.inl rfl) (pe_bm PySem.F.plainAttrs_list PySem.F.slot_list_index PySem.F.type_list_index mt_index (pe_lc (own := [("left", 6), ("right", 7)]) (by rfl) sc_parting_run.nd (pi_zipK (K := K) (by rfl) B.zip (pa_cons (pv 0) (pa_cons (pv 1) pa_nil))) (blkOk_by (own := [("left", 6), ("right", 7)]) (N := ["first", "second", "one", "other", "index", "run", "left", "right"]) (sc := defScope s_parting_run) (by decide +kernel)) (fun _ _ _ _ _ => (pg_tupK (K := K) (n := 2) rfl (pgs_cons (pg_name (i := 6) sc_parting_run.nd rfl (Or.inl rfl)) (pgs_cons (pg_name (i := 7) sc_parting_run.nd rfl (Or.inl rfl)) pgs_nil)))) (fun _ _ _ _ _ => pts_nil) (fun _ _ _ _ _ => (pe_cmpR op_ne (pv 6) (pv 7) (nomark _)))) (pa_cons pe_bl pa_nil)))
  (pss_cons (ps_set (i := 5) sc_parting_run.nd rfl (Or.inl rfl) (pe_op op_add (pe_op op_sub (pe_c c_greatest_origin_of hr (by first | decide | omega) (by rfl) (pa_cons (pe_gc (by rfl) g_SINGLE) (pa_cons (pe_slice (sl_listK (K := K)) (pv 0) (po_some (pv 4)) po_none) pa_nil))) (pe_callB (call_min2 rfl) (by rfl) B.min (by decide +kernel) (pa_cons (pe_ix (ix_listK (K := K)) (pv 0) (pv 4) (fun _ _ => rfl)) (pa_cons (pe_ix (ix_listK (K := K)) (pv 1) (pv 4) (fun _ _ => rfl)) pa_nil)))) pe_int))
  (pss_one (ps_ret (pe_c c_greatest_origin_of hr (by first | decide | omega) (by rfl) (pa_cons (pv 5) (pa_cons (pe_slice (sl_listK (K := K)) (pv 0) po_none (po_some (pv 4))) pa_nil)))))))))))), ?_⟩
    walk_at "sq go"
    refine ⟨⟨bn.1⟩, fun H1 s1 => ?_⟩
    have hB1 := s1.seq hB
    walk_at "sq go"
    refine ⟨⟨bm.1⟩, fun H2 s2 => ?_⟩
    have s12 := s1.trans s2
    have hA2 := s12.seq hA
    have hB2 := s12.seq hB
    walk_at "sq go"
    refine r_eqI hA2 hB2 ?_
    walk_at "sq go"
    refine ifD (fun e => ?_) (fun ne => ?_)
    · walk_at "sq go"
      exact q0 e _ s12
    · have one : Sm 10 (1 : Int) := by unfold Sm; decide
      have fa := bn.fit one (by decide) (by decide)
      have fb := bm.fit one (by decide) (by decide)
      walk_at "sq go"
      refine ⟨⟨fa⟩, ?_⟩
      walk_at "sq go"
      refine ⟨⟨fb⟩, ?_⟩
      walk_at "sq go"
      refine ifIN (fun np => ?_) (fun ep => ?_)
      · walk_at "sq go"
        have z := part_max bn.1 bm.1 (fun z => np (by rw [z])) (n := if 1 * prodL ms > 1 * prodL ns then 1 * prodL ms else 1 * prodL ns) (by rw [Int.one_mul, Int.one_mul])
        exact q1 _ _ ne z.1 z.2 s12
      · have ep2 : prodL ns = prodL ms := by omega
        obtain ⟨j, x, y, ex, ey, nxy, bef⟩ := part_has bn.1 bm.1 ep2 ne
        walk_at "sq go"
        intro D1 nD
        have lD : (iv ns).length = ns.length := iv_len _
        have lE : (iv ms).length = ms.length := iv_len _
        refine lc_it (walk_zip (K := K) (a := a) (b := b) (xs := iv ns) (ys := iv ms) rfl) (fun i H' => Keep (∃ bs : List Bool, But D1 (upd H2 D1 (.lst [])) H' ∧ H' D1 = some (.lst (bs.map V.bl)) ∧ bs.length = i ∧ ∀ t, t < i → bs[t]? = some (!decide (ns[t]? = ms[t]?)))) ⟨[], .refl _ _, upd_same, rfl, fun t ht => absurd ht (by omega)⟩ (fun i H' _ h => ?_) (fun i v H' H'' hi h hy => ?_) (fun H' h => ?_)
        · obtain ⟨bs, bt, _⟩ := h.o
          have sB := bt.same (same_new nD) nD
          exact ⟨sB.seq hA2, sB.seq hB2⟩
        · obtain ⟨bs, bt, hD, lb, ok⟩ := h.o
          obtain ⟨T, u, w', rfl, nT, rfl, eu, ew⟩ := hy
          obtain ⟨k, hk, rfl⟩ := iv_get eu
          obtain ⟨l, hl, rfl⟩ := iv_get ew
          have hD2 := upd_keep (o := .tup [.int k, .int l]) nT hD
          have hT : upd H' T (.tup [.int k, .int l]) T = some (.tup [.int k, .int l]) := upd_same
          have li := (List.getElem?_eq_some_iff.mp hk).1
          have sz : (bs.map V.bl).length < sizeLine := by
            rw [List.length_map]
            have := bn.2.2
            exact small1000 (by omega)
          walk_at "sq go"
          refine ⟨bs ++ [!decide (V.int k = V.int l)], bt.trans ((But.of (same_new nT)).trans But.put), by rw [upd_same, List.map_append]; rfl, by simp [lb], fun t ht => ?_⟩
          rcases Nat.lt_succ_iff_lt_or_eq.mp ht with z | z
          · rw [List.getElem?_append_left (by omega)]
            exact ok t z
          · subst z
            rw [List.getElem?_append_right (by omega), show t - bs.length = 0 by omega, hk, hl]
            show some (!decide (V.int k = V.int l)) = some (!decide (some k = some l))
            congr 2
            by_cases e : k = l
            · rw [decide_eq_true (congrArg V.int e), decide_eq_true (congrArg some e)]
            · rw [decide_eq_false fun z => e (V.int.inj z), decide_eq_false fun z => e (Option.some.inj z)]
        · obtain ⟨bs, bt, hD, lb, ok⟩ := h.o
          have sB := bt.same (same_new nD) nD
          have hA3 := sB.seq hA2
          have hB3 := sB.seq hB2
          have lx := (List.getElem?_eq_some_iff.mp ex).1
          have ly := (List.getElem?_eq_some_iff.mp ey).1
          have flt : (bs.map V.bl).all flatV = true := by
            rw [List.all_eq_true]
            intro v hv
            obtain ⟨c, _, rfl⟩ := List.mem_map.mp hv
            rfl
          have hz : (bs.map V.bl)[j]? = some (.bl true) := by
            rw [List.getElem?_map, ok j (by omega), ex, ey, decide_eq_false fun z => nxy (Option.some.inj z)]
            rfl
          have hno : ∀ (m : Nat) (z' : V), m < j → (bs.map V.bl)[m]? = some z' → eqV z' (.bl true) = false := fun m z' hm e => by
            rw [List.getElem?_map, ok m (by omega), bef m hm, decide_eq_true rfl] at e
            have := Option.some.inj e
            rw [← this]
            rfl
          walk_at "sq go"
          intro A1 nA1
          rw [cut_from, iv_drop]
          have bD : Bnd (ns.drop j) := bn.sub (fun k hk => List.mem_of_mem_drop hk) (by rw [List.length_drop]; omega)
          have bT : Bnd (ns.take j) := bn.sub (fun k hk => List.mem_of_mem_take hk) (by rw [List.length_take]; omega)
          have hD1 : SqL K (upd H' A1 (.lst (iv (ns.drop j)))) A1 (iv (ns.drop j)) := seqL_of upd_same
          have sA1 := same_new (o := .lst (iv (ns.drop j))) nA1
          have hA4 := sA1.seq hA3
          have hB4 := sA1.seq hB3
          have atx : atI (iv ns) ((j : Nat) : Int) = some (.int x) := atI_nat (by rw [List.getElem?_map, ex]; rfl)
          have aty : atI (iv ms) ((j : Nat) : Int) = some (.int y) := atI_nat (by rw [List.getElem?_map, ey]; rfl)
          walk_at "sq go"
          refine ⟨⟨bD.fit one (by decide) (by decide)⟩, ?_⟩
          walk_at "sq go"
          intro A2 nA2
          rw [cut_to, iv_take]
          have hT1 : SqL K (upd (upd H' A1 (.lst (iv (ns.drop j)))) A2 (.lst (iv (ns.take j)))) A2 (iv (ns.take j)) := seqL_of upd_same
          obtain ⟨n1, n2⟩ := part_at bn.1 bm.1 ep2 bef ex ey nxy
          have pD := bD.prod
          have x2 := bn.1 x (List.mem_of_getElem? ex)
          have y2 := bm.1 y (List.mem_of_getElem? ey)
          have pos := prodL_pos bT.1
          have sR : Sm 4010 (1 * prodL (ns.drop j) - (if y < x then y else x) + 1) := by
            have pd := prodL_pos bD.1
            refine Sm.le pD ?_ ?_
            · have : (if y < x then y else x) ≤ prodL (ns.drop j) := by
                have dx : ns.drop j = x :: ns.drop (j + 1) := by
                  obtain ⟨l, e⟩ := List.getElem?_eq_some_iff.mp ex
                  rw [List.drop_eq_getElem_cons l, e]
                have pr := prodL_pos (ns := ns.drop (j + 1)) fun k hk => bn.1 k (List.mem_of_mem_drop hk)
                have : x * 1 ≤ x * prodL (ns.drop (j + 1)) := Int.mul_le_mul_of_nonneg_left pr (by omega)
                rw [dx, prodL_cons]
                split <;> omega
              omega
            · split <;> omega
          walk_at "sq go"
          refine ⟨⟨bT.fit sR (by decide) (by decide)⟩, ?_⟩
          rw [Int.one_mul]
          exact q1 _ _ ne n1 n2 (s12.trans (sB.trans (sA1.trans (same_new nA2))))
abbrev s_commute : Stmt := topS 11
theorem sc_commute : FnScope ["first", "second"] ["first", "second"] (defScope s_commute) := ⟨rfl, rfl, rfl, by decide +kernel, rfl, by decide +kernel, by decide +kernel⟩

def spComm (K : PySem.W.Frag) : Sp := fun vs H Q _ => ∃ (a b : Addr) (ns ms : List Int), vs = [.ref a, .ref b] ∧ SqL K H a (iv ns) ∧ SqL K H b (iv ms) ∧ Keep (Bnd ns ∧ Bnd ms ∧ ∀ H', Same H H' → Q (.bl (decide (ns ++ ms = ms ++ ns))) H')
theorem two_comm (D : DefAt K mg "commute" s_commute ["first", "second"]) (B : Bt mg) (c_check_list : Cal P w K mg base 1 "check_list" (spCheckList K) []) : Def2 P w K mg base 2 "commute" s_commute ["first", "second"] (spComm K) := by
  refine D.two sc_commute (fun vs H Q E h => ?_) (fun f cdv A outer s H vs Q E hr h => ?_)
  · obtain ⟨a, b, ns, ms, rfl, _⟩ := h
    rfl
  · obtain ⟨a, b, ns, ms, rfl, hA, hB, ⟨bn, bm, q⟩⟩ := h
    refine ⟨_, (pss_cons (ps_expr (pe_c c_check_list hr (by first | decide | omega) (by rfl) (pa_cons (pv 0) pa_nil)))
  (pss_cons (ps_expr (pe_c c_check_list hr (by first | decide | omega) (by rfl) (pa_cons (pv 1) pa_nil)))
  (pss_one (ps_ret (pe_cmpR (op_eqDK (K := K) hr.units) (pe_lst (pa_starK (K := K) (pv 0) (pa_starK (K := K) (pv 1) pa_nil))) (pe_lst (pa_starK (K := K) (pv 1) (pa_starK (K := K) (pv 0) pa_nil))) (nomark _)))))), ?_⟩
    walk_at "sq go"
    refine ⟨⟨bn.1⟩, fun H1 s1 => ?_⟩
    have hB1 := s1.seq hB
    walk_at "sq go"
    refine ⟨⟨bm.1⟩, fun H2 s2 => ?_⟩
    have s12 := s1.trans s2
    have hA2 := s12.seq hA
    have hB2 := s12.seq hB
    have sz : (iv ns ++ (iv ms ++ [])).length ≤ sizeLine := by
      have := bn.2.2
      have := bm.2.2
      rw [List.append_nil, List.length_append, iv_len, iv_len, sizeLine_eq]
      omega
    have sz2 : (iv ms ++ (iv ns ++ [])).length ≤ sizeLine := by
      have := bn.2.2
      have := bm.2.2
      rw [List.append_nil, List.length_append, iv_len, iv_len, sizeLine_eq]
      omega
    walk_at "sq go"
    intro C1 nC1
    have hA3 := (same_new (o := .lst (iv ns ++ (iv ms ++ []))) nC1).seq hA2
    have hB3 := (same_new (o := .lst (iv ns ++ (iv ms ++ []))) nC1).seq hB2
    walk_at "sq go"
    intro C2 nC2
    have e1 : iv ns ++ (iv ms ++ []) = iv (ns ++ ms) := by simp
    have e2 : iv ms ++ (iv ns ++ []) = iv (ms ++ ns) := by simp
    rw [e1] at nC2
    rw [e1, e2]
    refine r_eqI (xs := ns ++ ms) (ys := ms ++ ns) (seqL_of (upd_keep nC2 upd_same)) (seqL_of upd_same) ?_
    exact q _ (s12.trans ((same_new nC1).trans (same_new nC2)))

/-! ### a list read back from its runs -/
theorem need_take {r l : Int} {ls : List Int} {i : Nat} (h : ls[i]? = some l) : need r (ls.take (i + 1)) = need r (ls.take i) + (if l + 1 < r then l + 1 else r) := by
  rw [List.take_add_one, h]
  exact need_snoc _ _ _
theorem need_le {r : Int} (h : 1 ≤ r) : ∀ {ls : List Int}, (∀ l ∈ ls, 1 ≤ l) → 0 ≤ need r ls ∧ need r ls ≤ ls.length * r
  | [], _ => by simp [need]
  | l :: t, hl => by
    have ih := need_le h (ls := t) fun j hj => hl j (List.mem_cons_of_mem _ hj)
    have l1 := hl l (List.mem_cons_self ..)
    rw [need_cons, List.length_cons, Int.natCast_add, Int.add_mul]
    split <;> omega
theorem at_neg {xs : List V} {x : V} {n : Int} {j : Nat} (h0 : n < 0) (hj : (xs.length : Int) + n = j) (e : xs[j]? = some x) : atI xs n = some x := by
  have e2 : ixN xs.length n = some j := by
    unfold ixN
    rw [if_neg (by omega), if_pos (by omega), show n + (xs.length : Int) = j by omega]
    rfl
  unfold atI
  rw [e2]
  exact e
abbrev s_is_complete : Stmt := topS 13
theorem sc_is_complete : FnScope ["present", "later", "replacement", "needed", "length"] ["present", "later", "replacement"] (defScope s_is_complete) := ⟨rfl, rfl, rfl, by decide +kernel, rfl, by decide +kernel, by decide +kernel⟩

def spWhole (K : PySem.W.Frag) : Sp := fun vs H Q _ => ∃ (a b : Addr) (r : Int) (u t : List Int) (x y : Int), vs = [.ref a, .ref b, .int r] ∧ SqL K H a (iv (u ++ [x])) ∧ SqL K H b (iv (t ++ [y])) ∧ Keep (1 ≤ r ∧ r < 2 ^ 100 ∧ t.length < 5000 ∧ u.length < 5000 ∧ (∀ l ∈ t ++ [y], 1 ≤ l ∧ l < 2 ^ 100)) ∧
  ∀ v, (v = true ↔ Whole (u ++ [x]) (t ++ [y]) x r) → Q (.bl v) H
theorem cal_whole (D : DefAt K mg "is_complete" s_is_complete ["present", "later", "replacement"]) (B : Bt mg) : Cal P w K mg base 1 "is_complete" (spWhole K) [] := by
  refine D.cal sc_is_complete (fun vs H Q E h => ?_) (fun f cdv A outer s H vs Q E hr h => ?_)
  · obtain ⟨a, b, r, u, t, x, y, rfl, _⟩ := h
    rfl
  · obtain ⟨a, b, r, u, t, x, y, rfl, hA, hB, ⟨r1, rb, lt, lu, hl⟩, q⟩ := h
    refine ⟨_, (pss_cons (ps_set (i := 3) sc_is_complete.nd rfl (Or.inl rfl) pe_int)
  (pss_cons (ps_for PassesOwn.never rfl (pi_listK (K := K) (pv 1)) (pg_name (i := 4) sc_is_complete.nd rfl (Or.inl rfl))
   (pss_one (ps_aug (i := 3) sc_is_complete.nd rfl (Or.inl rfl) (pe_callB (call_min2 rfl) (by rfl) B.min (by decide +kernel) (pa_cons (pv 2) (pa_cons (pe_op op_add (pv 4) pe_int) pa_nil))) ip_add)))
  (pss_one (ps_ret (pe_and (pe_cmpR op_gt (pv 2) pe_int (nomark _)) (pe_and (pe_cmpR op_eq (pv 3) (pe_callB (len_seqK (K := K)) (by rfl) B.len boot_len (pa_cons (pv 0) pa_nil)) (nomark _)) (pe_one (pe_cmpR op_eq (pe_ix (ix_listK (K := K)) (pv 0) (pe_un un_neg pe_int) (fun _ _ => rfl)) (pe_op op_mulW (pe_ix (ix_listK (K := K)) (pv 1) (pe_un un_neg pe_int) (fun _ _ => rfl)) (pv 2)) (nomark _))))))))), ?_⟩
    walk_at "sq go"
    refine for_list (K := K) (a := b) (xs := iv (t ++ [y])) (fun i σ H' => Keep (∃ z, σ = [some (.ref a), some (.ref b), some (.int r), some (.int (need r ((t ++ [y]).take i))), z] ∧ H' = H)) ⟨none, rfl, rfl⟩ (fun i σ H' _ h => ?_) (fun i x σ H' hx h => ?_) (fun σ H' h => ?_)
    · obtain ⟨z, _, rfl⟩ := h.o
      exact hB
    · obtain ⟨z, rfl, rfl⟩ := h.o
      obtain ⟨l, hl, rfl⟩ := iv_get hx
      walk_at "sq go"
      exact ⟨_, by rw [need_take hl]; rfl, rfl⟩
    · obtain ⟨z, rfl, rfl⟩ := h.o
      rw [iv_len, List.take_length]
      have ex : atI (iv (u ++ [x])) (-1) = some (.int x) := at_neg (j := u.length) (by decide) (by rw [iv_len, List.length_append, List.length_singleton]; omega) (by simp)
      have ey : atI (iv (t ++ [y])) (-1) = some (.int y) := at_neg (j := t.length) (by decide) (by rw [iv_len, List.length_append, List.length_singleton]; omega) (by simp)
      have y1 := hl y (by simp)
      have wm : CMulW y r := Sm.wide (a := 100) (b := 100) (by unfold Sm; omega) (by unfold Sm; omega) (by decide) (by decide) (by decide)
      have lx : (iv (u ++ [x])).length = (u ++ [x]).length := iv_len _
      walk_at "sq go"
      refine ifD (fun c1 => ?_) (fun c1 => ?_)
      · walk_at "sq go"
        rw [lx]
        refine ifI (fun c2 => ?_) (fun c2 => ?_)
        · walk_at "sq go"
          refine q _ ?_
          rw [decide_eq_true_iff]
          constructor
          · intro z
            exact ⟨c1, c2, t, y, rfl, V.int.inj z⟩
          · rintro ⟨_, _, t', y', e, z⟩
            have e2 := congrArg List.getLast? e
            rw [List.getLast?_append, List.getLast?_append] at e2
            have e3 : y = y' := by simpa using e2
            rw [e3]
            exact congrArg V.int z
        · exact q false ⟨(fun z => nomatch z), fun ⟨_, z, _⟩ => absurd z c2⟩
      · exact q false (by
          constructor
          · intro z; cases z
          · rintro ⟨z, _⟩; exact absurd z c1)

abbrev s_list_of : Stmt := topS 12
theorem sc_list_of : FnScope ["singles", "present", "found", "replacement", "later", "length"] ["singles"] (defScope s_list_of) := ⟨rfl, rfl, rfl, by decide +kernel, rfl, by decide +kernel, by decide +kernel⟩

/-- runs: all different, at least 1 -/
structure Runs1 (ns : List Int) : Prop where
  nd : ns.Nodup
  pos : ∀ k ∈ ns, 1 ≤ k ∧ k < 2 ^ 90
  len : ns.length < 4000
def spListOf (K : PySem.W.Frag) : Sp := fun vs H Q _ => ∃ (a : Addr) (ns : List Int), vs = [.ref a] ∧ SqL K H a (iv ns) ∧ Keep (Runs1 ns ∧ (∀ p H', p.Perm ns → p.Pairwise (· < ·) → Lof p none → Same H H' → Q .non H') ∧
  ∀ p row l H', p.Perm ns → p.Pairwise (· < ·) → Lof p (some row) → Same H H' → H l = none → H' l = some (.lst (iv row)) → Q (.ref l) H')
theorem same_put {H H' : Hp} {a : Addr} {o : HO} (s : Same H H') (n : H a = none) : Same H (upd H' a o) := fun b u e => by
  by_cases hb : b = a
  · rw [hb, n] at e
    cases e
  · rw [upd_ne hb]
    exact s b u e
theorem ne_newL {H : Hp} {a b : Addr} {u : HO} (e : H a = some u) (n : H b = none) : a ≠ b := fun z => by
  rw [z, n] at e
  cases e
theorem asc_of {p : List Int} (h : p.Pairwise (· ≤ ·)) (nd : p.Nodup) : p.Pairwise (· < ·) := (h.and nd).imp fun ⟨a, b⟩ => by omega
abbrev lofInv (a fa : Addr) (H : Hp) (p0 : List Int) : Nat → L2.St → Hp → Prop := fun k σ H' => Keep (∃ p pp pre z1 z2 z3, σ = [some (.ref a), some (.ref pp), some (.ref fa), z1, z2, z3] ∧ Same H H' ∧ H' pp = some (.lst (iv p)) ∧ H' fa = some (.lst (iv pre)) ∧ pp ≠ fa ∧ p.Pairwise (· < ·) ∧ (∀ n ∈ p, 1 ≤ n ∧ n < 2 ^ 90) ∧ p.length < 4000 ∧ (∀ res, Lof p res → Lof p0 (res.map (pre ++ ·))) ∧ k = (p.getLastD 0).toNat ∧ (p ≠ [] → 2 ^ pre.length * (p.getLastD 0).toNat ≤ 2 ^ 90))
theorem two_parts {p : List Int} (h : 2 ≤ p.length) : ∃ u x y, p = u ++ [x, y] := by
  have n1 : p ≠ [] := fun z => by rw [z] at h; simp at h
  have e1 := drop_last n1
  have n2 : p.dropLast ≠ [] := fun z => by
    rw [z] at e1
    have := congrArg List.length e1
    simp at this
    omega
  have e2 := drop_last n2
  exact ⟨p.dropLast.dropLast, p.dropLast.getLast n2, p.getLast n1, by
    conv => lhs; rw [e1, e2]
    simp⟩
theorem two_listOf (D : DefAt K mg "list_of" s_list_of ["singles"]) (B : Bt mg) (g_SINGLE : ∃ u, mg "SINGLE" = some u ∧ L2.RelV (.int 1) u) (c_squeezed_once : Cal P w K mg base 1 "squeezed_once" spSqOnce []) (c_is_complete : Cal P w K mg base 1 "is_complete" (spWhole K) []) : Def2 P w K mg base 2 "list_of" s_list_of ["singles"] (spListOf K) := by
  refine D.two sc_list_of (fun vs H Q E h => ?_) (fun f cdv A outer s H vs Q E hr h => ?_)
  · obtain ⟨a, ns, rfl, _⟩ := h
    rfl
  · obtain ⟨a, ns, rfl, hA, ⟨rn, q0, q1⟩⟩ := h
    refine ⟨_, (pss_cons (ps_set (i := 1) sc_list_of.nd rfl (Or.inl rfl) (pe_callB (cr_sortedIK (K := K)) (by rfl) B.sorted (by decide +kernel) (pa_cons (pv 0) pa_nil)))
  (pss_cons (ps_set (i := 2) sc_list_of.nd rfl (Or.inl rfl) (pe_lst pa_nil))
  (pss_cons (ps_while PassesOwn.never (pt_cmpR (op_neDK (K := K) hr.units) (pv 1) (pe_lst (pa_cons (pe_gc (by rfl) g_SINGLE) pa_nil)) (nomark _))
   (pss_cons (ps_if (PW.pt (pw_or (pt_cmpR op_lt (pe_callB (len_seqK (K := K)) (by rfl) B.len boot_len (pa_cons (pv 1) pa_nil)) pe_int (nomark _)) (pw_or1 (pt_cmpR op_ne (pe_ix (ix_listK (K := K)) (pv 1) pe_int (fun _ _ => rfl)) (pe_gc (by rfl) g_SINGLE) (nomark _))))) (pss_one (ps_ret pe_non)) pss_nil)
  (pss_cons (ps_set (i := 3) sc_list_of.nd rfl (Or.inr rfl) (pe_op op_add (pe_op op_sub (pe_ix (ix_listK (K := K)) (pv 1) (pe_un un_neg pe_int) (fun _ _ => rfl)) (pe_ix (ix_listK (K := K)) (pv 1) (pe_un un_neg pe_int) (fun _ _ => rfl))) pe_int))
  (pss_cons (ps_set (i := 4) sc_list_of.nd rfl (Or.inl rfl) (pe_callB (cr_sortedOf (w := w) rfl) (by rfl) B.sorted (by decide +kernel) (pa_cons (pe_callTy (cr_setInts (K := K) (w := w) rfl) (by rfl) B.set (by decide +kernel) (pa_cons (pe_lc (own := [("length", 5)]) (g := gName 5) (by rfl) sc_list_of.nd (pi_listK (K := K) (pv 1)) (blkOk_by (own := [("length", 5)]) (N := ["singles", "present", "found", "replacement", "later", "length"]) (sc := defScope s_list_of) (by decide +kernel)) (fun _ _ _ _ _ => (pg_name (i := 5) sc_list_of.nd rfl (Or.inl rfl))) (fun _ _ _ _ _ => pts_nil) (fun _ _ _ _ _ => (pe_c c_squeezed_once hr (by first | decide | omega) (by rfl) (pa_cons (pv 5) (pa_cons (pv 3) pa_nil))))) pa_nil)) pa_nil)))
  (pss_cons (ps_if (pt_not (pt_val (pe_c c_is_complete hr (by first | decide | omega) (by rfl) (pa_cons (pv 1) (pa_cons (pv 4) (pa_cons (pv 3) pa_nil)))))) (pss_one (ps_ret pe_non)) pss_nil)
  (pss_cons (ps_expr (pe_bm PySem.F.plainAttrs_list PySem.F.slot_list_append PySem.F.type_list_append mt_append (pv 2) (pa_cons (pv 3) pa_nil)))
  (pss_one (ps_set (i := 1) sc_list_of.nd rfl (Or.inl rfl) (pv 4)))))))))
  (pss_one (ps_ret (pv 2)))))), ?_⟩
    walk_at "sq go"
    intro p0 pa pm as0 npa
    have asc0 := asc_of as0 (pm.nodup_iff.mpr rn.nd)
    have s1 := same_new (o := .lst (iv p0)) npa
    walk_at "sq go"
    intro fa nfa
    have s2 := s1.trans (same_new (o := .lst []) nfa)
    have nfa0 : H fa = none := s1.free nfa
    have hpa : (upd (upd H pa (.lst (iv p0))) fa (.lst [])) pa = some (.lst (iv p0)) := upd_keep nfa upd_same
    walk_at "sq go"
    refine ⟨lofInv a fa H p0,
      ⟨_, p0, pa, [], none, none, none, rfl, s2, hpa, upd_same, ne_newL upd_same nfa, asc0, fun n hn => rn.pos n (pm.mem_iff.mp hn), by rw [pm.length_eq]; exact rn.len, fun res h => by simpa using h, rfl, fun ne => ?g0⟩, fun k σ H' h => ?_⟩
    case g0 =>
      have := rn.pos (p0.getLast ne) (pm.mem_iff.mp (List.getLast_mem ne))
      rw [List.getLastD_eq_getLast?, List.getLast?_eq_some_getLast ne]
      simp
      omega
    unfold lofInv at h
    obtain ⟨p, pp, pre, z1, z2, z3, rfl, s3, hpp, hfa, npf, asc, pos, lp, lof, rfl, lpre⟩ := h.o
    clear h
    walk_at "sq go"
    intro c1 nc1
    have s4 := s3.trans (same_new (o := .lst [.int 1]) nc1)
    have hpp1 := upd_keep (o := .lst [.int 1]) nc1 hpp
    have hfa1 := upd_keep (o := .lst [.int 1]) nc1 hfa
    refine r_neI (xs := p) (ys := [1]) (seqL_of hpp1) (seqL_of upd_same) ?_
    walk_at "sq go"
    refine ifN (fun np => ?_) (fun ep => ?_)
    · have stop : (p.length < 2 ∨ p.head? ≠ some 1) → Lof p0 none := fun c => lof _ (.bad np c)
      refine ⟨fun σ' H3 => Keep (∃ m', m' < (p.getLastD 0).toNat ∧ lofInv a fa H p0 m' σ' H3), fun σ' H3 h => h.o, ?_⟩
      have lenp : (iv p).length = p.length := iv_len _
      walk_at "sq go"
      rw [lenp]
      refine ifD (fun c => ?_) (fun c => ?_)
      · walk_at "sq go"
        exact q0 p0 _ pm asc0 (stop (.inl (by omega))) s4
      · obtain ⟨u, x, b, ep⟩ := two_parts (p := p) (by omega)
        obtain ⟨h0, r0, er⟩ : ∃ h0 r0, p = h0 :: r0 := by
          cases p with
          | nil => exact absurd ep (by simp)
          | cons h0 r0 => exact ⟨h0, r0, rfl⟩
        have at0 : atI (iv p) 0 = some (.int h0) := atI_nat (j := 0) (by rw [er]; rfl)
        walk_at "sq go"
        refine ifIN (fun c1 => ?_) (fun c1 => ?_)
        · walk_at "sq go"
          exact q0 p0 _ pm asc0 (stop (.inr (by rw [er]; simpa using c1))) s4
        · subst c1
          have atb : atI (iv p) (-1) = some (.int b) := at_neg (j := u.length + 1) (by decide) (by rw [iv_len, ep, List.length_append]; simp; omega) (by rw [ep]; simp)
          have atx : atI (iv p) (-2) = some (.int x) := at_neg (j := u.length) (by decide) (by rw [iv_len, ep, List.length_append]; simp; omega) (by rw [ep]; simp)
          have xb : x < b := by
            rw [ep] at asc
            have := (List.pairwise_append.mp asc).2.1
            simpa using this
          have px := pos x (by rw [ep]; simp)
          have pb := pos b (by rw [ep]; simp)
          walk_at "sq go"
          intro Dl nDl
          generalize hr0 : b - x + 1 = r at *
          have r2 : 2 ≤ r := by omega
          have rb : r < 2 ^ 100 := by omega
          have s5 := s4.trans (same_new (o := .lst []) nDl)
          refine lc_list (K := K) (a := pp) (xs := iv p) (fun i H2 => Keep (Same (upd H' c1 (.lst [.int 1])) H2 ∧ H2 Dl = some (.lst (iv ((p.take i).map fun n => once n r))))) ⟨same_new nDl, upd_same⟩ (fun i H2 _ h => ?_) (fun i v H2 hv h => ?_) (fun H2 h => ?_)
          · obtain ⟨s6, _⟩ := h.o
            exact seqL_of (s6 _ _ hpp1)
          · obtain ⟨s6, hD⟩ := h.o
            obtain ⟨n, hn, rfl⟩ := iv_get hv
            have lD : (iv ((p.take i).map fun n => once n r)).length < sizeLine := by
              rw [iv_len, List.length_map, List.length_take, sizeLine_eq]
              omega
            walk_at "sq go"
            refine ⟨⟨by omega, by omega⟩, ?_⟩
            walk_at "sq go"
            refine ⟨same_put s6 nDl, ?_⟩
            rw [upd_same, iv_app, List.take_add_one, hn, List.map_append, hr0]
            rfl
          · obtain ⟨s6, hD⟩ := h.o
            rw [iv_len, List.take_length] at hD
            have hD2 := seqL_of (K := K) hD
            walk_at "sq go"
            refine ⟨by rw [List.length_map]; exact lp, fun S1 m1 nS1 le1 => ?_⟩
            have le2 : m1 ≤ sizeLine := by
              rw [List.length_map] at le1
              rw [sizeLine_eq]
              omega
            walk_at "sq go"
            intro lt lq asl ml ll nlq
            have n1 : lt ≠ [] := fun z => by
              have := (ml (once 1 r)).mpr (List.mem_map.mpr ⟨1, by rw [er]; simp, rfl⟩)
              rw [z] at this
              cases this
            obtain ⟨t, y, et⟩ : ∃ t y, lt = t ++ [y] := ⟨_, _, drop_last n1⟩
            have ep2 : p = (u ++ [x]) ++ [b] := by rw [ep]; simp
            have posl : ∀ l ∈ lt, 1 ≤ l ∧ l < 2 ^ 90 := fun l hl => by
              obtain ⟨n, hn, rfl⟩ := List.mem_map.mp ((ml l).mp hl)
              have pn := pos n hn
              have h1 := once_pos pn.1 r2
              have h2 := once_le (show 0 ≤ n by omega) r2
              omega
            have s7 : Same (upd H' c1 (.lst [.int 1])) (upd (upd H2 S1 (SetO w S1 (fun j => decide (j ∈ p.map fun n => once n r)) m1)) lq (.lst (iv lt))) := s6.trans ((same_new nS1).trans (same_new nlq))
            have nqf : lq ≠ fa := Ne.symm (ne_newL ((s6.trans (same_new nS1)) _ _ hfa1) nlq)
            generalize hHn : upd (upd H2 S1 (SetO w S1 (fun j => decide (j ∈ p.map fun n => once n r)) m1)) lq (.lst (iv lt)) = Hn at *
            have hq7 : Hn lq = some (.lst (iv lt)) := by rw [← hHn]; exact upd_same
            have hpp7 : SqL K Hn pp (iv ((u ++ [x]) ++ [b])) := seqL_of (by rw [← ep2]; exact s7 _ _ hpp1)
            have hlq7 : SqL K Hn lq (iv (t ++ [y])) := seqL_of (by rw [← et]; exact hq7)
            have hfa7 := s7 _ _ hfa1
            have s8 := s4.trans s7
            have lent : lt.length ≤ p.length := by
              rw [ll]
              rw [List.length_map] at le1
              exact le1
            have gl : p.getLastD 0 = b := by rw [ep]; simp
            have gl2 : lt.getLastD 0 = y := by rw [et]; simp
            have lpre2 : (iv pre).length < sizeLine := by
              rw [iv_len]
              have h1 := lpre (by rw [er]; simp)
              rw [gl] at h1
              have h2 : 2 ^ pre.length * 1 ≤ 2 ^ pre.length * b.toNat := Nat.mul_le_mul_left _ (by omega)
              have h3 := (Nat.pow_le_pow_iff_right (show 1 < 2 by decide)).mp (show 2 ^ pre.length ≤ 2 ^ 90 by omega)
              rw [sizeLine_eq]
              omega
            walk_at "sq go"
            refine ⟨⟨by omega, by omega, by rw [et, List.length_append, List.length_singleton] at lent; omega, by rw [ep2, List.length_append, List.length_singleton] at lp; omega, fun l hl => by
              have := posl l (by rw [et]; exact hl)
              omega⟩, fun v hv => ?_⟩
            rw [← ep2, ← et, hr0] at hv
            cases v with
            | false =>
              walk_at "sq go"
              refine q0 p0 _ pm asc0 (lof _ (.no ep (by rw [er]; rfl) asl (by rw [hr0]; exact ml) fun w => ?_)) s8
              rw [hr0] at w
              cases hv.mpr w
            | true =>
              have wh := hv.mp rfl
              walk_at "sq go"
              have s9 := same_put (o := .lst (iv (pre ++ [b - x + 1]))) s8 nfa0
              have hq9 : upd Hn fa (.lst (iv (pre ++ [b - x + 1]))) lq = some (.lst (iv lt)) := (upd_ne nqf).trans hq7
              walk_at "sq go"
              rw [iv_app]
              refine ⟨(lt.getLastD 0).toNat, ?_, lt, lq, pre ++ [b - x + 1], _, _, _, rfl, s9, hq9, upd_same, nqf, asl, posl, by omega, fun res hres => ?_, rfl, fun _ => ?_⟩
              · rw [gl, gl2]
                obtain ⟨_, _, t', y', e, z⟩ := wh
                have e2 := congrArg List.getLast? e
                rw [et, List.getLast?_append, List.getLast?_append] at e2
                have e3 : y = y' := by simpa using e2
                rw [← e3] at z
                have y1 := posl y (by rw [et]; simp)
                have := Int.mul_le_mul_of_nonneg_left r2 (show 0 ≤ y by omega)
                omega
              · have z := lof _ (Lof.step ep (by rw [er]; rfl) asl (by rw [hr0]; exact ml) (by rw [hr0]; exact wh) hres)
                rw [Option.map_map] at z
                have e9 : ((fun q => pre ++ q) ∘ fun q => (b - x + 1) :: q) = fun q => (pre ++ [b - x + 1]) ++ q := by
                  funext q
                  simp
                rw [e9] at z
                exact z
              · rw [gl2, List.length_append, List.length_singleton, Nat.pow_succ]
                obtain ⟨_, _, t', y', e, z⟩ := wh
                have e2 := congrArg List.getLast? e
                rw [et, List.getLast?_append, List.getLast?_append] at e2
                have e3 : y = y' := by simpa using e2
                rw [← e3] at z
                have y1 := posl y (by rw [et]; simp)
                have h1 := lpre (by rw [er]; simp)
                rw [gl] at h1
                have h2 : 2 * y.toNat ≤ b.toNat := by
                  have := Int.mul_le_mul_of_nonneg_left r2 (show 0 ≤ y by omega)
                  omega
                refine Nat.le_trans ?_ h1
                rw [Nat.mul_assoc]
                exact Nat.mul_le_mul_left _ h2
    · subst ep
      have z := lof _ .one
      rw [Option.map_some, List.append_nil] at z
      walk_at "sq go"
      exact q1 p0 pre fa _ pm asc0 z s4 nfa0 hfa1

/-! ### the source of draws (a list: great cells, the digits left, a mix, a count) -/
def RB (r d : Addr) (N : Int) (ds : List Int) (a mix n : Int) (H : Hp) : Prop :=
  H r = some (.lst [.ref d, .int a, .int mix, .int n]) ∧ H d = some (.lst (iv ds)) ∧ d ≠ r ∧ 0 ≤ mix ∧ mix < 2305843009213693952 ∧ 0 ≤ n ∧ n ≤ N
def rgB (r d : Addr) (N : Int) : Rg where
  I := fun H => ∃ ds a mix n, RB r d N ds a mix n H
  S := fun x => x = r ∨ x = d
  loc := fun H H' e ⟨ds, a, mix, n, h1, h2, h3⟩ => ⟨ds, a, mix, n, (e r (.inl rfl)).trans h1, (e d (.inr rfl)).trans h2, h3⟩
  has := fun H x ⟨ds, a, mix, n, h1, h2, _⟩ hx => by
    rcases hx with rfl | rfl
    · rw [h1]; exact fun z => nomatch z
    · rw [h2]; exact fun z => nomatch z
/-- the source is drawn from: all else stands -/
theorem SepB.redo {r d : Addr} {N N' : Int} {G H H' : Hp} (s : Sep (rgB r d N) G H) (e : ∀ b o, b ≠ r → b ≠ d → H b = some o → H' b = some o) (h : ∃ ds a mix n, RB r d N' ds a mix n H') : Sep (rgB r d N') G H' := by
  refine ⟨h, fun b o q => ?_, s.off⟩
  have nr : b ≠ r := fun z => by
    have := s.off b (.inl z)
    rw [q] at this
    cases this
  have nd : b ≠ d := fun z => by
    have := s.off b (.inr z)
    rw [q] at this
    cases this
  exact e b o nr nd (s.same b o q)
theorem SepB.mono {r d : Addr} {N N' : Int} {G H : Hp} (s : Sep (rgB r d N) G H) (h : N ≤ N') : Sep (rgB r d N') G H := by
  obtain ⟨ds, a, mix, n, h1, h2, h3, h4, h5, h6, h7⟩ := s.inv
  exact SepB.redo s (fun _ _ _ _ z => z) ⟨ds, a, mix, n, h1, h2, h3, h4, h5, h6, by omega⟩
abbrev s_law_source : Stmt := topS 15
theorem sc_law_source : FnScope ["script", "mix", "digits", "cell", "span"] ["script"] (defScope s_law_source) := ⟨rfl, rfl, rfl, by decide +kernel, rfl, by decide +kernel, by decide +kernel⟩

def spSource (K : PySem.W.Frag) : Sp := fun vs H Q _ => ∃ (p : Addr) (ns : List Int), vs = [.ref p] ∧ SqL K H p (iv ns) ∧ ns.length ≤ 63 ∧ ∀ r d H', Same H H' → Sep (rgB r d 0) H H' → Q (.ref r) H'
theorem cal_source (D : DefAt K mg "_law_source" s_law_source ["script"]) (B : Bt mg) : Cal P w K mg base 1 "_law_source" (spSource K) [] := by
  refine D.cal sc_law_source (fun vs H Q E h => ?_) (fun f cdv A outer s H vs Q E hr h => ?_)
  · obtain ⟨p, ns, rfl, _⟩ := h
    rfl
  · obtain ⟨p, ns, rfl, hS, hl, q⟩ := h
    refine ⟨_, (pss_cons (ps_set (i := 1) sc_law_source.nd rfl (Or.inl rfl) pe_int)
  (pss_cons (ps_set (i := 2) sc_law_source.nd rfl (Or.inl rfl) (pe_lst pa_nil))
  (pss_cons (ps_for PassesOwn.never rfl (pi_listK (K := K) (pv 0)) (pg_name (i := 3) sc_law_source.nd rfl (Or.inl rfl))
   (pss_cons (ps_set (i := 1) sc_law_source.nd rfl (Or.inl rfl) (pe_op op_mod (pe_op op_add (pe_op op_mulW (pv 1) pe_int) (pv 3)) (pe_op op_sub (pe_op op_powW pe_int pe_int) pe_int)))
  (pss_cons (ps_set (i := 4) sc_law_source.nd rfl (Or.inl rfl) (pe_callB (call_max2 rfl) (by rfl) B.max (by decide +kernel) (pa_cons (pv 3) (pa_cons (pe_op op_sub pe_int (pv 3)) pa_nil))))
  (pss_one (ps_if (pt_cmpR op_ge (pv 4) (pe_op op_powW pe_int pe_int) (nomark _)) (pss_one (ps_expr (pe_bm PySem.F.plainAttrs_list PySem.F.slot_list_append PySem.F.type_list_append mt_append (pv 2) (pa_cons (pe_op op_sub (pv 4) (pe_op op_powW pe_int pe_int)) pa_nil)))) pss_nil)))))
  (pss_one (ps_ret (pe_lst (pa_cons (pv 2) (pa_cons pe_int (pa_cons (pv 1) (pa_cons pe_int pa_nil)))))))))), ?_⟩
    walk_at "sq go"
    intro d nd
    have s1 : Same H (upd H d (.lst [])) := same_new nd
    have npd : ∀ H' : Hp, Same H H' → SqL K H' p (iv ns) := fun H' s => s.seq hS
    walk_at "sq go"
    refine for_list (K := K) (a := p) (xs := iv ns) (fun i σ H' => Keep (∃ ds mix y z, σ = [some (.ref p), some (.int mix), some (.ref d), y, z] ∧ H' = upd H d (.lst (iv ds)) ∧ ds.length ≤ i ∧ 0 ≤ mix ∧ mix < 2305843009213693952))
      ⟨[], 271828182845904, none, none, rfl, rfl, Nat.le_refl _, by decide, by decide⟩ (fun i σ H' _ h => ?_) (fun i x σ H' hx h => ?_) (fun σ H' h => ?_)
    · obtain ⟨ds, mix, y, z, _, rfl, _⟩ := h.o
      exact npd _ (same_new nd)
    · obtain ⟨ds, mix, y, z, rfl, rfl, hds, h0, h1⟩ := h.o
      obtain ⟨n, hn, rfl⟩ := iv_get hx
      have hi : i < ns.length := (List.getElem?_eq_some_iff.mp hn).1
      have hm : CMulW mix 1000033 := Sm.wide (a := 61) (b := 20) (by unfold Sm; omega) (by unfold Sm; decide) (by decide) (by decide) (by decide)
      have e61 : (2 : Int) ^ (61 : Int).toNat - 1 = 2305843009213693951 := by decide
      walk_at "sq go"
      have m0 := Int.emod_nonneg (mix * 1000033 + n) (show (2 : Int) ^ (61 : Int).toNat - 1 ≠ 0 by rw [e61]; decide)
      have m1 := Int.emod_lt_of_pos (mix * 1000033 + n) (show 0 < (2 : Int) ^ (61 : Int).toNat - 1 by rw [e61]; decide)
      rw [e61] at m1
      refine ifD (fun c => ?_) (fun c => ?_)
      · walk_at "sq go"
        rw [upd_upd, iv_app]
        exact ⟨_, _, _, _, rfl, rfl, by rw [List.length_append, List.length_singleton]; omega, m0, by rw [e61]; omega⟩
      · exact ⟨ds, _, _, _, rfl, rfl, by omega, m0, by rw [e61]; omega⟩
    · obtain ⟨ds, mix, y, z, rfl, rfl, hds, h0, h1⟩ := h.o
      walk_at "sq go"
      intro r nr
      have ndr : d ≠ r := fun e => by
        rw [← e, upd_same] at nr
        cases nr
      have s2 : Same H (upd H d (.lst (iv ds))) := same_new nd
      refine q r d _ (s2.trans (same_new nr)) ⟨⟨ds, 0, mix, 0, upd_same, by rw [upd_ne ndr, upd_same], ndr, h0, by omega, by decide, by decide⟩, s2.trans (same_new nr), fun a ha => ?_⟩
      rcases ha with rfl | rfl
      · exact s2.free nr
      · exact nd

abbrev s_law_draw : Stmt := topS 16
theorem sc_law_draw : FnScope ["source", "many", "drawn", "mixed"] ["source", "many"] (defScope s_law_draw) := ⟨rfl, rfl, rfl, by decide +kernel, rfl, by decide +kernel, by decide +kernel⟩

def spDraw : Sp := fun vs H Q _ => ∃ (r d : Addr) (m N : Int) (G : Hp), vs = [.ref r, .int m] ∧ Sep (rgB r d N) G H ∧ Keep (0 < m ∧ m < 2 ^ 240 ∧ N < 2 ^ 60) ∧ ∀ v H', 0 ≤ v → v < m → Sep (rgB r d (N + 1)) G H' → Q (.int v) H'
theorem cal_draw (D : DefAt K mg "_law_draw" s_law_draw ["source", "many"]) (B : Bt mg) : Cal P w K mg base 1 "_law_draw" spDraw [] := by
  refine D.cal sc_law_draw (fun vs H Q E h => ?_) (fun f cdv A outer s H vs Q E hr h => ?_)
  · obtain ⟨r, d, m, N, G, rfl, _⟩ := h
    rfl
  · obtain ⟨r, d, m, N, G, rfl, hS, ⟨hm, hmb, hN⟩, q⟩ := h
    have hmz : m.natAbs.log2 < 9000 := Nat.lt_trans ((show Sm 240 m by unfold Sm; omega).lg (by decide)) (by decide)
    obtain ⟨ds0, a0, mix, n, hr0, hd0, ndr, h0, h1, n0, n1⟩ := id hS.inv
    refine ⟨_, (pss_cons (ps_while PassesOwn.never (PW.pt (pw_and (pt_cmpR op_lt (pe_ix (ix_listK (K := K)) (pv 0) pe_int (fun _ _ => rfl)) pe_int (nomark _)) (pw_and1 (pt_cmpR (op_neDK (K := K) hr.units) (pe_ix (ix_listK (K := K)) (pv 0) pe_int (fun _ _ => rfl)) (pe_lst pa_nil) (nomark _)))))
   (pss_one (ps_asg (pe_bm PySem.F.plainAttrs_list PySem.F.slot_list_pop PySem.F.type_list_pop mt_popAt (pe_ix (ix_listK (K := K)) (pv 0) pe_int (fun _ _ => rfl)) (pa_cons pe_int pa_nil)) (pg_sub (pv 0) pe_int set_list))))
  (pss_cons (ps_if (pt_cmpR op_ge (pe_ix (ix_listK (K := K)) (pv 0) pe_int (fun _ _ => rfl)) pe_int (nomark _)) (pss_cons (ps_set (i := 2) sc_law_draw.nd rfl (Or.inl rfl) (pe_op op_mod (pe_ix (ix_listK (K := K)) (pv 0) pe_int (fun _ _ => rfl)) (pv 1)))
  (pss_cons (ps_asg (pe_op op_fdivW (pe_ix (ix_listK (K := K)) (pv 0) pe_int (fun _ _ => rfl)) (pv 1)) (pg_sub (pv 0) pe_int set_list))
  (pss_one (ps_ret (pv 2))))) pss_nil)
  (pss_cons (ps_asg (pe_op op_add (pe_ix (ix_listK (K := K)) (pv 0) pe_int (fun _ _ => rfl)) pe_int) (pg_sub (pv 0) pe_int set_list))
  (pss_cons (ps_set (i := 3) sc_law_draw.nd rfl (Or.inl rfl) (pe_op op_mulW (pe_op op_add (pe_ix (ix_listK (K := K)) (pv 0) pe_int (fun _ _ => rfl)) pe_int) (pe_op op_powW (pe_op op_add (pe_ix (ix_listK (K := K)) (pv 0) pe_int (fun _ _ => rfl)) pe_int) pe_int)))
  (pss_cons (ps_set (i := 3) sc_law_draw.nd rfl (Or.inl rfl) (pe_op op_mod (pe_op op_add (pv 3) (pe_op op_mulW pe_int (pe_ix (ix_listK (K := K)) (pv 0) pe_int (fun _ _ => rfl)))) (pe_op op_sub (pe_op op_powW pe_int pe_int) pe_int)))
  (pss_one (ps_ret (pe_op op_mod (pe_op op_fdivW (pe_op op_mod (pe_op op_powW (pv 3) pe_int) (pe_op op_add (pe_op op_powW pe_int pe_int) pe_int)) pe_int) (pv 1))))))))), ?_⟩
    refine ⟨fun k σ H' => Keep (∃ ds a, σ = [some (.ref r), some (.int m), none, none] ∧ k = ds.length ∧ RB r d N ds a mix n H' ∧ ∀ b o, b ≠ r → b ≠ d → H b = some o → H' b = some o), ⟨_, ds0, a0, rfl, rfl, ⟨hr0, hd0, ndr, h0, h1, n0, n1⟩, fun _ _ _ _ z => z⟩, fun k σ H' h => ?_⟩
    obtain ⟨ds, a, rfl, rfl, ⟨gr, gd, _⟩, ge⟩ := h.o
    clear h
    have cm : CDivW a m := ⟨hm, hmz⟩
    have p3 : CPowW (n + 1 + 3) 3 := ⟨by decide, by decide, Nat.lt_trans ((show Sm 61 (n + 1 + 3) by unfold Sm; omega).lg (by decide)) (by decide)⟩
    have m3 : CMulW (mix + 7) ((n + 1 + 3) ^ (3 : Int).toNat) := by
      have e1 : Sm 62 (mix + 7) := by unfold Sm; omega
      have e2 : Sm 61 (n + 1 + 3) := by unfold Sm; omega
      have e3 : (n + 1 + 3) ^ (3 : Int).toNat = (n + 1 + 3) * (n + 1 + 3) * (n + 1 + 3) := by
        show (n + 1 + 3) ^ 3 = _
        rw [Int.pow_succ, Int.pow_succ, Int.pow_succ, Int.pow_zero, Int.one_mul]
      rw [e3]
      exact e1.wide ((e2.mul e2).mul e2) (by decide) (by decide) (by decide)
    have m4 : CMulW 1000081 (n + 1) := Sm.wide (a := 20) (b := 61) (by unfold Sm; decide) (by unfold Sm; omega) (by decide) (by decide) (by decide)
    have e61 : (2 : Int) ^ (61 : Int).toNat - 1 = 2305843009213693951 := by decide
    have p5 : CPowW (((mix + 7) * (n + 1 + 3) ^ (3 : Int).toNat + 1000081 * (n + 1)) % (2 ^ (61 : Int).toNat - 1)) 5 := by
      rw [e61]
      generalize (mix + 7) * (n + 1 + 3) ^ (3 : Int).toNat + 1000081 * (n + 1) = y
      exact ⟨by decide, by decide, Nat.lt_trans ((show Sm 61 (y % 2305843009213693951) by unfold Sm; omega).lg (by decide)) (by decide)⟩
    walk_at "sq go"
    refine ifD (fun c => ?_) (fun c => ?_)
    · walk_at "sq go"
      intro e ne
      refine r_neI (xs := ds) (ys := []) (by walk_at "sq sql") (by walk_at "sq sql") ?_
      walk_at "sq go"
      have ge2 : ∀ b o, b ≠ r → b ≠ d → H b = some o → upd H' e (.lst []) b = some o := fun b o h1 h2 z => upd_keep ne (ge b o h1 h2 z)
      have gr2 := upd_keep (o := .lst []) ne gr
      have gd2 := upd_keep (o := .lst []) ne gd
      generalize upd H' e (.lst []) = H2 at ge2 gr2 gd2
      clear ge gr gd ne
      refine ifN (fun c2 => ?_) (fun c2 => ?_)
      · obtain ⟨x, rest, rfl⟩ : ∃ x rest, ds = x :: rest := by
          cases ds with
          | nil => exact absurd rfl c2
          | cons x rest => exact ⟨x, rest, rfl⟩
        refine ⟨fun σ' H3 => Keep (σ' = [some (.ref r), some (.int m), none, none] ∧ RB r d N rest x mix n H3 ∧ ∀ b o, b ≠ r → b ≠ d → H b = some o → H3 b = some o), fun σ' H3 h3 => ?_, ?_⟩
        · obtain ⟨e1, e2, e3⟩ := h3.o
          exact ⟨rest.length, by rw [List.length_cons]; omega, rest, x, e1, rfl, e2, e3⟩
        · walk_at "sq go"
          refine ⟨seqIx0 (by simp), ?_⟩
          walk_at "sq go"
          exact ⟨rfl, ⟨upd_same, by rw [upd_ne ndr, upd_same]; rfl, ndr, h0, h1, n0, n1⟩, fun b o k1 k2 z => upd_off k1 (upd_off k2 (ge2 b o k1 k2 z))⟩
      · have gd := gd2
        have gr := gr2
        have ge := ge2
        walk_at "sq go"
        refine ifD (fun c4 => ?_) (fun c4 => ?_)
        · walk_at "sq go"
          have v0 := Int.emod_nonneg a (show m ≠ 0 by omega)
          have v1 := Int.emod_lt_of_pos a hm
          refine q _ _ v0 v1 (SepB.redo hS (fun b o k1 k2 z => upd_off k1 (ge b o k1 k2 z)) ⟨ds, a / m, mix, n, upd_same, ?_, ndr, h0, h1, n0, by omega⟩)
          rw [upd_ne ndr]
          exact gd
        · walk_at "sq go"
          have v0 : ∀ y : Int, 0 ≤ y % m := fun y => Int.emod_nonneg y (show m ≠ 0 by omega)
          have v1 : ∀ y : Int, y % m < m := fun y => Int.emod_lt_of_pos y hm
          refine q _ _ (v0 _) (v1 _) ?_
          refine SepB.redo hS (fun b o k1 k2 z => upd_off k1 (ge b o k1 k2 z)) ⟨ds, a, mix, n + 1, upd_same, ?_, ndr, h0, h1, by omega, by omega⟩
          rw [upd_ne ndr]
          exact gd
    · skip
      walk_at "sq go"
      refine ifD (fun c4 => ?_) (fun c4 => ?_)
      · walk_at "sq go"
        have v0 := Int.emod_nonneg a (show m ≠ 0 by omega)
        have v1 := Int.emod_lt_of_pos a hm
        refine q _ _ v0 v1 (SepB.redo hS (fun b o k1 k2 z => upd_off k1 (ge b o k1 k2 z)) ⟨ds, a / m, mix, n, upd_same, ?_, ndr, h0, h1, n0, by omega⟩)
        rw [upd_ne ndr]
        exact gd
      · walk_at "sq go"
        have v0 : ∀ y : Int, 0 ≤ y % m := fun y => Int.emod_nonneg y (show m ≠ 0 by omega)
        have v1 : ∀ y : Int, y % m < m := fun y => Int.emod_lt_of_pos y hm
        refine q _ _ (v0 _) (v1 _) ?_
        refine SepB.redo hS (fun b o k1 k2 z => upd_off k1 (ge b o k1 k2 z)) ⟨ds, a, mix, n + 1, upd_same, ?_, ndr, h0, h1, by omega, by omega⟩
        rw [upd_ne ndr]
        exact gd

abbrev s_law_once : Stmt := topS 18
theorem sc_law_once : FnScope ["run", "one"] ["run", "one"] (defScope s_law_once) := ⟨rfl, rfl, rfl, by decide +kernel, rfl, by decide +kernel, by decide +kernel⟩

def spOnce : Sp := fun vs H Q _ => ∃ n k : Int, vs = [.int n, .int k] ∧ Keep (2 ≤ k ∧ k < 2 ^ 240) ∧ Q (.int (once n k)) H
theorem cal_once (D : DefAt K mg "_law_once" s_law_once ["run", "one"]) (B : Bt mg) : Cal P w K mg base 1 "_law_once" spOnce [] := by
  refine D.cal sc_law_once (fun vs H Q E h => ?_) (fun f cdv A outer s H vs Q E hr h => ?_)
  · obtain ⟨n, k, rfl, _⟩ := h
    rfl
  · obtain ⟨n, k, rfl, ⟨h2, hb⟩, q⟩ := h
    refine ⟨_, (pss_one (ps_ret (pe_op op_add (pe_op op_fdivW (pv 0) (pv 1)) (pe_op op_mod (pv 0) (pv 1))))), ?_⟩
    have c : CDivW n k := div_ok (by omega) hb
    walk_at "sq go"
    exact q
abbrev s_law_squeezed : Stmt := topS 19
theorem sc_law_squeezed : FnScope ["run", "row", "one"] ["run", "row"] (defScope s_law_squeezed) := ⟨rfl, rfl, rfl, by decide +kernel, rfl, by decide +kernel, by decide +kernel⟩

def spSqueezed (K : PySem.W.Frag) : Sp := fun vs H Q _ => ∃ (n : Int) (p : Addr) (ns : List Int), vs = [.int n, .ref p] ∧ SqL K H p (iv ns) ∧ Keep (Mid ns) ∧ Q (.int (sqz n ns)) H
theorem cal_squeezed (D : DefAt K mg "_law_squeezed" s_law_squeezed ["run", "row"]) (B : Bt mg) (c_law_once : Cal P w K mg base 1 "_law_once" spOnce []) : Cal P w K mg base 2 "_law_squeezed" (spSqueezed K) [] := by
  refine D.cal sc_law_squeezed (fun vs H Q E h => ?_) (fun f cdv A outer s H vs Q E hr h => ?_)
  · obtain ⟨n, p, ns, rfl, _⟩ := h
    rfl
  · obtain ⟨n, p, ns, rfl, hS, ⟨hm⟩, q⟩ := h
    refine ⟨_, (pss_cons (ps_for PassesOwn.never rfl (pi_listK (K := K) (pv 1)) (pg_name (i := 2) sc_law_squeezed.nd rfl (Or.inl rfl))
   (pss_one (ps_set (i := 0) sc_law_squeezed.nd rfl (Or.inl rfl) (pe_c c_law_once hr (by first | decide | omega) (by rfl) (pa_cons (pv 0) (pa_cons (pv 2) pa_nil))))))
  (pss_one (ps_ret (pv 0)))), ?_⟩
    walk_at "sq go"
    refine for_list (K := K) (a := p) (xs := iv ns) (fun i σ H' => Keep (∃ x, σ = [some (.int (sqz n (ns.take i))), some (.ref p), x] ∧ H' = H)) ⟨none, rfl, rfl⟩ (fun i σ H' _ h => ?_) (fun i x σ H' hx h => ?_) (fun σ H' h => ?_)
    · obtain ⟨x, _, rfl⟩ := h.o
      exact hS
    · obtain ⟨x, rfl, rfl⟩ := h.o
      obtain ⟨k, hk, rfl⟩ := iv_get hx
      walk_at "sq go"
      refine ⟨⟨hm k (List.mem_of_getElem? hk)⟩, ?_⟩
      exact ⟨_, by rw [sqz_take hk]; rfl, rfl⟩
    · obtain ⟨x, rfl, rfl⟩ := h.o
      have e : (iv ns).length = ns.length := iv_len _
      rw [e, List.take_length]
      walk_at "sq go"
      exact q

/-! ### the law's own lists -/
theorem shown_nodup : ((allR.map singL).map fun ns => (dI ns).shown).Nodup := by decide +kernel

abbrev s_law_lists : Stmt := topS 22
theorem sc_law_lists : FnScope ["found", "last", "time", "longer", "row", "one"] [] (defScope s_law_lists) := ⟨rfl, rfl, rfl, by decide +kernel, rfl, by decide +kernel, by decide +kernel⟩

def spLists : Sp := fun vs H Q _ => vs = [] ∧ ∀ l H', Same H H' → LL H H' l allR → H l = none → Q (.ref l) H'
theorem LL.one {G H : Hp} {l p : Addr} {ns : List Int} (hl : H l = some (.lst [.ref p])) (hp : H p = some (.lst (iv ns))) (np : p ≠ l) (gp : G p = none) : LL G H l [ns] :=
  ⟨[p], hl, rfl, fun q hq => by
    rw [List.mem_singleton.mp hq]
    exact ⟨np, gp⟩, fun i q ms h1 h2 => by
    cases i with
    | zero =>
      have e1 : p = q := by simpa using h1
      have e2 : ns = ms := by simpa using h2
      rw [← e1, ← e2]
      exact hp
    | succ i => simp at h1⟩
theorem LL.cat {G G2 H : Hp} {a b p : Addr} {rows rows2 : List (List Int)} (h : LL G H a rows) (h2 : LL G2 H b rows2) (s : Same G G2) (np : H p = none) : ∃ xs ys, H a = some (.lst xs) ∧ xs.length = rows.length ∧ H b = some (.lst ys) ∧ ys.length = rows2.length ∧ LL G (upd H p (.lst (xs ++ ys))) p (rows ++ rows2) := by
  obtain ⟨ps, a1, b1, c1, d1⟩ := h
  obtain ⟨qs, a2, b2, c2, d2⟩ := h2
  have e1 : ∀ (i : Nat) (q : Addr), ps[i]? = some q → ∃ ns, rows[i]? = some ns ∧ H q = some (.lst (iv ns)) := fun i q e => by
    have li : i < rows.length := by
      rw [← b1]
      exact (List.getElem?_eq_some_iff.mp e).1
    exact ⟨_, List.getElem?_eq_getElem li, d1 i q _ e (List.getElem?_eq_getElem li)⟩
  have e2 : ∀ (i : Nat) (q : Addr), qs[i]? = some q → ∃ ns, rows2[i]? = some ns ∧ H q = some (.lst (iv ns)) := fun i q e => by
    have li : i < rows2.length := by
      rw [← b2]
      exact (List.getElem?_eq_some_iff.mp e).1
    exact ⟨_, List.getElem?_eq_getElem li, d2 i q _ e (List.getElem?_eq_getElem li)⟩
  refine ⟨ps.map V.ref, qs.map V.ref, a1, by rw [List.length_map]; exact b1, a2, by rw [List.length_map]; exact b2, ps ++ qs, by rw [upd_same, List.map_append], by rw [List.length_append, List.length_append, b1, b2], fun q hq => ?_, fun i q ns h1 h2 => ?_⟩
  · rcases List.mem_append.mp hq with z | z
    · obtain ⟨i, hi⟩ := List.mem_iff_getElem?.mp z
      obtain ⟨ns, _, e⟩ := e1 i q hi
      exact ⟨(fun y => by rw [y, np] at e; cases e), (c1 q z).2⟩
    · obtain ⟨i, hi⟩ := List.mem_iff_getElem?.mp z
      obtain ⟨ns, _, e⟩ := e2 i q hi
      exact ⟨(fun y => by rw [y, np] at e; cases e), s.free (c2 q z).2⟩
  · refine upd_keep np ?_
    by_cases lt : i < ps.length
    · rw [List.getElem?_append_left lt] at h1
      rw [List.getElem?_append_left (by omega)] at h2
      exact d1 i q ns h1 h2
    · rw [List.getElem?_append_right (by omega)] at h1
      rw [List.getElem?_append_right (by omega), ← b1] at h2
      exact d2 _ q ns h1 h2
theorem ne_newK {H : Hp} {a b : Addr} {u : HO} (e : H a = some u) (n : H b = none) : a ≠ b := fun z => by
  rw [z, n] at e
  cases e
theorem two_lists (D : DefAt K mg "_law_lists" s_law_lists []) (B : Bt mg) : Def2 P w K mg base 1 "_law_lists" s_law_lists [] spLists := by
  refine D.two sc_law_lists (fun vs H Q E h => ?_) (fun f cdv A outer s H vs Q E hr h => ?_)
  · obtain ⟨rfl, _⟩ := h
    rfl
  · obtain ⟨rfl, q⟩ := h
    refine ⟨_, (pss_cons (ps_par (i := 0) (j := 1) rfl sc_law_lists.nd rfl rfl (by decide) rfl rfl (pa_cons (pe_lst (pa_cons (pe_lst pa_nil) pa_nil)) (pa_cons (pe_lst (pa_cons (pe_lst pa_nil) pa_nil)) pa_nil)) (by rfl))
  (pss_cons (ps_for PassesOwn.never rfl (pi_range1 (by rfl) B.range (pa_cons pe_int pa_nil)) (pg_name (i := 2) sc_law_lists.nd rfl (Or.inl rfl))
   (pss_cons (ps_set (i := 3) sc_law_lists.nd rfl (Or.inl rfl) (pe_lst pa_nil))
  (pss_cons (ps_for PassesOwn.never rfl (pi_listK (K := K) (pv 1)) (pg_name (i := 4) sc_law_lists.nd rfl (Or.inr rfl))
   (pss_one (ps_expr (pe_bm PySem.F.plainAttrs_list PySem.F.slot_list_extend PySem.F.type_list_extend mt_extend (pv 3) (pa_cons (pe_lc (own := [("one", 5)]) (g := gName 5) (by rfl) sc_law_lists.nd (pi_range2 (by rfl) B.range (pa_cons pe_int (pa_cons pe_int pa_nil))) (blkOk_by (own := [("one", 5)]) (N := ["found", "last", "time", "longer", "row", "one"]) (sc := defScope s_law_lists) (by decide +kernel)) (fun _ _ _ _ _ => (pg_name (i := 5) sc_law_lists.nd rfl (Or.inl rfl))) (fun _ _ _ _ _ => pts_nil) (fun _ _ _ _ _ => (pe_op op_cat (pv 4) (pe_lst (pa_cons (pv 5) pa_nil))))) pa_nil)))))
  (pss_one (ps_par (i := 0) (j := 1) rfl sc_law_lists.nd rfl rfl (by decide) rfl rfl (pa_cons (pe_op op_cat (pv 0) (pv 3)) (pa_cons (pv 3) pa_nil)) (by rfl))))))
  (pss_one (ps_ret (pv 0))))), ?_⟩
    walk_at "sq go"
    intro i1 n1
    walk_at "sq go"
    intro f1 nf1
    walk_at "sq go"
    intro i2 n2
    walk_at "sq go"
    intro l1 nl1
    have s1 := same_new (o := .lst []) n1
    have s2 := s1.trans (same_new (o := .lst [.ref i1]) nf1)
    have s3 := s2.trans (same_new (o := .lst []) n2)
    have s4 := s3.trans (same_new (o := .lst [.ref i2]) nl1)
    have gf1 := upd_keep (o := .lst [.ref i2]) nl1 (upd_keep (o := .lst []) n2 (upd_same (H := upd H i1 (.lst [])) (a := f1) (o := .lst [.ref i1])))
    have gi1 := upd_keep (o := .lst [.ref i2]) nl1 (upd_keep (o := .lst []) n2 (upd_keep (o := .lst [.ref i1]) nf1 (upd_same (H := H) (a := i1) (o := .lst []))))
    have gi2 := upd_keep (o := .lst [.ref i2]) nl1 (upd_same (H := upd (upd H i1 (.lst [])) f1 (.lst [.ref i1])) (a := i2) (o := .lst []))
    have gl1 : upd (upd (upd (upd H i1 (.lst [])) f1 (.lst [.ref i1])) i2 (.lst [])) l1 (.lst [.ref i2]) l1 = some (.lst [.ref i2]) := upd_same
    have ni1f1 : i1 ≠ f1 := ne_newK upd_same nf1
    have ni2l1 : i2 ≠ l1 := ne_newK upd_same nl1
    have nf1H : H f1 = none := s1.free nf1
    have ni2H : H i2 = none := s2.free n2
    have nl1H : H l1 = none := s3.free nl1
    have LF : LL H _ f1 [[]] := LL.one gf1 gi1 ni1f1 n1
    have LA : LL H _ l1 [[]] := LL.one gl1 gi2 ni2l1 ni2H
    generalize upd (upd (upd (upd H i1 (.lst [])) f1 (.lst [.ref i1])) i2 (.lst [])) l1 (.lst [.ref i2]) = H1 at *
    walk_at "sq go"
    refine for_range (lo := 0) (n := 3) (fun i σ H' => Keep (∃ fa la x3 x4 x5 x6, σ = [some (.ref fa), some (.ref la), x3, x4, x5, x6] ∧ Same H H' ∧ LL H H' fa (foundR i) ∧ LL H H' la (lastR i) ∧ H fa = none)) ⟨f1, l1, none, none, none, none, rfl, s4, LF, LA, nf1H⟩ (fun i σ H' hi h => ?_) (fun σ H' h => ?_)
    · obtain ⟨fa, la, x3, x4, x5, x6, rfl, s5, LF, LA, nfa⟩ := h.o
      obtain ⟨lk, lr⟩ := lastR_ok i (by omega)
      obtain ⟨ys, hla, lys⟩ := LA.len
      walk_at "sq go"
      intro lo nlo
      have s6 := s5.trans (same_new (o := .lst []) nlo)
      have nloH := s5.free nlo
      have hla1 := (same_new (o := .lst []) nlo) _ _ hla
      walk_at "sq go"
      refine for_list (K := K) (a := la) (xs := ys) (fun j σ H2 => Keep (∃ x5 x6, σ = [some (.ref fa), some (.ref la), some (.int (0 + (i : Nat))), some (.ref lo), x5, x6] ∧ Same H' H2 ∧ LL H' H2 lo (extR ((lastR i).take j)))) ⟨x5, x6, rfl, same_new nlo, LL.nil upd_same⟩ (fun j σ H2 _ h => ?_) (fun j x σ H2 hx h => ?_) (fun σ H2 h => ?_)
      · obtain ⟨_, _, _, s7, _⟩ := h.o
        exact seqL_of (s7 _ _ hla)
      · obtain ⟨x5, x6, rfl, s7, LO⟩ := h.o
        have lj : j < (lastR i).length := by
          have := (List.getElem?_eq_some_iff.mp hx).1
          omega
        have er := List.getElem?_eq_getElem lj
        generalize (lastR i)[j] = r at er
        have r3 := lr r (List.mem_of_getElem? er)
        obtain ⟨pr, xs', ex', exj, _, hpr, _, _⟩ := LA.get er
        have exx : xs' = ys := by
          rw [hla] at ex'
          exact (HO.lst.inj (Option.some.inj ex')).symm
        subst exx
        obtain rfl : x = .ref pr := by
          rw [exj] at hx
          exact (Option.some.inj hx).symm
        have hpr2 := s7 _ _ hpr
        obtain ⟨zs, hlo, lzs⟩ := LO.len
        have lz4 := ext_len ((lastR i).take j)
        have lzj : ((lastR i).take j).length ≤ 64 := by
          rw [List.length_take]
          omega
        walk_at "sq go"
        intro Dl nDl
        refine lc_range (lo := 2) (n := 4) (fun m H3 => Keep (Same H2 H3 ∧ LL H2 H3 Dl ([r ++ [2], r ++ [3], r ++ [4], r ++ [5]].take m))) ⟨same_new nDl, LL.nil upd_same⟩ (fun m H3 hm h => ?_) (fun H3 h => ?_)
        · obtain ⟨s8, LD⟩ := h.o
          have hpr3 := s8 _ _ hpr2
          walk_at "sq go"
          intro e1 ne1
          have hpr4 := upd_keep (o := .lst [.int (2 + (m : Nat))]) ne1 hpr3
          have he1 : upd H3 e1 (.lst [.int (2 + (m : Nat))]) e1 = some (.lst [.int (2 + (m : Nat))]) := upd_same
          have hpr5 := seqL_of (K := K) hpr4
          have he5 := seqL_of (K := K) he1
          have szr : (iv r).length + [V.int (2 + (m : Nat))].length ≤ sizeLine := by
            rw [iv_len, sizeLine_eq]
            simp
            omega
          walk_at "sq go"
          intro c1 nc1
          have sE := (same_new (o := .lst [.int (2 + (m : Nat))]) ne1).trans (same_new (o := .lst (iv r ++ [V.int (2 + (m : Nat))])) nc1)
          have LD2 := LD.same sE
          have gc1 : H2 c1 = none := (s8.trans (same_new (o := .lst [.int (2 + (m : Nat))]) ne1)).free nc1
          obtain ⟨acc0, hD0, _⟩ := LD2.len
          obtain ⟨acc1, hD1, _⟩ := LD.len
          have ncD : c1 ≠ Dl := (ne_newK (upd_keep (o := .lst [.int (2 + (m : Nat))]) ne1 hD1) nc1).symm
          obtain ⟨acc, hD, lacc, LD3⟩ := LD2.snoc (p := c1) (ns := r ++ [(2 : Int) + (m : Nat)]) (by rw [upd_same, iv_app]) ncD gc1
          have lac2 : acc.length < sizeLine := by
            rw [lacc, List.length_take, sizeLine_eq]
            simp
            omega
          refine ⟨acc, hD, lac2, same_put (s8.trans sE) nDl, ?_⟩
          have em : [r ++ [2], r ++ [3], r ++ [4], r ++ [5]].take (m + 1) = [r ++ [2], r ++ [3], r ++ [4], r ++ [5]].take m ++ [r ++ [(2 : Int) + (m : Nat)]] := by
            rcases (show m = 0 ∨ m = 1 ∨ m = 2 ∨ m = 3 by omega) with z | z | z | z <;> subst z <;> rfl
          rw [em]
          exact LD3
        · obtain ⟨s8, LD⟩ := h.o
          rw [List.take_of_length_le (by simp)] at LD
          have LO2 := LO.same s8
          obtain ⟨us, vs, hus, lus, hvs, lvs, LE⟩ := LO2.ext LD s7 hlo
          have hvs2 := seqL_of (K := K) hvs
          have szE : us.length + vs.length ≤ sizeLine := by
            rw [lus, lvs, lz4, sizeLine_eq]
            simp
            omega
          walk_at "sq go"
          refine ⟨_, _, rfl, same_put (s7.trans s8) nlo, ?_⟩
          rw [ext_take er]
          exact LE
      · obtain ⟨x5, x6, rfl, s7, LO⟩ := h.o
        rw [lys, List.take_length] at LO
        obtain ⟨us, hlo, lus⟩ := LO.len
        have LF2 := LF.same s7
        obtain ⟨vs, hfa, lvs⟩ := LF2.len
        have hlo2 := seqL_of (K := K) hlo
        have hfa2 := seqL_of (K := K) hfa
        have fok := foundR_ok (i + 1) (by omega)
        have szE : vs.length + us.length ≤ sizeLine := by
          have := foundR_ok i (by omega)
          rw [lus, lvs, ext_len, sizeLine_eq]
          omega
        walk_at "sq go"
        intro c1 nc1
        obtain ⟨vs', us', e1, _, e2, _, LC⟩ := LF2.cat LO s5 nc1
        have ev : vs' = vs := by
          rw [hfa] at e1
          exact (HO.lst.inj (Option.some.inj e1)).symm
        have eu : us' = us := by
          rw [hlo] at e2
          exact (HO.lst.inj (Option.some.inj e2)).symm
        subst ev eu
        have s8 := s7.trans (same_new (o := .lst (vs' ++ us')) nc1)
        have LO2 := (LO.same (same_new (o := .lst (vs' ++ us')) nc1)).old s5
        walk_at "sq go"
        exact ⟨_, _, _, _, _, _, rfl, s5.trans s8, LC, LO2, (s5.trans s7).free nc1⟩
    · obtain ⟨fa, la, x3, x4, x5, x6, rfl, s5, LF, LA, nfa⟩ := h.o
      walk_at "sq go"
      exact q fa H' s5 LF nfa

abbrev s_law_singles : Stmt := topS 23
theorem sc_law_singles : FnScope ["row", "top", "one", "run"] ["row"] (defScope s_law_singles) := ⟨rfl, rfl, rfl, by decide +kernel, rfl, by decide +kernel, by decide +kernel⟩

def spSing (K : PySem.W.Frag) : Sp := fun vs H Q _ => ∃ (p : Addr) (row : List Int), vs = [.ref p] ∧ SqL K H p (iv row) ∧ Keep (row ∈ allR) ∧ ∀ l H', Same H H' → H l = none → H' l = some (.lst (iv (singL row))) → Q (.ref l) H'
theorem cal_singles (D : DefAt K mg "_law_singles" s_law_singles ["row"]) (B : Bt mg) (c_law_squeezed : Cal P w K mg base 2 "_law_squeezed" (spSqueezed K) []) : Cal P w K mg base 3 "_law_singles" (spSing K) [] := by
  refine D.cal sc_law_singles (fun vs H Q E h => ?_) (fun f cdv A outer s H vs Q E hr h => ?_)
  · obtain ⟨p, row, rfl, _⟩ := h
    rfl
  · obtain ⟨p, row, rfl, hp, ⟨hrow⟩, q⟩ := h
    refine ⟨_, (pss_cons (ps_set (i := 1) sc_law_singles.nd rfl (Or.inl rfl) pe_int)
  (pss_cons (ps_for PassesOwn.never rfl (pi_listK (K := K) (pv 0)) (pg_name (i := 2) sc_law_singles.nd rfl (Or.inl rfl))
   (pss_one (ps_set (i := 1) sc_law_singles.nd rfl (Or.inl rfl) (pe_op op_mulW (pv 1) (pv 2)))))
  (pss_one (ps_ret (pe_lc (own := [("run", 3)]) (g := gName 3) (by rfl) sc_law_singles.nd (pi_range2 (by rfl) B.range (pa_cons pe_int (pa_cons (pe_op op_add (pv 1) pe_int) pa_nil))) (blkOk_by (own := [("run", 3)]) (N := ["row", "top", "one", "run"]) (sc := defScope s_law_singles) (by decide +kernel)) (fun _ _ _ _ _ => (pg_name (i := 3) sc_law_singles.nd rfl (Or.inl rfl))) (fun _ _ _ _ _ => (pts_one (pt_cmpR op_eq (pe_c c_law_squeezed hr (by first | decide | omega) (by rfl) (pa_cons (pv 3) (pa_cons (pv 0) pa_nil))) pe_int (nomark _)))) (fun _ _ _ _ _ => (pv 3))))))), ?_⟩
    have two := allR_two hrow
    have pr := allR_prod hrow
    have p1 := prodL_pos two
    obtain ⟨r3, r5⟩ := allR_ok row hrow
    walk_at "sq go"
    refine for_list (K := K) (a := p) (xs := iv row) (fun i σ H' => Keep (∃ x3 x4, σ = [some (.ref p), some (.int (prodL (row.take i))), x3, x4] ∧ H' = H)) ⟨none, none, rfl, rfl⟩ (fun i σ H' _ h => ?_) (fun i x σ H' hx h => ?_) (fun σ H' h => ?_)
    · obtain ⟨_, _, _, rfl⟩ := h.o
      exact hp
    · obtain ⟨x3, x4, rfl, rfl⟩ := h.o
      obtain ⟨k, hk, rfl⟩ := iv_get hx
      have k5 := r5 k (List.mem_of_getElem? hk)
      have le : prodL (row.take i) ≤ 5 ^ 3 := prodL_le (fun k hk => two k (List.mem_of_mem_take hk)) (fun k hk => (r5 k (List.mem_of_mem_take hk)).2) (by rw [List.length_take]; omega) (by decide)
      have pt := prodL_pos (ns := row.take i) fun k hk => two k (List.mem_of_mem_take hk)
      have wm : CMulW (prodL (row.take i)) k := Sm.wide (a := 10) (b := 10) (by unfold Sm; omega) (by unfold Sm; omega) (by decide) (by decide) (by decide)
      walk_at "sq go"
      have ek : prodL (row.take (i + 1)) = prodL (row.take i) * k := by
        rw [List.take_add_one, hk]
        exact prodL_snoc _ _
      exact ⟨_, _, by rw [ek]; rfl, rfl⟩
    · obtain ⟨x3, x4, rfl, rfl⟩ := h.o
      rw [iv_len, List.take_length]
      walk_at "sq go"
      intro Dl nDl
      refine lc_range (lo := 1) (n := (prodL row + 9 - 1).toNat) (fun m H3 => Keep (Same H' H3 ∧ H3 Dl = some (.lst (iv (((List.range m).map fun (i : Nat) => 1 + (i : Int)).filter fun x => decide (sqz x row = 1)))))) ⟨same_new nDl, upd_same⟩ (fun m H3 hm h => ?_) (fun H3 h => ?_)
      · obtain ⟨s8, hD⟩ := h.o
        have hp3 := s8.seq hp
        have mid : Mid row := fun k hk => ⟨two k hk, by have := r5 k hk; omega⟩
        walk_at "sq go"
        refine ⟨⟨mid⟩, ?_⟩
        walk_at "sq go"
        have lD : (iv (((List.range m).map fun (i : Nat) => 1 + (i : Int)).filter fun x => decide (sqz x row = 1))).length < sizeLine := by
          rw [iv_len, sizeLine_eq]
          refine Nat.lt_of_le_of_lt (List.length_filter_le _ _) ?_
          rw [List.length_map, List.length_range]
          omega
        have em : ((List.range (m + 1)).map fun (i : Nat) => 1 + (i : Int)).filter (fun x => decide (sqz x row = 1)) = ((List.range m).map fun (i : Nat) => 1 + (i : Int)).filter (fun x => decide (sqz x row = 1)) ++ [1 + (m : Int)].filter fun x => decide (sqz x row = 1) := by
          rw [List.range_succ, List.map_append, List.filter_append]
          rfl
        refine ifI (fun c => ?_) (fun c => ?_)
        · walk_at "sq go"
          refine ⟨same_put s8 nDl, ?_⟩
          rw [upd_same, iv_app, em]
          simp [c]
        · refine ⟨s8, ?_⟩
          rw [em]
          simp only [List.filter_cons, List.filter_nil, decide_eq_false c, Bool.false_eq_true, if_false, List.append_nil]
          exact hD
      · obtain ⟨s8, hD⟩ := h.o
        rw [show (prodL row + 9 - 1).toNat = (prodL row + 8).toNat by omega] at hD
        walk_at "sq go"
        exact q Dl H3 s8 nDl hD

abbrev s_law_alike : Stmt := topS 24
theorem sc_law_alike : FnScope ["one", "other", "top", "both", "back", "number", "run"] ["one", "other"] (defScope s_law_alike) := ⟨rfl, rfl, rfl, by decide +kernel, rfl, by decide +kernel, by decide +kernel⟩

/-- whether two lists do the same up to the product -/
def spAlike : Sp := fun vs H Q _ => ∃ (a b : Addr) (ns ms : List Int), vs = [.ref a, .ref b] ∧ H a = some (.lst (iv ns)) ∧ H b = some (.lst (iv ms)) ∧ Keep (ns ∈ allR ∧ ms ∈ allR ∧ ∀ H', Same H H' → Q (.bl (decide (ns ++ ms = ms ++ ns))) H')
theorem cal_alike (D : DefAt K mg "_law_alike" s_law_alike ["one", "other"]) (B : Bt mg) (c_law_squeezed : Cal P w K mg base 2 "_law_squeezed" (spSqueezed K) []) : Cal P w K mg base 3 "_law_alike" spAlike [] := by
  refine D.cal sc_law_alike (fun vs H Q E h => ?_) (fun f cdv A outer s H vs Q E hr h => ?_)
  · obtain ⟨a, b, ns, ms, rfl, _⟩ := h
    rfl
  · obtain ⟨a, b, ns, ms, rfl, hA, hB, ⟨hn, hm, q⟩⟩ := h
    refine ⟨_, (pss_cons (ps_asg (pe_tup (pa_cons pe_int (pa_cons (pe_op op_cat (pv 0) (pv 1)) (pa_cons (pe_op op_cat (pv 1) (pv 0)) pa_nil)))) (pg_tupK (K := K) (n := 3) rfl (pgs_cons (pg_name (i := 2) sc_law_alike.nd rfl (Or.inl rfl)) (pgs_cons (pg_name (i := 3) sc_law_alike.nd rfl (Or.inr rfl)) (pgs_cons (pg_name (i := 4) sc_law_alike.nd rfl (Or.inr rfl)) pgs_nil)))))
  (pss_cons (ps_for PassesOwn.never rfl (pi_listK (K := K) (pv 3)) (pg_name (i := 5) sc_law_alike.nd rfl (Or.inl rfl))
   (pss_one (ps_set (i := 2) sc_law_alike.nd rfl (Or.inl rfl) (pe_op op_mulW (pv 2) (pv 5)))))
  (pss_one (ps_ret (pe_cmpR (op_eqDK (K := K) hr.units) (pe_lc (own := [("run", 6)]) (g := gName 6) (by rfl) sc_law_alike.nd (pi_range1 (by rfl) B.range (pa_cons (pe_op op_add (pv 2) pe_int) pa_nil)) (blkOk_by (own := [("run", 6)]) (N := ["one", "other", "top", "both", "back", "number", "run"]) (sc := defScope s_law_alike) (by decide +kernel)) (fun _ _ _ _ _ => (pg_name (i := 6) sc_law_alike.nd rfl (Or.inl rfl))) (fun _ _ _ _ _ => (pts_one (pt_cmpR op_ne (pe_c c_law_squeezed hr (by first | decide | omega) (by rfl) (pa_cons (pv 6) (pa_cons (pv 3) pa_nil))) (pe_c c_law_squeezed hr (by first | decide | omega) (by rfl) (pa_cons (pv 6) (pa_cons (pv 4) pa_nil))) (nomark _)))) (fun _ _ _ _ _ => (pv 6))) (pe_lst pa_nil) (nomark _)))))), ?_⟩
    obtain ⟨n3, n5⟩ := allR_ok ns hn
    obtain ⟨m3, m5⟩ := allR_ok ms hm
    have two : Two (ns ++ ms) := fun k hk => by
      rcases List.mem_append.mp hk with z | z
      · exact (n5 k z).1
      · exact (m5 k z).1
    have two2 : Two (ms ++ ns) := fun k hk => two k (List.mem_append.mpr (List.mem_append.mp hk).symm)
    have le5 : ∀ k ∈ ns ++ ms, k ≤ 5 := fun k hk => by
      rcases List.mem_append.mp hk with z | z
      · exact (n5 k z).2
      · exact (m5 k z).2
    have len6 : (ns ++ ms).length ≤ 6 := by
      rw [List.length_append]
      omega
    have pr : prodL (ns ++ ms) ≤ 5 ^ 6 := prodL_le two le5 len6 (by decide)
    have p1 := prodL_pos two
    have mid : Mid (ns ++ ms) := fun k hk => ⟨two k hk, by have := le5 k hk; omega⟩
    have mid2 : Mid (ms ++ ns) := fun k hk => ⟨two2 k hk, by have := le5 k (List.mem_append.mpr (List.mem_append.mp hk).symm); omega⟩
    have sz1 : (iv ns).length + (iv ms).length ≤ sizeLine := by
      rw [iv_len, iv_len, sizeLine_eq]
      omega
    have sz2 : (iv ms).length + (iv ns).length ≤ sizeLine := by omega
    walk_at "sq go"
    intro c1 nc1
    have e1 : iv ns ++ iv ms = iv (ns ++ ms) := List.map_append.symm
    have e2 : iv ms ++ iv ns = iv (ms ++ ns) := List.map_append.symm
    rw [e1]
    have s1 := same_new (o := .lst (iv (ns ++ ms))) nc1
    have hA1 := s1 _ _ hA
    have hB1 := s1 _ _ hB
    walk_at "sq go"
    intro c2 nc2
    rw [e2]
    have s2 := s1.trans (same_new (o := .lst (iv (ms ++ ns))) nc2)
    have h1 : SqL K (upd (upd H c1 (.lst (iv (ns ++ ms)))) c2 (.lst (iv (ms ++ ns)))) c1 (iv (ns ++ ms)) := seqL_of (upd_keep nc2 upd_same)
    have h2 : SqL K (upd (upd H c1 (.lst (iv (ns ++ ms)))) c2 (.lst (iv (ms ++ ns)))) c2 (iv (ms ++ ns)) := seqL_of upd_same
    generalize upd (upd H c1 (.lst (iv (ns ++ ms)))) c2 (.lst (iv (ms ++ ns))) = H1 at *
    walk_at "sq go"
    intro T nT
    have s3 := s2.trans (same_new (o := .tup [.int 1, .ref c1, .ref c2]) nT)
    have h1a := (same_new (o := .tup [.int 1, .ref c1, .ref c2]) nT).seq h1
    have h2a := (same_new (o := .tup [.int 1, .ref c1, .ref c2]) nT).seq h2
    walk_at "sq go"
    refine for_list (K := K) (a := c1) (xs := iv (ns ++ ms)) (fun i σ H' => Keep (∃ x5 x6, σ = [some (.ref a), some (.ref b), some (.int (prodL ((ns ++ ms).take i))), some (.ref c1), some (.ref c2), x5, x6] ∧ H' = upd H1 T (.tup [.int 1, .ref c1, .ref c2]))) ⟨none, none, rfl, rfl⟩ (fun i σ H' _ h => ?_) (fun i x σ H' hx h => ?_) (fun σ H' h => ?_)
    · obtain ⟨_, _, _, rfl⟩ := h.o
      exact h1a
    · obtain ⟨x5, x6, rfl, rfl⟩ := h.o
      obtain ⟨k, hk, rfl⟩ := iv_get hx
      have k2 := two k (List.mem_of_getElem? hk)
      have k5 := le5 k (List.mem_of_getElem? hk)
      have le : prodL ((ns ++ ms).take i) ≤ 5 ^ 6 := prodL_le (fun k hk => two k (List.mem_of_mem_take hk)) (fun k hk => le5 k (List.mem_of_mem_take hk)) (by rw [List.length_take]; omega) (by decide)
      have pt := prodL_pos (ns := (ns ++ ms).take i) fun k hk => two k (List.mem_of_mem_take hk)
      have wm : CMulW (prodL ((ns ++ ms).take i)) k := Sm.wide (a := 20) (b := 10) (by unfold Sm; omega) (by unfold Sm; omega) (by decide) (by decide) (by decide)
      have ek : prodL ((ns ++ ms).take (i + 1)) = prodL ((ns ++ ms).take i) * k := by
        rw [List.take_add_one, hk]
        exact prodL_snoc _ _
      walk_at "sq go"
      exact ⟨_, _, by rw [ek]; rfl, rfl⟩
    · obtain ⟨x5, x6, rfl, rfl⟩ := h.o
      rw [iv_len, List.take_length]
      generalize upd H1 T (.tup [.int 1, .ref c1, .ref c2]) = H2 at *
      walk_at "sq go"
      intro Dl nDl
      refine lc_range (lo := 0) (n := (prodL (ns ++ ms) + 1).toNat) (fun m H3 => Keep (Same H2 H3 ∧ ∃ bad : List Int, H3 Dl = some (.lst (iv bad)) ∧ bad.length ≤ m ∧ (bad = [] ↔ ∀ n : Int, 0 ≤ n → n < m → sqz n (ns ++ ms) = sqz n (ms ++ ns)))) ⟨same_new nDl, [], upd_same, Nat.zero_le _, ⟨fun _ n h1 h2 => by omega, fun _ => rfl⟩⟩ (fun m H3 hm h => ?_) (fun H3 h => ?_)
      · obtain ⟨s8, bad, hD, lb, ok⟩ := h.o
        have h1c := s8.seq h1a
        have h2c := s8.seq h2a
        walk_at "sq go"
        refine ⟨⟨mid⟩, ?_⟩
        walk_at "sq go"
        refine ⟨⟨mid2⟩, ?_⟩
        walk_at "sq go"
        have lD : (iv bad).length < sizeLine := by
          rw [iv_len, sizeLine_eq]
          omega
        refine ifIN (fun c => ?_) (fun c => ?_)
        · walk_at "sq go"
          refine ⟨same_put s8 nDl, bad ++ [0 + (m : Int)], by rw [upd_same, iv_app], by simp; omega, ?_⟩
          constructor
          · intro z
            simp at z
          · intro z
            exact absurd (z (0 + (m : Int)) (by omega) (by omega)) c
        · refine ⟨s8, bad, hD, by omega, ?_⟩
          rw [ok]
          constructor
          · intro z n n0 n1
            by_cases e : n = 0 + (m : Int)
            · rw [e]
              exact c
            · exact z n n0 (by omega)
          · intro z n n0 n1
            exact z n n0 (by omega)
      · obtain ⟨s8, bad, hD, lb, ok⟩ := h.o
        have hD2 := seqL_of (K := K) hD
        walk_at "sq go"
        intro E1 nE1
        refine r_eqI (xs := bad) (ys := []) ((same_new nE1).seq hD2) (seqL_of upd_same) ?_
        have s9 := s3.trans (s8.trans (same_new (o := .lst []) nE1))
        have key : decide (bad = []) = decide (ns ++ ms = ms ++ ns) := by
          refine decide_eq_decide.mpr ?_
          rw [ok]
          constructor
          · intro z
            refine alike_eq two two2 ?_ fun n n0 n1 => z n n0 (by omega)
            rw [prodL_app, prodL_app, Int.mul_comm]
          · intro z n _ _
            rw [z]
        rw [key]
        exact q _ s9

theorem LL.pick {G H : Hp} {l : Addr} {rows : List (List Int)} {xs : List V} {i : Nat} {v : V} (h : LL G H l rows) (hl : H l = some (.lst xs)) (e : xs[i]? = some v) : ∃ p ns, rows[i]? = some ns ∧ v = .ref p ∧ H p = some (.lst (iv ns)) := by
  obtain ⟨ys, hy, ly⟩ := h.len
  rw [hl] at hy
  have ey := HO.lst.inj (Option.some.inj hy)
  subst ey
  have lt : i < rows.length := by
    rw [← ly]
    exact (List.getElem?_eq_some_iff.mp e).1
  obtain ⟨p, xs', e1, e2, _, e3, _⟩ := h.get (List.getElem?_eq_getElem lt)
  rw [hl] at e1
  have ey := HO.lst.inj (Option.some.inj e1)
  subst ey
  rw [e] at e2
  exact ⟨p, rows[i], List.getElem?_eq_getElem lt, Option.some.inj e2, e3⟩
theorem ifIB {b c : Bool} {A B : Prop} (e : b = c) (h : B) : if (!decide (V.bl b = V.bl c)) = true then A else B := by
  subst e
  rw [decide_eq_true rfl]
  exact iteF h
theorem Bnd.mid {ns : List Int} (h : Bnd ns) : Mid ns := fun k hk => ⟨h.1 k hk, Int.lt_of_le_of_lt (h.2.1 k hk) (by decide)⟩
abbrev s_law : Stmt := topS 25
theorem sc_law : FnScope ["script", "source", "lists", "row", "singles", "some", "k", "turn", "one", "other", "run"] ["script"] (defScope s_law) := ⟨rfl, rfl, rfl, by decide +kernel, rfl, by decide +kernel, by decide +kernel⟩

def spLaw (K : PySem.W.Frag) : Sp := fun vs H Q _ => ∃ (a : Addr) (ns : List Int), vs = [.ref a] ∧ SqL K H a (iv ns) ∧ ns.length ≤ 63 ∧ ∀ H', Q (.bl true) H'
theorem ok_law {f : Addr} {fd : FuncData} (F : Fun K "law" "law" s_law f fd) (B : Bt mg) (c_law_source : Cal P w K mg base 1 "_law_source" (spSource K) []) (c_law_draw : Cal P w K mg base 1 "_law_draw" spDraw []) (c_law_listsK0 : CalK P w K mg base 1 "_law_lists" [] spLists)
    (c_law_singles : Cal P w K mg base 3 "_law_singles" (spSing K) []) (c_list_of : Cal P w K mg base 2 "list_of" (spListOf K) []) (c_law_squeezed : Cal P w K mg base 2 "_law_squeezed" (spSqueezed K) []) (c_law_alike : Cal P w K mg base 3 "_law_alike" spAlike [])
    (c_commute : Cal P w K mg base 2 "commute" (spComm K) []) (c_parting_run : Cal P w K mg base 2 "parting_run" (spPart K) []) : FnG P w K mg base CX0 7 f fd ["script"] (spLaw K) := by
  refine okG F sc_law (fun vs H Q E h => ?_) (fun cdv A outer s H vs Q E hG hr h => ?_)
  · obtain ⟨a, ns, rfl, _⟩ := h
    rfl
  · obtain ⟨p0, ns0, rfl, hP, hl, q⟩ := h
    refine ⟨_, (pss_cons (ps_par (i := 1) (j := 2) rfl sc_law.nd rfl rfl (by decide) rfl rfl (pa_cons (pe_c c_law_source hr (by first | decide | omega) (by rfl) (pa_cons (pv 0) pa_nil)) (pa_cons (pe_ck c_law_listsK0 hr (by first | decide | omega) (by rfl) pk_nil) pa_nil)) (by rfl))
  (pss_cons (ps_setLc (i := 4) (own := [("row", 3)]) (g := gName 3) (by rfl) sc_law.nd rfl rfl (sw_true rfl rfl rfl (by decide +kernel)) (pi_listK (K := K) (pv 2)) (blkOk_by (own := [("row", 3)]) (N := ["script", "source", "lists", "row", "singles", "some", "k", "turn", "one", "other", "run"]) (sc := defScope s_law) (by decide +kernel)) (fun _ _ _ _ _ => (pg_name (i := 3) sc_law.nd rfl (Or.inl rfl))) (fun _ _ _ _ _ => pts_nil) (fun _ _ _ _ _ => (pe_c c_law_singles hr (by first | decide | omega) (by rfl) (pa_cons (pv 3) pa_nil))))
  (pss_cons (ps_if (pt_cmpR op_ne (pe_lenTexts (K := K) (by rfl) B.len (by rfl) B.set (pe_lc (own := [("some", 5)]) (g := gName 5) (by rfl) sc_law.nd (pi_listK (K := K) (pv 4)) (blkOk_by (own := [("some", 5)]) (N := ["script", "source", "lists", "row", "singles", "some", "k", "turn", "one", "other", "run"]) (sc := defScope s_law) (by decide +kernel)) (fun _ _ _ _ _ => (pg_name (i := 5) sc_law.nd rfl (Or.inl rfl))) (fun _ _ _ _ _ => pts_nil) (fun _ _ _ _ _ => (pe_callB (call_reprDK (K := K) hG hr.units) (by rfl) B.repr (by decide +kernel) (pa_cons (pv 5) pa_nil))))) (pe_callB (len_seqK (K := K)) (by rfl) B.len boot_len (pa_cons (pv 2) pa_nil)) (nomark _)) (pss_one (ps_ret pe_bl)) pss_nil)
  (pss_cons (ps_for PassesOwn.never rfl (pi_zipK (K := K) (by rfl) B.zip (pa_cons (pv 2) (pa_cons (pv 4) pa_nil))) (pg_tupK (K := K) (n := 2) rfl (pgs_cons (pg_name (i := 3) sc_law.nd rfl (Or.inl rfl)) (pgs_cons (pg_name (i := 5) sc_law.nd rfl (Or.inl rfl)) pgs_nil)))
   (pss_one (ps_if (PW.pt (pw_or (pt_cmpR (op_neDK (K := K) hr.units) (pe_c c_list_of hr (by first | decide | omega) (by rfl) (pa_cons (pv 5) pa_nil)) (pv 3) (nomark _)) (pw_or (pt_cmpR op_isN (pe_c c_parting_run hr (by first | decide | omega) (by rfl) (pa_cons (pv 3) (pa_cons (pe_op op_cat (pv 3) (pe_lst (pa_cons pe_int pa_nil))) pa_nil))) pe_non (nomark _)) (pw_or1 (pt_cmpR op_isN (pe_c c_parting_run hr (by first | decide | omega) (by rfl) (pa_cons (pe_op op_cat (pe_lst (pa_cons pe_int pa_nil)) (pv 3)) (pa_cons (pv 3) pa_nil))) pe_non (nomark _)))))) (pss_one (ps_ret pe_bl)) pss_nil)))
  (pss_cons (ps_for PassesOwn.never rfl (pi_range1 (by rfl) B.range (pa_cons (pe_op op_add pe_int (pe_callB (call_min2 rfl) (by rfl) B.min (by decide +kernel) (pa_cons pe_int (pa_cons (pe_callB (len_seqK (K := K)) (by rfl) B.len boot_len (pa_cons (pv 0) pa_nil)) pa_nil)))) pa_nil)) (pg_name (i := 6) sc_law.nd rfl (Or.inl rfl))
   (pss_one (ps_for PassesOwn.never rfl (pi_range1 (by rfl) B.range (pa_cons pe_int pa_nil)) (pg_name (i := 7) sc_law.nd rfl (Or.inl rfl))
   (pss_cons (ps_par (i := 8) (j := 9) rfl sc_law.nd rfl rfl (by decide) rfl rfl (pa_cons (pe_ix (ix_listK (K := K)) (pv 2) (pe_c c_law_draw hr (by first | decide | omega) (by rfl) (pa_cons (pv 1) (pa_cons (pe_callB (len_seqK (K := K)) (by rfl) B.len boot_len (pa_cons (pv 2) pa_nil)) pa_nil))) (fun _ _ => rfl)) (pa_cons (pe_ix (ix_listK (K := K)) (pv 2) (pe_c c_law_draw hr (by first | decide | omega) (by rfl) (pa_cons (pv 1) (pa_cons (pe_callB (len_seqK (K := K)) (by rfl) B.len boot_len (pa_cons (pv 2) pa_nil)) pa_nil))) (fun _ _ => rfl)) pa_nil)) (by rfl))
  (pss_cons (ps_set (i := 10) sc_law.nd rfl (Or.inl rfl) (pe_c c_parting_run hr (by first | decide | omega) (by rfl) (pa_cons (pv 8) (pa_cons (pv 9) pa_nil))))
  (pss_cons (ps_if (PW.pt (pw_and (pt_cmpR (op_neDK (K := K) hr.units) (pv 8) (pv 9) (nomark _)) (pw_and1 (pt_cmpR op_eq (pe_c c_law_squeezed hr (by first | decide | omega) (by rfl) (pa_cons (pv 10) (pa_cons (pv 8) pa_nil))) (pe_c c_law_squeezed hr (by first | decide | omega) (by rfl) (pa_cons (pv 10) (pa_cons (pv 9) pa_nil))) (nomark _))))) (pss_one (ps_ret pe_bl)) pss_nil)
  (pss_one (ps_if (PW.pt (pw_or (PW.pt (pw_and (pt_cmpR (op_eqDK (K := K) hr.units) (pv 8) (pv 9) (nomark _)) (pw_and1 (pt_cmpR op_notN (pv 10) pe_non (nomark _))))) (pw_or1 (pt_cmpR op_ne (pe_c c_commute hr (by first | decide | omega) (by rfl) (pa_cons (pv 8) (pa_cons (pv 9) pa_nil))) (pe_c c_law_alike hr (by first | decide | omega) (by rfl) (pa_cons (pv 8) (pa_cons (pv 9) pa_nil))) (nomark _))))) (pss_one (ps_ret pe_bl)) pss_nil))))))))
  (pss_one (ps_ret pe_bl))))))), ?_⟩
    walk_at "sq go"
    intro r d H1 s1 hS1
    have hP1 := s1.seq hP
    walk_at "sq go"
    intro la H2 s2 LA nla
    have hS2 := hS1.on s2
    obtain ⟨xs, hla, lxs⟩ := LA.len
    rw [allR_len] at lxs
    walk_at "sq go"
    intro D1 nD1
    refine lc_list (K := K) (a := la) (xs := xs) (fun m H3 => Keep (Same H2 H3 ∧ LL H2 H3 D1 ((allR.take m).map singL))) ⟨same_new nD1, LL.nil upd_same⟩ (fun m H3 _ h => ?_) (fun m v H3 hv h => ?_) (fun H3 h => ?_)
    · obtain ⟨s3, _⟩ := h.o
      exact seqL_of (s3 _ _ hla)
    · obtain ⟨s3, LD⟩ := h.o
      have lm : m < allR.length := by
        have := (List.getElem?_eq_some_iff.mp hv).1
        rw [allR_len]
        omega
      have er := List.getElem?_eq_getElem lm
      generalize allR[m] = r at er
      obtain ⟨pr, xs', ex', exj, _, hpr, _, _⟩ := LA.get er
      have exx : xs' = xs := by
        rw [hla] at ex'
        exact (HO.lst.inj (Option.some.inj ex')).symm
      subst exx
      obtain rfl : v = .ref pr := by
        rw [exj] at hv
        exact (Option.some.inj hv).symm
      have hpr2 := seqL_of (K := K) (s3 _ _ hpr)
      walk_at "sq go"
      refine ⟨⟨List.mem_of_getElem? er⟩, fun sl H4 s4 nsl hsl => ?_⟩
      obtain ⟨acc1, hD1, _⟩ := LD.len
      obtain ⟨acc, hD, lacc, LD3⟩ := (LD.same s4).snoc hsl (ne_newK hD1 nsl).symm (s3.free nsl)
      refine ⟨acc, hD, ?_, same_put (s3.trans s4) nD1, ?_⟩
      · rw [lacc, List.length_map, List.length_take, sizeLine_eq]
        rw [allR_len] at lm
        omega
      · rw [List.take_add_one, er, List.map_append]
        exact LD3
    · obtain ⟨s3, LD⟩ := h.o
      rw [show allR.take xs.length = allR by rw [lxs, ← allR_len, List.take_length]] at LD
      have LA3 := LA.same s3
      obtain ⟨ys, hD, lys⟩ := LD.len
      rw [List.length_map, allR_len] at lys
      have hla3 := s3 _ _ hla
      walk_at "sq go"
      intro D2 nD2
      refine lc_list (K := K) (a := D1) (xs := ys) (fun m H4 => Keep (Same H3 H4 ∧ H4 D2 = some (.lst (((allR.map singL).take m).map fun ns => V.str (dI ns).shown)))) ⟨same_new nD2, upd_same⟩ (fun m H4 _ h => ?_) (fun m v H4 hv h => ?_) (fun H4 h => ?_)
      · obtain ⟨s4, _⟩ := h.o
        exact seqL_of (s4 _ _ hD)
      · obtain ⟨s4, hD2⟩ := h.o
        have lm : m < (allR.map singL).length := by
          have := (List.getElem?_eq_some_iff.mp hv).1
          rw [List.length_map, allR_len]
          omega
        have er := List.getElem?_eq_getElem lm
        generalize (allR.map singL)[m] = sr at er
        obtain ⟨pr, xs', ex', exj, _, hpr, _, _⟩ := LD.get er
        have exx : xs' = ys := by
          rw [hD] at ex'
          exact (HO.lst.inj (Option.some.inj ex')).symm
        subst exx
        obtain rfl : v = .ref pr := by
          rw [exj] at hv
          exact (Option.some.inj hv).symm
        obtain ⟨row, hrow, rfl⟩ := List.mem_map.mp (List.mem_of_getElem? er)
        have len := sing_len row
        have pr5 := allR_prod hrow
        have lD : ((((allR.map singL).take m).map fun ns => V.str (dI ns).shown)).length < sizeLine := by
          rw [List.length_map, List.length_take, sizeLine_eq]
          rw [List.length_map, allR_len] at lm
          omega
        walk_at "sq go"
        refine r_repr (seqL_of (s4 _ _ hpr)) (by omega) (fun n hn => ?_) ?_
        · have sg := (sgl_sing (allR_two hrow) n).mp hn
          have le := (sgl_top (allR_two hrow) (sgl_sing (allR_two hrow))).2 n hn
          exact Nat.lt_trans ((show Sm 10 n by unfold Sm; omega).lg (by decide)) (by decide)
        · walk_at "sq go"
          refine ⟨same_put s4 nD2, ?_⟩
          rw [upd_same, List.take_add_one, er, List.map_append]
          rfl
      · obtain ⟨s4, hD2⟩ := h.o
        rw [show (allR.map singL).take ys.length = allR.map singL by rw [lys, ← allR_len, ← List.length_map (f := singL), List.take_length]] at hD2
        have hD3 : SqL K H4 D2 (((allR.map singL).map fun ns => (dI ns).shown).map V.str) := seqL_of (by rw [hD2, List.map_map]; rfl)
        have hla4 := s4 _ _ hla3
        have hla5 := seqL_of (K := K) hla4
        refine ⟨D2, _, rfl, hD3, shown_nodup, by rw [List.length_map, List.length_map, allR_len]; decide, ?_⟩
        rw [List.length_map, List.length_map, allR_len]
        walk_at "sq go"
        refine ifIN (fun c => ?_) (fun _ => ?_)
        · exact absurd (by rw [lxs] <;> rfl) c
        have hS4 := hS2.on (s3.trans s4)
        have LA4 := LA3.same s4
        have LD4 := LD.same s4
        have hD4 := s4 _ _ hD
        have hD5 := seqL_of (K := K) hD4
        walk_at "sq go"
        refine RZ.for_zipL (K := K) (a := la) (b := D1) (xs := xs) (ys := ys) (by rw [lxs, lys]) (fun i σ H' => Keep (∃ x3 x5 x6 x7 x8 x9 x10, σ = [some (.ref p0), some (.ref r), some (.ref la), x3, some (.ref D1), x5, x6, x7, x8, x9, x10] ∧ Same H4 H')) ⟨_, _, _, _, _, _, _, rfl, .refl _⟩ (fun i σ H' h => ?_) (fun i x y T σ H' hx hy h nT => ?_) (fun σ H' h => ?_)
        · obtain ⟨_, _, _, _, _, _, _, _, s5⟩ := h.o
          exact ⟨seqL_of (s5 _ _ hla4), seqL_of (s5 _ _ hD4)⟩
        · obtain ⟨x3, x5, x6, x7, x8, x9, x10, rfl, s5⟩ := h.o
          obtain ⟨pr, row, er, rfl, hpr⟩ := LA4.pick hla4 hx
          obtain ⟨ps, sr, es, rfl, hps⟩ := LD4.pick hD4 hy
          rw [List.getElem?_map, er] at es
          obtain rfl : singL row = sr := Option.some.inj es
          have hrow := List.mem_of_getElem? er
          have two := allR_two hrow
          have pr5 := allR_prod hrow
          obtain ⟨r3, r5⟩ := allR_ok row hrow
          have s6 := s5.trans (same_new (o := .tup [.ref pr, .ref ps]) nT)
          have hpr6 := s6 _ _ hpr
          have hps6 := seqL_of (K := K) (s6 _ _ hps)
          walk_at "sq go"
          have runs : Runs1 (singL row) := ⟨asc_nodup (sing_asc row), fun k hk => by
            have sg := (sgl_sing two k).mp hk
            have le := (sgl_top two (sgl_sing two)).2 k hk
            omega, by have := sing_len row; omega⟩
          have tell : ∀ p res, p.Perm (singL row) → p.Pairwise (· < ·) → Lof p res → res = some row := fun p res pm asc lf =>
            lof_full two (fun x => by rw [pm.mem_iff]; exact sgl_sing two x) asc lf
          refine ⟨⟨runs, fun p H5 pm asc lf _ => absurd (tell p none pm asc lf) (by simp), fun p row2 l5 H5 pm asc lf s7 nl5 hl5 => ?_⟩⟩
          obtain rfl : row2 = row := Option.some.inj (tell p _ pm asc lf)
          have hpr7 := s7 _ _ hpr6
          walk_at "sq go"
          refine r_neI (seqL_of hl5) (seqL_of hpr7) ?_
          walk_at "sq go"
          refine ifN (fun c => absurd rfl c) (fun _ => ?_)
          have bn : Bnd row2 := ⟨two, fun k hk => by have := r5 k hk; omega, by omega⟩
          have bn2 : Bnd (row2 ++ [2]) := ⟨fun k hk => by
            rcases List.mem_append.mp hk with z | z
            · exact two k z
            · rw [List.mem_singleton.mp z]; decide, fun k hk => by
            rcases List.mem_append.mp hk with z | z
            · have := r5 k z; omega
            · rw [List.mem_singleton.mp z]; decide, by rw [List.length_append, List.length_singleton]; omega⟩
          have bn3 : Bnd ([3] ++ row2) := ⟨fun k hk => by
            rcases List.mem_append.mp hk with z | z
            · rw [List.mem_singleton.mp z]; decide
            · exact two k z, fun k hk => by
            rcases List.mem_append.mp hk with z | z
            · rw [List.mem_singleton.mp z]; decide
            · have := r5 k z; omega, by rw [List.length_append, List.length_singleton]; omega⟩
          have sz2 : (iv row2).length + [V.int 2].length ≤ sizeLine := by
            rw [iv_len, sizeLine_eq]
            simp
            omega
          have sz3 : [V.int 3].length + (iv row2).length ≤ sizeLine := by
            rw [iv_len, sizeLine_eq]
            simp
            omega
          walk_at "sq go"
          intro e1 ne1
          have hpr8 := upd_keep (o := .lst [.int 2]) ne1 hpr7
          walk_at "sq go"
          intro c1 nc1
          rw [iv_app]
          have hpr9 := upd_keep (o := .lst (iv (row2 ++ [2]))) nc1 hpr8
          have hpr9q := seqL_of (K := K) hpr9
          have s8 := s7.trans ((same_new (o := .lst [.int 2]) ne1).trans (same_new (o := .lst (iv (row2 ++ [2]))) nc1))
          walk_at "sq go"
          refine ⟨bn, bn2, fun z => absurd (congrArg List.length z) (by simp), fun n H6 _ _ _ s9 => ?_⟩
          walk_at "sq go"
          have hpr10 := s9 _ _ hpr9
          walk_at "sq go"
          intro e2 ne2
          have hpr11 := upd_keep (o := .lst [.int 3]) ne2 hpr10
          walk_at "sq go"
          intro c2 nc2
          have ee : [V.int 3] ++ iv row2 = iv ([3] ++ row2) := rfl
          rw [ee]
          have hpr12 := upd_keep (o := .lst (iv ([3] ++ row2))) nc2 hpr11
          have hpr12q := seqL_of (K := K) hpr12
          have s10 := s8.trans (s9.trans ((same_new (o := .lst [.int 3]) ne2).trans (same_new (o := .lst (iv ([3] ++ row2))) nc2)))
          walk_at "sq go"
          refine ⟨bn3, bn, fun z => absurd (congrArg List.length z) (by simp), fun n2 H7 _ _ _ s11 => ?_⟩
          walk_at "sq go"
          exact ⟨_, _, _, _, _, _, _, rfl, s6.trans (s10.trans s11)⟩
        · obtain ⟨x3, x5, x6, x7, x8, x9, x10, rfl, s5⟩ := h.o
          have hS5 := hS4.on s5
          obtain ⟨G, gs, hSG, eG⟩ := hS5.full
          have LA5 := LA4.same s5
          have hP5 := (s2.trans (s3.trans (s4.trans s5))).seq hP1
          walk_at "sq go"
          have LG : LL H G la allR := LA5.move nla hS1 eG
          obtain ⟨zs, hlaG, lzs⟩ := LG.len
          rw [allR_len] at lzs
          refine for_range (lo := 0) (n := _) (fun i σ H' => Keep (∃ x3 x5 x6 x7 x8 x9 x10, σ = [some (.ref p0), some (.ref r), some (.ref la), x3, some (.ref D1), x5, x6, x7, x8, x9, x10] ∧ Sep (rgB r d (100 * i)) G H' ∧ i ≤ 5)) ⟨_, _, _, _, _, _, _, rfl, SepB.mono hSG (by omega), by omega⟩ (fun i σ H' hi h => ?_) (fun σ H' h => ?_)
          · obtain ⟨x3, x5, x6, x7, x8, x9, x10, rfl, hs, hi11⟩ := h.o
            have hi12 : i + 1 ≤ 5 := by
              (repeat' split at hi) <;> omega
            walk_at "sq go"
            refine for_range (lo := 0) (n := 8) (fun j σ H' => Keep (∃ x3 x5 x6 x7 x8 x9 x10, σ = [some (.ref p0), some (.ref r), some (.ref la), x3, some (.ref D1), x5, x6, x7, x8, x9, x10] ∧ Sep (rgB r d (100 * i + 2 * j)) G H')) ⟨_, _, _, _, _, _, _, rfl, SepB.mono hs (by omega)⟩ (fun j σ H' hj h => ?_) (fun σ H' h => ?_)
            · obtain ⟨x3, x5, x6, x7, x8, x9, x10, rfl, hs1⟩ := h.o
              have hz1 := seqL_of (K := K) (hs1.get hlaG)
              walk_at "sq go"
              rw [lzs]
              refine ⟨⟨by decide, by decide, by omega⟩, fun y J1 y0 y1 hs2 => ?_⟩
              have hz2 := seqL_of (K := K) (hs2.get hlaG)
              obtain ⟨yn, rfl⟩ := Int.eq_ofNat_of_zero_le y0
              have ey : zs[yn]? = some zs[yn] := List.getElem?_eq_getElem (by omega)
              generalize zs[yn] = vy at ey
              obtain ⟨pa, as, ea, rfl, hpa⟩ := LG.pick hlaG ey
              have aty := atI_nat ey
              walk_at "sq go"
              rw [lzs]
              refine ⟨⟨by decide, by decide, by omega⟩, fun z J2 z0 z1 hs3 => ?_⟩
              have hz3 := seqL_of (K := K) (hs3.get hlaG)
              obtain ⟨zn, rfl⟩ := Int.eq_ofNat_of_zero_le z0
              have ez : zs[zn]? = some zs[zn] := List.getElem?_eq_getElem (by omega)
              generalize zs[zn] = vz at ez
              obtain ⟨pb, bs, eb, rfl, hpb⟩ := LG.pick hlaG ez
              have atz := atI_nat ez
              walk_at "sq go"
              have ma := List.mem_of_getElem? ea
              have mb := List.mem_of_getElem? eb
              have bnd : ∀ {t : List Int}, t ∈ allR → Bnd t := fun {t} ht => ⟨allR_two ht, fun k hk => by have := (allR_ok t ht).2 k hk; omega, by have := (allR_ok t ht).1; omega⟩
              have ba := bnd ma
              have bb := bnd mb
              by_cases e : as = bs
              · refine ⟨ba, bb, fun _ J3 t3 => ?_, fun n J3 ne => absurd e ne⟩
                have hs4 := hs3.on t3
                have hpa3 := hs4.get hpa
                have hpb3 := hs4.get hpb
                walk_at "sq go"
                refine r_neI (seqL_of hpa3) (seqL_of hpb3) ?_
                walk_at "sq go"
                refine ifN (fun c => absurd e c) (fun _ => ?_)
                walk_at "sq go"
                refine r_eqI (seqL_of hpa3) (seqL_of hpb3) ?_
                walk_at "sq go"
                refine ifD (fun _ => ?_) (fun c => absurd e c)
                walk_at "sq go"
                refine ⟨ba, bb, fun J4 t4 => ?_⟩
                have hpa4 := t4 _ _ hpa3
                have hpb4 := t4 _ _ hpb3
                walk_at "sq go"
                refine ⟨ma, mb, fun J5 t5 => ?_⟩
                walk_at "sq go"
                refine ifIB rfl ?_
                walk_at "sq go"
                exact ⟨_, _, _, _, _, _, _, rfl, SepB.mono ((hs4.on t4).on t5) (by omega)⟩
              · refine ⟨ba, bb, fun z => absurd z e, fun n J3 _ n1 dif t3 => ?_⟩
                have hs4 := hs3.on t3
                have hpa3 := hs4.get hpa
                have hpb3 := hs4.get hpb
                walk_at "sq go"
                refine r_neI (seqL_of hpa3) (seqL_of hpb3) ?_
                walk_at "sq go"
                refine ifN (fun _ => ?_) (fun c => absurd c e)
                have hpa3q := seqL_of (K := K) hpa3
                have hpb3q := seqL_of (K := K) hpb3
                walk_at "sq go"
                refine ⟨⟨ba.mid⟩, ?_⟩
                walk_at "sq go"
                refine ⟨⟨bb.mid⟩, ?_⟩
                walk_at "sq go"
                refine ifI (fun c => absurd c dif) (fun _ => ?_)
                walk_at "sq go"
                refine r_eqI (seqL_of hpa3) (seqL_of hpb3) ?_
                walk_at "sq go"
                refine ifD (fun c => absurd c e) (fun _ => ?_)
                walk_at "sq go"
                refine ⟨ba, bb, fun J4 t4 => ?_⟩
                have hpa4 := t4 _ _ hpa3
                have hpb4 := t4 _ _ hpb3
                walk_at "sq go"
                refine ⟨ma, mb, fun J5 t5 => ?_⟩
                walk_at "sq go"
                refine ifIB rfl ?_
                walk_at "sq go"
                exact ⟨_, _, _, _, _, _, _, rfl, SepB.mono ((hs4.on t4).on t5) (by omega)⟩
            · obtain ⟨x3, x5, x6, x7, x8, x9, x10, rfl, hs1⟩ := h.o
              exact ⟨_, _, _, _, _, _, _, rfl, SepB.mono hs1 (by omega), by omega⟩
          · walk_at "sq go"
            exact q H'
end
end Sq
open PySem PySem.W PyProof.Rows in
set_option maxRecDepth 100000 in
set_option maxHeartbeats 0 in
theorem PySem.Challenge.cw_squeezelists_k14_whole_no_two_lists_alik_holds : PySem.Challenge.rw_squeezelists_k14_whole_no_two_lists_alik.Holds := by
  w_on; o_law; k_head; (case hw => w_witness2)
  k_fill
  refine Sq.walk_ofG (l := PySem.Challenge.rw_squeezelists_k14_whole_no_two_lists_alik) (n := 63) (k := 7) (x := "script") (sp := Sq.spLaw) rfl (by decide) rfl ⟨rfl, by decide, by decide⟩ (fun w h Y => PySem.W.kIn_of Y) ?F (fun K H a ns hl hS => ⟨a, ns, rfl, hS, hl, fun _ => rfl⟩)
  case F =>
    intro w mg fa h KX G hmg
    have B : Sq.Bt mg := by
      refine' ⟨PySem.W.mg_none_of KX G ?z0, PySem.W.mg_none_of KX G ?z1, PySem.W.mg_none_of KX G ?z2, PySem.W.mg_none_of KX G ?z3, PySem.W.mg_none_of KX G ?z4, PySem.W.mg_none_of KX G ?z5, PySem.W.mg_none_of KX G ?z6, PySem.W.mg_none_of KX G ?z7, PySem.W.mg_none_of KX G ?z8, PySem.W.mg_none_of KX G ?z9, PySem.W.mg_none_of KX G ?z10, PySem.W.mg_none_of KX G ?z11, PySem.W.mg_none_of KX G ?z12, PySem.W.mg_none_of KX G ?z13, PySem.W.mg_none_of KX G ?z14, PySem.W.mg_none_of KX G ?z15⟩
      (case z0 => k_is)
      (case z1 => k_is)
      (case z2 => k_is)
      (case z3 => k_is)
      (case z4 => k_is)
      (case z5 => k_is)
      (case z6 => k_is)
      (case z7 => k_is)
      (case z8 => k_is)
      (case z9 => k_is)
      (case z10 => k_is)
      (case z11 => k_is)
      (case z12 => k_is)
      (case z13 => k_is)
      (case z14 => k_is)
      (case z15 => k_is)
    have g_SINGLE : ∃ u, mg "SINGLE" = some u ∧ L2.RelV (L2.V.int 1) u := by
      refine' ⟨?u_SINGLE, PySem.W.mg_of KX G ?a_SINGLE, ?r_SINGLE⟩
      (case a_SINGLE => k_is)
      (case r_SINGLE => first | exact ⟨_, rfl⟩ | exact ⟨_, congrArg (fun z => PySem.Value.str z _) (by decide +kernel)⟩)
    refine' Sq.cutD (Sq.DefAt.mk1 (x := "check_list") (st := Sq.s_check_list) (ps := ["replacements"]) KX G ?a_check_list ?l_check_list ?c_check_list ?k_check_list (fun _ _ _ _ _ _ us hl => match us, hl with | [_], _ => rfl)) ?_
    (case a_check_list => k_is); (case l_check_list => k_is); (case c_check_list => k_is); (case k_check_list => k_is)
    intro D_check_list
    refine' Sq.cutD (Sq.DefAt.mk1 (x := "squeezed_once") (st := Sq.s_squeezed_once) (ps := ["length", "replacement"]) KX G ?a_squeezed_once ?l_squeezed_once ?c_squeezed_once ?k_squeezed_once (fun _ _ _ _ _ _ us hl => match us, hl with | [_, _], _ => rfl)) ?_
    (case a_squeezed_once => k_is); (case l_squeezed_once => k_is); (case c_squeezed_once => k_is); (case k_squeezed_once => k_is)
    intro D_squeezed_once
    refine' Sq.cutD (Sq.DefAt.mk1 (x := "greatest_origin_of") (st := Sq.s_greatest_origin_of) (ps := ["length", "replacements"]) KX G ?a_greatest_origin_of ?l_greatest_origin_of ?c_greatest_origin_of ?k_greatest_origin_of (fun _ _ _ _ _ _ us hl => match us, hl with | [_, _], _ => rfl)) ?_
    (case a_greatest_origin_of => k_is); (case l_greatest_origin_of => k_is); (case c_greatest_origin_of => k_is); (case k_greatest_origin_of => k_is)
    intro D_greatest_origin_of
    refine' Sq.cutD (Sq.DefAt.mk1 (x := "parting_run") (st := Sq.s_parting_run) (ps := ["first", "second"]) KX G ?a_parting_run ?l_parting_run ?c_parting_run ?k_parting_run (fun _ _ _ _ _ _ us hl => match us, hl with | [_, _], _ => rfl)) ?_
    (case a_parting_run => k_is); (case l_parting_run => k_is); (case c_parting_run => k_is); (case k_parting_run => k_is)
    intro D_parting_run
    refine' Sq.cutD (Sq.DefAt.mk1 (x := "commute") (st := Sq.s_commute) (ps := ["first", "second"]) KX G ?a_commute ?l_commute ?c_commute ?k_commute (fun _ _ _ _ _ _ us hl => match us, hl with | [_, _], _ => rfl)) ?_
    (case a_commute => k_is); (case l_commute => k_is); (case c_commute => k_is); (case k_commute => k_is)
    intro D_commute
    refine' Sq.cutD (Sq.DefAt.mk1 (x := "list_of") (st := Sq.s_list_of) (ps := ["singles"]) KX G ?a_list_of ?l_list_of ?c_list_of ?k_list_of (fun _ _ _ _ _ _ us hl => match us, hl with | [_], _ => rfl)) ?_
    (case a_list_of => k_is); (case l_list_of => k_is); (case c_list_of => k_is); (case k_list_of => k_is)
    intro D_list_of
    refine' Sq.cutD (Sq.DefAt.mk1 (x := "is_complete") (st := Sq.s_is_complete) (ps := ["present", "later", "replacement"]) KX G ?a_is_complete ?l_is_complete ?c_is_complete ?k_is_complete (fun _ _ _ _ _ _ us hl => match us, hl with | [_, _, _], _ => rfl)) ?_
    (case a_is_complete => k_is); (case l_is_complete => k_is); (case c_is_complete => k_is); (case k_is_complete => k_is)
    intro D_is_complete
    refine' Sq.cutD (Sq.DefAt.mk1 (x := "_law_source") (st := Sq.s_law_source) (ps := ["script"]) KX G ?a_law_source ?l_law_source ?c_law_source ?k_law_source (fun _ _ _ _ _ _ us hl => match us, hl with | [_], _ => rfl)) ?_
    (case a_law_source => k_is); (case l_law_source => k_is); (case c_law_source => k_is); (case k_law_source => k_is)
    intro D_law_source
    refine' Sq.cutD (Sq.DefAt.mk1 (x := "_law_draw") (st := Sq.s_law_draw) (ps := ["source", "many"]) KX G ?a_law_draw ?l_law_draw ?c_law_draw ?k_law_draw (fun _ _ _ _ _ _ us hl => match us, hl with | [_, _], _ => rfl)) ?_
    (case a_law_draw => k_is); (case l_law_draw => k_is); (case c_law_draw => k_is); (case k_law_draw => k_is)
    intro D_law_draw
    refine' Sq.cutD (Sq.DefAt.mk1 (x := "_law_once") (st := Sq.s_law_once) (ps := ["run", "one"]) KX G ?a_law_once ?l_law_once ?c_law_once ?k_law_once (fun _ _ _ _ _ _ us hl => match us, hl with | [_, _], _ => rfl)) ?_
    (case a_law_once => k_is); (case l_law_once => k_is); (case c_law_once => k_is); (case k_law_once => k_is)
    intro D_law_once
    refine' Sq.cutD (Sq.DefAt.mk1 (x := "_law_squeezed") (st := Sq.s_law_squeezed) (ps := ["run", "row"]) KX G ?a_law_squeezed ?l_law_squeezed ?c_law_squeezed ?k_law_squeezed (fun _ _ _ _ _ _ us hl => match us, hl with | [_, _], _ => rfl)) ?_
    (case a_law_squeezed => k_is); (case l_law_squeezed => k_is); (case c_law_squeezed => k_is); (case k_law_squeezed => k_is)
    intro D_law_squeezed
    refine' Sq.cutD (Sq.DefAt.mk1 (x := "_law_lists") (st := Sq.s_law_lists) (ps := []) KX G ?a_law_lists ?l_law_lists ?c_law_lists ?k_law_lists (fun _ _ _ _ _ _ us hl => match us, hl with | [], _ => rfl)) ?_
    (case a_law_lists => k_is); (case l_law_lists => k_is); (case c_law_lists => k_is); (case k_law_lists => k_is)
    intro D_law_lists
    refine' Sq.cutD (Sq.DefAt.mk1 (x := "_law_singles") (st := Sq.s_law_singles) (ps := ["row"]) KX G ?a_law_singles ?l_law_singles ?c_law_singles ?k_law_singles (fun _ _ _ _ _ _ us hl => match us, hl with | [_], _ => rfl)) ?_
    (case a_law_singles => k_is); (case l_law_singles => k_is); (case c_law_singles => k_is); (case k_law_singles => k_is)
    intro D_law_singles
    refine' Sq.cutD (Sq.DefAt.mk1 (x := "_law_alike") (st := Sq.s_law_alike) (ps := ["one", "other"]) KX G ?a_law_alike ?l_law_alike ?c_law_alike ?k_law_alike (fun _ _ _ _ _ _ us hl => match us, hl with | [_, _], _ => rfl)) ?_
    (case a_law_alike => k_is); (case l_law_alike => k_is); (case c_law_alike => k_is); (case k_law_alike => k_is)
    intro D_law_alike
    refine' Sq.cutD (Sq.DefAt.mk1 (x := "law") (st := Sq.s_law) (ps := ["script"]) KX G ?a_law ?l_law ?c_law ?k_law (fun _ _ _ _ _ _ us hl => match us, hl with | [_], _ => rfl)) ?_
    (case a_law => k_is); (case l_law => k_is); (case c_law => k_is); (case k_law => k_is)
    intro D_law
    obtain ⟨fd, F, hb⟩ := D_law.law hmg (fun _ _ _ _ _ _ us hl => match us, hl with | [_], _ => rfl)
    refine ⟨fd, hb, fun base _ _ => ?_⟩
    have ccl := Sq.cal_check_list (P := PySem.Challenge.rw_squeezelists_k14_whole_no_two_lists_alik.prog) (w := w) (base := base) D_check_list B
    have pr := Sq.two_part (P := PySem.Challenge.rw_squeezelists_k14_whole_no_two_lists_alik.prog) (w := w) (base := base) D_parting_run B g_SINGLE ccl (Sq.cal_greatest_origin_of D_greatest_origin_of B)
    have cm := Sq.two_comm (P := PySem.Challenge.rw_squeezelists_k14_whole_no_two_lists_alik.prog) (w := w) (base := base) D_commute B ccl
    have lo := Sq.two_listOf (P := PySem.Challenge.rw_squeezelists_k14_whole_no_two_lists_alik.prog) (w := w) (base := base) D_list_of B g_SINGLE (Sq.cal_squeezed_once D_squeezed_once B) (Sq.cal_whole D_is_complete B)
    have cd := Sq.cal_draw (P := PySem.Challenge.rw_squeezelists_k14_whole_no_two_lists_alik.prog) (w := w) (base := base) D_law_draw B
    have cq := Sq.cal_squeezed (P := PySem.Challenge.rw_squeezelists_k14_whole_no_two_lists_alik.prog) (w := w) (base := base) D_law_squeezed B (Sq.cal_once D_law_once B)
    have ls : Sq.CalK PySem.Challenge.rw_squeezelists_k14_whole_no_two_lists_alik.prog w _ mg base 1 "_law_lists" [] Sq.spLists := (Sq.two_lists (P := PySem.Challenge.rw_squeezelists_k14_whole_no_two_lists_alik.prog) (w := w) (base := base) D_law_lists B).calK (fun {α} (l : List α) => l) (fun {vs us} r => r) (fun kV doc pm an cdv ct ws hl => match ws, hl with | [], _ => rfl) (by
      rintro zs H Q E ⟨rfl, h⟩
      exact ⟨rfl, rfl, h⟩)
    refine Sq.ok_law F B (Sq.cal_source D_law_source B) cd ls (Sq.cal_singles D_law_singles B cq) lo.cal cq (Sq.cal_alike D_law_alike B cq) cm.cal pr.cal
