import PyProof.Rows.All
import Wide.All
import OpenK.AllK
import Wide.FinOn
import HandS.ForMost
import HandS.Wide
import HandS.Style
import HandS.SortInts
import HandS.Deep
import HandS.Defaults
import HandS.Flow
import HandS.IsInst
import HandS.Codes
import HandS.NoneIn
import HandS.Property
import HandS.RaiseMore
import PyProof.ReprRoads
import HandS.Conv
import HandS.Set
import HandS.Strs
import HandS.SetFor
import HandS.Zip
import PyProof.LongRange
import HandS.Exc
import HandS.ExcInit
import HandS.NestedK
import KE.KExcSuper
import HandS.ExcIs
import HandS.ExcField
import KE.KExcIs
import HandS.WordsExc
import HandS.MakeKwOnly
import KE.RegKIsAll
import HandS.Walk
import HandS.Star
import KE.KUnpackStar
import PySem.Challenge.RW_squeezelists_k15_lists_read_back
set_option Elab.async false
set_option linter.all false
set_option maxRecDepth 100000
set_option maxHeartbeats 4000000
namespace Sq
open PySem PySem.Spec PyProof.Rows L2
/-! ## operators -/
/-- a power whose base has at most 100000 bits -/
def CPowW (i j : Int) : Prop := 0 ≤ j ∧ j ≤ 1000 ∧ i.natAbs.log2 < 100000
theorem bitsOf_le (i : Int) : Builtin.Int.intBits i ≤ i.natAbs.log2 + 1 := by
  unfold Builtin.Int.intBits
  split <;> omega
theorem op_powW {X : Cx} : OpR X (binaryOp .Pow) (rI CPowW fun i j => .int (i ^ j.toNat)) := opI fun i j _ _ _ _ _ hc q => by
  obtain ⟨h1, h2, h3⟩ := hc
  refine pow_int h1 ?_ q
  have hb := bitsOf_le i
  have h4 : ((Builtin.Int.intBits i : Nat) : Int) ≤ 100000 := by omega
  have h5 := Int.mul_le_mul h4 h2 h1 (by decide : (0 : Int) ≤ 100000)
  exact Int.le_trans h5 (by decide)
def ipIC (C : Int → Int → Prop) (f : Int → Int → Int) : TIp := fun x y H Q => ∃ i j, x = .int i ∧ y = .int j ∧ C i j ∧ Q (.int (f i j)) H
section
variable {X : Cx}
theorem ip_mulW : PIp X .Mult (ipIC CMulW fun i j => i * j) := by
  intro pins s σ H x y v u Q I r1 r2 h
  obtain ⟨i, j, e1, e2, c, q⟩ := h
  subst e1; subst e2
  obtain ⟨t, rfl⟩ := r1
  obtain ⟨t', rfl⟩ := r2
  exact imul_int ⟨.int _, H, I.tok _, ⟨_, rfl⟩, q⟩ c.ok
theorem ip_fdivW : PIp X .FloorDiv (ipIC CDivW fun i j => i / j) := by
  intro pins s σ H x y v u Q I r1 r2 h
  obtain ⟨i, j, e1, e2, c, q⟩ := h
  subst e1; subst e2
  obtain ⟨t, rfl⟩ := r1
  obtain ⟨t', rfl⟩ := r2
  have h1 : (0 : Int) < j := c.1
  refine ifloordiv_int (by omega) ?_ (.inl (PyProof.noPylong_of_log2 c.2))
  rw [Int.fdiv_eq_ediv_of_nonneg i (by omega)]
  exact ⟨.int _, H, I.tok _, ⟨_, rfl⟩, q⟩
end
/-- numbers below 2 ^ n have a small log2 -/
theorem lg_lt {i : Int} {n : Nat} (h : i.natAbs < 2 ^ n) (h0 : 0 < n) : i.natAbs.log2 < n := PySem.Flt.log2_lt_of h0 h

/-! ## sizes -/
/-- at most b bits -/
def Sm (b : Nat) (i : Int) : Prop := i.natAbs < 2 ^ b
theorem Sm.mono {a b : Nat} {i : Int} (h : Sm a i) (hab : a ≤ b) : Sm b i := Nat.lt_of_lt_of_le h (Nat.pow_le_pow_right (by decide) hab)
theorem Sm.lg {b : Nat} {i : Int} (h : Sm b i) (h0 : 0 < b) : i.natAbs.log2 < b := PySem.Flt.log2_lt_of h0 h
theorem Sm.add {b : Nat} {i j : Int} (h : Sm b i) (h' : Sm b j) : Sm (b + 1) (i + j) := by
  have e : 2 ^ (b + 1) = 2 ^ b + 2 ^ b := by rw [Nat.pow_succ]; omega
  unfold Sm at *
  omega
theorem Sm.neg {b : Nat} {i : Int} (h : Sm b i) : Sm b (-i) := by
  unfold Sm at *
  rw [Int.natAbs_neg]
  exact h
theorem Sm.sub {b : Nat} {i j : Int} (h : Sm b i) (h' : Sm b j) : Sm (b + 1) (i - j) := by
  rw [Int.sub_eq_add_neg]
  exact h.add h'.neg
theorem Sm.mul {a b : Nat} {i j : Int} (h : Sm a i) (h' : Sm b j) : Sm (a + b) (i * j) := by
  unfold Sm at *
  rw [Int.natAbs_mul, Nat.pow_add]
  exact Nat.mul_lt_mul'' h h'
theorem Sm.le {b : Nat} {i j : Int} (h : Sm b j) (h0 : 0 ≤ i) (hij : i ≤ j) : Sm b i := by
  unfold Sm at *
  omega
theorem Sm.wide {a b : Nat} {i j : Int} (h : Sm a i) (h' : Sm b j) (ha : 0 < a) (hb : 0 < b) (hab : a + b ≤ 1000000) : CMulW i j := by
  have h1 := h.lg ha
  have h2 := h'.lg hb
  unfold CMulW
  omega
/-- a small number -/
theorem Sm.of {b : Nat} {i : Int} (h : i.natAbs < 2 ^ 10) (hb : 10 ≤ b) : Sm b i := Sm.mono (a := 10) h hb
theorem div_ok {i k : Int} (h : 0 < k) (h2 : k < 2 ^ 240) : CDivW i k := ⟨h, Nat.lt_trans ((show Sm 240 k by unfold Sm; omega).lg (by decide)) (by decide)⟩
theorem pow_ok {b : Nat} {i j : Int} (h : Sm b i) (h0 : 0 < b) (hb : b ≤ 100000) (j0 : 0 ≤ j) (j1 : j ≤ 1000) : CPowW i j := ⟨j0, j1, Nat.lt_of_lt_of_le (h.lg h0) hb⟩
/-! ## rules whose reading speaks of the written part K itself (a comprehension's block has it too) -/
section
variable {X : Cx} {K : PySem.W.Frag}
theorem ix_listK (h : X.K = K := by rfl) : IxR X (rIxL K) := by subst h; exact ix_list
theorem ix_tupK (h : X.K = K := by rfl) : IxR X (rIxT K) := by subst h; exact ix_tup
theorem sl_listK (h : X.K = K := by rfl) : SlR X (rSlL K) := by subst h; exact sl_list
theorem sl_tupK (h : X.K = K := by rfl) : SlR X (rSlT K) := by subst h; exact sl_tup
def rLenQ (K : PySem.W.Frag) : List V → Hp → VK → Prop := fun xs H Q => ∃ p ys, xs = [.ref p] ∧ SqL K H p ys ∧ Q (.int ys.length) H
theorem len_seqK (h : X.K = K := by rfl) : CallR X (.builtin "len") (rLenQ K) := by
  subst h
  intro pins s σ H xs us Q I r q
  obtain ⟨p, ys, e, hs, q⟩ := q
  exact call_len_seq pins s σ H xs us Q I r ⟨p, ys, e, .inl hs, q⟩
/-- readings that are not to be opened by themselves -/
@[irreducible] def rEqQ (K : PySem.W.Frag) : R2 := rEqD K
@[irreducible] def rNeQ (K : PySem.W.Frag) : R2 := rNeD K
@[irreducible] def rInQ (K : PySem.W.Frag) : R2 := rInD K
@[irreducible] def rNotInQ (K : PySem.W.Frag) : R2 := rNotInD K
theorem rEqQ_of {H : Hp} {x y : V} {Q : VK} (h : rEqD K x y H Q) : rEqQ K x y H Q := by unfold rEqQ; exact h
theorem rNeQ_of {H : Hp} {x y : V} {Q : VK} (h : rNeD K x y H Q) : rNeQ K x y H Q := by unfold rNeQ; exact h
theorem rInQ_of {H : Hp} {x y : V} {Q : VK} (h : rInD K x y H Q) : rInQ K x y H Q := by unfold rInQ; exact h
theorem rNotInQ_of {H : Hp} {x y : V} {Q : VK} (h : rNotInD K x y H Q) : rNotInQ K x y H Q := by unfold rNotInQ; exact h
theorem op_eqDK (hu : X.A.units + 64 < cLine) (h : X.K = K := by rfl) : OpR X (compareOp .Eq) (rEqQ K) := by subst h; unfold rEqQ; exact op_eqD hu
theorem op_neDK (hu : X.A.units + 64 < cLine) (h : X.K = K := by rfl) : OpR X (compareOp .NotEq) (rNeQ K) := by subst h; unfold rNeQ; exact op_neD hu
theorem op_inDK (hu : X.A.units + 65 < cLine) (h : X.K = K := by rfl) : OpR X (compareOp .In) (rInQ K) := by subst h; unfold rInQ; exact op_inD hu
theorem op_notInDK (hu : X.A.units + 65 < cLine) (h : X.K = K := by rfl) : OpR X (compareOp .NotIn) (rNotInQ K) := by subst h; unfold rNotInQ; exact op_notInD hu
theorem isiK (h : X.K = K := by rfl) : CallR X (.builtin "isinstance") (rIsi K) := by subst h; exact call_isi
def rListOf (K : PySem.W.Frag) : List V → Hp → VK → Prop := fun xs H Q => ∃ p ys, xs = [.ref p] ∧ SqL K H p ys ∧ ∀ l, H l = none → Q (.ref l) (upd H l (.lst ys))
theorem list_ofK (h : X.K = K := by rfl) : CallR X (.type "list") (rListOf K) := by
  subst h
  intro pins s σ H xs us Q I r q
  obtain ⟨p, ys, e, hs, q⟩ := q
  exact call_list_of pins s σ H xs us Q I r ⟨p, ys, e, .inl hs, q⟩
theorem cr_sumK (hc : X.calm = true) (h : X.K = K := by rfl) : CallR X (.builtin "sum") (rSum K) := by subst h; exact cr_sum hc
theorem cr_maxK (hc : X.calm = true) (h : X.K = K := by rfl) : CallR X (.builtin "max") (rMax K) := by subst h; exact cr_max hc
theorem cr_minK (hc : X.calm = true) (h : X.K = K := by rfl) : CallR X (.builtin "min") (rMin K) := by subst h; exact cr_min hc
theorem cr_allK (hc : X.calm = true) (h : X.K = K := by rfl) : CallR X (.builtin "all") (rAll K) := by subst h; exact cr_all hc
theorem cr_anyK (hc : X.calm = true) (h : X.K = K := by rfl) : CallR X (.builtin "any") (rAny K) := by subst h; exact cr_any hc
theorem cr_sortedIK (h : X.K = K := by rfl) : CallR X (.builtin "sorted") (rSortedI K) := by subst h; exact cr_sortedI
variable {e a b : Expr} {te ta tb : TE} {es : List Expr} {t : TA} {tgs : TGs} {tg : Expr} {pos p q : Pos} {n : Nat}
theorem pi_listK (he : PE X e te) (h : X.K = K := by rfl) : PI X tg e (iList K te) := by subst h; exact pi_list he
theorem pg_tupK {k : Nat} (hc : X.calm = true) (hg : PGs X es tgs) (hn : (assignEach es X.env).length = n := by rfl) (hst : (assignEach es X.env).findIdx? (·.1) = none := by rfl) (h : X.K = K := by rfl) : PG X (.Tuple es k pos) (gTup K n tgs) := by
  subst h
  exact pg_tup hc hg hn hst
theorem pg_lstK {k : Nat} (hc : X.calm = true) (hg : PGs X es tgs) (hn : (assignEach es X.env).length = n := by rfl) (hst : (assignEach es X.env).findIdx? (·.1) = none := by rfl) (h : X.K = K := by rfl) : PG X (.Tuple es k pos) (gUnl K n tgs) := by
  subst h
  exact pg_unl hc hg hn hst
theorem pi_enumK {elts : List Expr} {kk : Nat} (hg : Gl X "enumerate") (hm : X.mg "enumerate" = none) (ha : PA X [e] t) (hs : starEach [e] X.env = [(false, eval e X.env)] := by rfl) (h : X.K = K := by rfl) :
    PI X (.Tuple elts kk p) (.Call (.Name "enumerate" q) [e] [] pos) (iEnum K t) := by
  subst h
  exact pi_enum hg hm ha hs
theorem pi_zipK {elts : List Expr} {kk : Nat} (hg : Gl X "zip") (hm : X.mg "zip" = none) (ha : PA X [a, b] t) (hs : starEach [a, b] X.env = (false, eval a X.env) :: starEach [b] X.env := by rfl)
    (hpl : (backTo pos (starEach [b] X.env)).any (·.1) = false := by rfl) (h : X.K = K := by rfl) : PI X (.Tuple elts kk p) (.Call (.Name "zip" q) [a, b] [] pos) (iZip K t) := by
  subst h
  exact pi_zip hg hm ha hs hpl
theorem pe_revLK {k : Nat} {p1 p2 p3 : Pos} (he : PE X e te) (h : X.K = K := by rfl) : PE X (.Subscript e (.Slice none none (some (.UnaryOp .USub (.Constant (.int 1) k p1) p2)) p3) pos) (tRevL K te) := by
  subst h
  exact pe_revL he
theorem pe_fldK {f : Str} (he : PE X e te) (hb : attributeBase e f X.env (eval e X.env) = eval e X.env := by rfl) (h : X.K = K := by rfl) : PE X (.Attribute e f pos) (tFld K te f) := by
  subst h
  exact pe_fld he hb
end

/-! ## heaps -/
/-- what holds between the turns of a loop (a wrapper: it is not taken apart by itself) -/
structure Keep (P : Prop) : Prop where
  o : P

theorem Same.get {H H' : Hp} {a : Addr} {o : HO} (s : Same H H') (h : H a = some o) : H' a = some o := s a o h
theorem same_new {H : Hp} {p : Addr} {o : HO} (h : H p = none) : Same H (upd H p o) := fun b u e => by
  rw [upd_ne (ne_of_none e h)]
  exact e
theorem upd_keep {H : Hp} {p a : Addr} {o u : HO} (n : H p = none) (h : H a = some u) : upd H p o a = some u := same_new n a u h
theorem upd_off {H : Hp} {p a : Addr} {o u : HO} (n : a ≠ p) (h : H a = some u) : upd H p o a = some u := by
  rw [upd_ne n]
  exact h
/-- a source of draws: what is true of it, where it stands -/
structure Rg where
  I : Hp → Prop
  S : Addr → Prop
  loc : ∀ H H' : Hp, (∀ a, S a → H' a = H a) → I H → I H'
  has : ∀ (H : Hp) (a : Addr), I H → S a → H a ≠ none
/-- the heap H is the quiet part G and the source -/
structure Sep (R : Rg) (G H : Hp) : Prop where
  inv : R.I H
  same : Same G H
  off : ∀ a, R.S a → G a = none
section
variable {R : Rg} {G G' H H' : Hp} {p a : Addr} {o u : HO}
theorem Sep.get (s : Sep R G H) (h : G a = some o) : H a = some o := s.same a o h
theorem Sep.free (s : Sep R G H) (h : H p = none) : G p = none := s.same.free h
theorem Sep.weak (s : Sep R G H) (h : Same G' G) : Sep R G' H := ⟨s.inv, h.trans s.same, fun a ha => by
  cases q : G' a with
  | none => rfl
  | some o =>
    have z := h a o q
    rw [s.off a ha] at z
    cases z⟩
theorem Sep.new (s : Sep R G H) (h : H p = none) (o : HO) : Sep R (upd G p o) (upd H p o) := by
  have np : ∀ a, R.S a → a ≠ p := fun a ha e => R.has H a s.inv ha (by rw [e]; exact h)
  refine ⟨R.loc H _ (fun a ha => upd_ne (np a ha)) s.inv, fun b x e => ?_, fun a ha => by rw [upd_ne (np a ha)]; exact s.off a ha⟩
  by_cases hb : b = p
  · rw [hb, upd_same] at e
    rw [hb, upd_same]
    exact e
  · rw [upd_ne hb] at e
    rw [upd_ne hb]
    exact s.same b x e
/-- a store into an object of the quiet part -/
theorem Sep.put (s : Sep R G H) (h : G p = some u) (o : HO) : Sep R (upd G p o) (upd H p o) := by
  have np : ∀ a, R.S a → a ≠ p := fun a ha e => by
    have z := s.off a ha
    rw [e, h] at z
    cases z
  refine ⟨R.loc H _ (fun a ha => upd_ne (np a ha)) s.inv, fun b x e => ?_, fun a ha => by rw [upd_ne (np a ha)]; exact s.off a ha⟩
  by_cases hb : b = p
  · rw [hb, upd_same] at e
    rw [hb, upd_same]
    exact e
  · rw [upd_ne hb] at e
    rw [upd_ne hb]
    exact s.same b x e
/-- behind something that only makes new things -/
theorem Sep.on (s : Sep R G H) (h : Same H H') : Sep R G H' := by
  refine ⟨R.loc H _ (fun a ha => ?_) s.inv, s.same.trans h, s.off⟩
  cases q : H a with
  | none => exact absurd q (R.has H a s.inv ha)
  | some o => exact h a o q
theorem Sep.grow (s : Sep R G H) (h : Same H H') (n : H p = none) (e : H' p = some o) : Sep R (upd G p o) H' := by
  have s' := s.on h
  have np : ∀ a, R.S a → a ≠ p := fun a ha z => R.has H a s.inv ha (by rw [z]; exact n)
  refine ⟨s'.inv, fun b x q => ?_, fun a ha => by rw [upd_ne (np a ha)]; exact s.off a ha⟩
  by_cases hb : b = p
  · rw [hb, upd_same] at q
    rw [hb, e]
    exact q
  · rw [upd_ne hb] at q
    exact s'.same b x q
end
/-- a source of draws that is a list of three ints: digits, a mix, a count that is at most N -/
def R3 (r : Addr) (N a b c : Int) (H : Hp) : Prop := H r = some (.lst [.int a, .int b, .int c]) ∧ 0 ≤ a ∧ 0 ≤ b ∧ b < 2 ^ 100 ∧ 0 ≤ c ∧ c ≤ N
def rg3 (r : Addr) (N : Int) : Rg where
  I := fun H => ∃ a b c, R3 r N a b c H
  S := fun x => x = r
  loc := fun H H' e ⟨a, b, c, h1, h2⟩ => ⟨a, b, c, (e r rfl).trans h1, h2⟩
  has := fun H x ⟨a, b, c, h1, _⟩ hx => by
    subst hx
    rw [h1]
    exact fun z => nomatch z
theorem Sep3.redo {r : Addr} {N N' : Int} {G H : Hp} {o : HO} (s : Sep (rg3 r N) G H) (h : ∃ a b c, R3 r N' a b c (upd H r o)) : Sep (rg3 r N') G (upd H r o) := by
  refine ⟨h, fun b u q => ?_, s.off⟩
  have nr : b ≠ r := fun z => by
    have := s.off b z
    rw [q] at this
    cases this
  rw [upd_ne nr]
  exact s.same b u q
theorem Sep3.mono {r : Addr} {N N' : Int} {G H : Hp} (s : Sep (rg3 r N) G H) (h : N ≤ N') : Sep (rg3 r N') G H := by
  obtain ⟨a, b, c, h1, h2, h3, h4, h5, h6⟩ := s.inv
  exact ⟨⟨a, b, c, h1, h2, h3, h4, h5, by omega⟩, s.same, s.off⟩
/-- a draw from it -/
def spDraw3 : Sp := fun vs H Q _ => ∃ (r : Addr) (m N : Int) (G : Hp), vs = [.ref r, .int m] ∧ Sep (rg3 r N) G H ∧ Keep (0 < m ∧ m < 2 ^ 240 ∧ N < 2 ^ 60) ∧ ∀ v H', 0 ≤ v → v < m → Sep (rg3 r (N + 1)) G H' → Q (.int v) H'
theorem seqL_of {K : PySem.W.Frag} {H : Hp} {a : Addr} {xs : List V} (h : H a = some (.lst xs)) : SqL K H a xs := .inl (.inl h)
/-- ints as values -/
abbrev iv (ns : List Int) : List V := ns.map V.int
theorem iv_app (ns : List Int) (x : Int) : iv ns ++ [V.int x] = iv (ns ++ [x]) := by simp
theorem iv_len (ns : List Int) : (iv ns).length = ns.length := List.length_map _
theorem iv_get {ns : List Int} {i : Nat} {x : V} (h : (iv ns)[i]? = some x) : ∃ n, ns[i]? = some n ∧ x = .int n := by
  rw [List.getElem?_map] at h
  cases e : ns[i]? with
  | none =>
    rw [e] at h
    cases h
  | some n =>
    rw [e] at h
    exact ⟨n, rfl, (Option.some.inj h).symm⟩

theorem atI_iv {ns : List Int} {i : Int} (h0 : 0 ≤ i) (h1 : i < ns.length) : ∃ n, atI (iv ns) i = some (.int n) := by
  obtain ⟨j, rfl⟩ := Int.eq_ofNat_of_zero_le h0
  have hj : j < ns.length := by omega
  exact ⟨ns[j], atI_nat (by rw [List.getElem?_map, List.getElem?_eq_getElem hj]; rfl)⟩
theorem seqIx0 {n : Nat} (h : 0 < n) : seqIndex? 0 n = some 0 := by
  unfold seqIndex?
  simp
  omega
theorem lit_len {n : Nat} (h : n ≤ 1000) : n ≤ sizeLine := Nat.le_of_lt (small1000 h)
/-- for i, x in enumerate(xs) -/
theorem for_enum {K : PySem.W.Frag} {a : Addr} {xs : List V} {g : TG} {tb : TS} {D : Ends} {σ : L2.St} {H : Hp} (Pv : Nat → L2.St → Hp → Prop) (h0 : Pv 0 σ H) (hq : ∀ i σ H, Pv i σ H → SqL K H a xs)
    (hs : ∀ (i : Nat) (x : V) (T : Addr) (σ : L2.St) (H : Hp), xs[i]? = some x → Pv i σ H → H T = none → g (.ref T) σ (upd H T (.tup [.int (i : Nat), x])) fun σ2 H2 => tb { D with nx := Pv (i + 1), ct := Pv (i + 1), bk := D.nx } σ2 H2) (hd : ∀ σ H, Pv xs.length σ H → D.nx σ H) :
    ∃ W : Nat → Nat → L2.St → Hp → Prop, (∃ m, W 0 m σ H) ∧ ∀ i m σ H, W i m σ H → ((Ite K a).stop i H ∧ D.nx σ H) ∨
      ((Ite K a).go i H ∧ ∃ N : L2.St → Hp → Prop, (∀ σ' H', N σ' H' → ∃ m', m' < m ∧ W (i + 1) m' σ' H') ∧ ∀ v H', (Ite K a).yld i H v H' → g v σ H' fun σ2 H2 => tb { D with nx := N, ct := N, bk := D.nx } σ2 H2) := by
  refine ⟨fun i m σ H => m + i = xs.length ∧ Pv i σ H, ⟨xs.length, rfl, h0⟩, fun i m σ H hW => ?_⟩
  obtain ⟨em, p⟩ := hW
  have q := hq i σ H p
  by_cases lt : i < xs.length
  · have ex : xs[i]? = some xs[i] := List.getElem?_eq_getElem lt
    refine .inr ⟨⟨xs, _, q, ex⟩, Pv (i + 1), fun σ' H' p' => ⟨m - 1, by omega, by omega, p'⟩, fun v H' hy => ?_⟩
    obtain ⟨T, x, rfl, nT, rfl, f⟩ := hy
    exact hs i x T σ H (f xs q) p nT
  · have ei : i = xs.length := by omega
    subst ei
    exact .inl ⟨⟨xs, q, Nat.le_refl _⟩, hd σ H p⟩

/-! ## repr of data, where no repr is under way -/
@[irreducible] def rReprD (K : PySem.W.Frag) : List V → Hp → VK → Prop := fun xs H Q => ∃ (a : Addr) (d : PyData), xs = [.ref a] ∧ Dp K H (.ref a) d ∧ d.showable = true ∧ d.hasDict = false ∧ d.depth ≤ 30 ∧ d.shown.length ≤ sizeLine ∧ Q (.str d.shown) H
theorem call_reprDK {X : Cx} {K : PySem.W.Frag} (hG : X.A.guards = some []) (hu : X.A.units + 64 < cLine) (h : X.K = K := by rfl) : CallR X (.builtin "repr") (rReprD K) := by
  subst h
  intro pins s σ H xs us Q I r h
  unfold rReprD at h
  obtain ⟨a, d, rfl, hd, hs, hn, hdp, hz, q⟩ := h
  obtain ⟨v, rfl, rv⟩ := vals1 r
  cases rv
  obtain ⟨as, rd⟩ := Dp.reads I d _ _ hd rfl
  refine repr_of_reads' rd hs (PyData.noDict_hsm hn) hG (by omega) (fun b o e => e) (fun h' t tk hk => ?_) hz
  exact ⟨.str d.shown, H, I.kept hk, ⟨_, rfl⟩, q⟩
/-! ## lists of ints as data -/
def dI (ns : List Int) : PyData := .list (ns.map .int)
theorem dpall_iv {K : PySem.W.Frag} {H : Hp} : ∀ ns : List Int, DpAll K H (iv ns) (ns.map .int)
  | [] => .nil
  | n :: r => .cons (.int n) (dpall_iv r)
theorem dp_iv {K : PySem.W.Frag} {H : Hp} {a : Addr} {ns : List Int} (h : SqL K H a (iv ns)) : Dp K H (.ref a) (dI ns) := .lst h (dpall_iv ns)
theorem can_ints : ∀ ns : List Int, PyData.canLayAll0 (ns.map .int) = true
  | [] => by simp [PyData.canLayAll0]
  | n :: r => by simp [PyData.canLayAll0, PyData.canLay0, can_ints r]
theorem dep_ints : ∀ ns : List Int, PyData.depthAll (ns.map .int) = 0
  | [] => by simp [PyData.depthAll]
  | n :: r => by simp [PyData.depthAll, PyData.depth, dep_ints r]
theorem eqv_ints : ∀ xs ys : List Int, PyData.eqvAll (xs.map .int) (ys.map .int) = decide (xs = ys)
  | [], [] => by simp [PyData.eqvAll]
  | [], _ :: _ => by simp [PyData.eqvAll]
  | _ :: _, [] => by simp [PyData.eqvAll]
  | x :: r, y :: t => by
    have ih := eqv_ints r t
    simp only [List.map_cons, PyData.eqvAll, PyData.eqv, ih, List.cons.injEq]
    by_cases e : x = y <;> by_cases e2 : r = t <;> simp [e, e2]
theorem shaped_dI (ns : List Int) : SeqAt.shaped (dI ns) = true := by
  unfold SeqAt.shaped dI
  simp only [PyData.canLay0, can_ints, PyData.depth, dep_ints]
  decide
theorem eqv_dI (xs ys : List Int) : PyData.eqv (dI xs) (dI ys) = decide (xs = ys) := by
  unfold dI
  simp only [PyData.eqv, eqv_ints]
theorem shown_ints_len : ∀ ns : List Int, (∀ n ∈ ns, n.natAbs.log2 < 1920) → ((PyData.shownAll (ns.map .int)).map (·.length)).sum ≤ 2000 * ns.length ∧ (PyData.shownAll (ns.map .int)).length = ns.length
  | [], _ => by simp [PyData.shownAll]
  | n :: r, h => by
    obtain ⟨h1, h2⟩ := shown_ints_len r fun m hm => h m (List.mem_cons_of_mem _ hm)
    have e := int_text_length_le (k := 1920) (by decide) (h n (List.mem_cons_self ..))
    have e2 : (PyData.shown (.int n)).length ≤ 2000 := by
      show (Str.ofString (toString n)).length ≤ 2000
      rw [PySem.ofString_length]
      omega
    simp only [List.map_cons, PyData.shownAll, List.sum_cons, List.length_cons]
    omega
theorem show_ints : ∀ ns : List Int, (∀ n ∈ ns, n.natAbs.log2 < 1920) → PyData.showableAll (ns.map .int) = true
  | [], _ => by simp [PyData.showableAll]
  | n :: r, h => by simp [PyData.showableAll, PyData.showable, h n (List.mem_cons_self ..), show_ints r fun m hm => h m (List.mem_cons_of_mem _ hm)]
theorem nod_ints : ∀ ns : List Int, PyData.hasDictAll (ns.map .int) = false
  | [] => by simp [PyData.hasDictAll]
  | n :: r => by simp [PyData.hasDictAll, PyData.hasDict, nod_ints r]
theorem r_eqI {K : PySem.W.Frag} {H : Hp} {a b : Addr} {xs ys : List Int} {Q : VK} (h1 : SqL K H a (iv xs)) (h2 : SqL K H b (iv ys)) (q : Q (.bl (decide (xs = ys))) H) : rEqQ K (.ref a) (.ref b) H Q :=
  rEqQ_of ⟨dI xs, dI ys, dp_iv h1, dp_iv h2, shaped_dI xs, shaped_dI ys, by rw [eqv_dI]; exact q⟩
theorem r_neI {K : PySem.W.Frag} {H : Hp} {a b : Addr} {xs ys : List Int} {Q : VK} (h1 : SqL K H a (iv xs)) (h2 : SqL K H b (iv ys)) (q : Q (.bl (!decide (xs = ys))) H) : rNeQ K (.ref a) (.ref b) H Q :=
  rNeQ_of ⟨dI xs, dI ys, dp_iv h1, dp_iv h2, shaped_dI xs, shaped_dI ys, by rw [eqv_dI]; exact q⟩
theorem r_repr {K : PySem.W.Frag} {H : Hp} {a : Addr} {ns : List Int} {Q : VK} (h1 : SqL K H a (iv ns)) (hl : ns.length ≤ 5000) (hz : ∀ n ∈ ns, n.natAbs.log2 < 1920) (q : Q (.str (dI ns).shown) H) : rReprD K [.ref a] H Q := by
  unfold rReprD
  refine ⟨a, dI ns, rfl, dp_iv h1, ?_, ?_, ?_, ?_, q⟩
  · simp only [dI, PyData.showable]
    exact show_ints ns hz
  · simp only [dI, PyData.hasDict]
    exact nod_ints ns
  · simp only [dI, PyData.depth, dep_ints]
    decide
  · obtain ⟨e1, e2⟩ := shown_ints_len ns hz
    have e3 := listText_len_le (PyData.shownAll (ns.map .int))
    simp only [dI, PyData.shown]
    rw [sizeLine_eq]
    omega
mutual
theorem dp_same {K : PySem.W.Frag} {H H' : Hp} (s : Same H H') : ∀ (d : PyData) (x : V), Dp K H x d → Dp K H' x d
  | .none, _, h => by cases h; exact .non
  | .bool _, _, h => by cases h; exact .bl _
  | .int _, _, h => by cases h; exact .int _
  | .str _, _, h => by cases h; exact .str _
  | .list ds, _, h => by
    cases h with
    | lst a b => exact .lst (s.seq a) (dpall_same s ds _ b)
  | .tuple ds, _, h => by
    cases h with
    | tup a b =>
      refine .tup ?_ (dpall_same s ds _ b)
      rcases a with (a | ⟨o, a⟩) | a
      · exact .inl (.inl (s _ _ a))
      · exact .inl (.inr ⟨o, s _ _ a⟩)
      · exact .inr a
  | .dict _, _, h => nomatch h
theorem dpall_same {K : PySem.W.Frag} {H H' : Hp} (s : Same H H') : ∀ (ds : List PyData) (xs : List V), DpAll K H xs ds → DpAll K H' xs ds
  | [], _, h => by cases h; exact .nil
  | d :: ds, _, h => by
    cases h with
    | cons a b => exact .cons (dp_same s d _ a) (dpall_same s ds _ b)
end
theorem dpall_len {K : PySem.W.Frag} {H : Hp} : ∀ (ds : List PyData) (xs : List V), DpAll K H xs ds → xs.length = ds.length
  | [], _, h => by cases h; rfl
  | d :: ds, _, h => by
    cases h with
    | cons a b => rw [List.length_cons, List.length_cons, dpall_len ds _ b]
theorem dpall_get {K : PySem.W.Frag} {H : Hp} : ∀ (ds : List PyData) (xs : List V), DpAll K H xs ds → ∀ (i : Nat) (d : PyData), ds[i]? = some d → ∃ x, xs[i]? = some x ∧ Dp K H x d
  | [], _, _, _, _, e => by simp at e
  | d :: ds, _, h, i, d', e => by
    cases h with
    | cons a b =>
      cases i with
      | zero =>
        have z : d = d' := by simpa using e
        subst z
        exact ⟨_, rfl, a⟩
      | succ i => exact dpall_get ds _ b i d' (by simpa using e)
theorem tyx_lst {K : PySem.W.Frag} {H : Hp} {a : Addr} {xs : List V} (h : SqL K H a xs) : TyX K H (.ref a) (.type "list") := by
  rcases h with (h | ⟨o, h⟩) | ⟨o, its, n, h1, h2, _⟩
  · exact .base (.lst h)
  · exact .base (.frz h)
  · exact .kList h1 h2
theorem tyx_tup {K : PySem.W.Frag} {H : Hp} {a : Addr} {xs : List V} (h : SqT K H a xs) : TyX K H (.ref a) (.type "tuple") := by
  rcases h with (h | ⟨o, h⟩) | ⟨o, its, n, h1, h2, _⟩
  · exact .base (.tup h)
  · exact .fTuple h
  · exact .kTuple h1 h2
theorem kit_no {K : PySem.W.Frag} : PySem.W.kitOne K (.type "int") (.type "bool") = some false ∧ PySem.W.kitOne K (.type "str") (.type "bool") = some false ∧ PySem.W.kitOne K (.type "list") (.type "bool") = some false ∧
    PySem.W.kitOne K (.type "bool") (.type "int") = some true ∧ PySem.W.kitOne K (.type "int") (.type "int") = some true := ⟨rfl, rfl, rfl, rfl, rfl⟩
/-! ## tests -/
theorem ifD {p A B : Prop} [Decidable p] (h1 : p → A) (h2 : ¬ p → B) : if decide p = true then A else B := by
  by_cases h : p
  · rw [decide_eq_true h]; exact iteT (h1 h)
  · rw [decide_eq_false h]; exact iteF (h2 h)
theorem ifN {p A B : Prop} [Decidable p] (h1 : ¬ p → A) (h2 : p → B) : if (!decide p) = true then A else B := by
  by_cases h : p
  · rw [decide_eq_true h]; exact iteF (h2 h)
  · rw [decide_eq_false h]; exact iteT (h1 h)
theorem ifI {i j : Int} {A B : Prop} (h1 : i = j → A) (h2 : i ≠ j → B) : if decide (V.int i = V.int j) = true then A else B :=
  ifD (fun e => h1 (V.int.inj e)) fun e => h2 fun z => e (congrArg V.int z)
theorem ifIN {i j : Int} {A B : Prop} (h1 : i ≠ j → A) (h2 : i = j → B) : if (!decide (V.int i = V.int j)) = true then A else B :=
  ifN (fun e => h1 fun z => e (congrArg V.int z)) fun e => h2 (V.int.inj e)
/-! ## defs that may ask for repr: called where no repr is under way -/
structure FnG (P : Program) (w : World) (K : PySem.W.Frag) (mg : Str → Option Value) (base : Heap) (CX : CXT) (k : Nat) (f : Addr) (fd : FuncData) (ps : List Str) (sp : Sp) : Prop where
  len : ∀ vs H Q E, sp vs H Q E → vs.length = ps.length
  run : ∀ (A : Around) (outer : List Env) (s : Shared) (H : Hp) (args : Args) (us : List Value) (vs : List V) (Q : VK) (E : XK), Room k A → A.guards = some [] →
    Env0 P w K mg base A outer s H → BindsTo s fd args (ps.zip us) → Vals vs us → sp vs H Q E → codeAny (model P w) A (.call (.ref f) args) (CR CX outer P w H s Q E) s
section
variable {P : Program} {w : World} {K : PySem.W.Frag} {mg : Str → Option Value} {base : Heap} {CX : CXT}
theorem FnG.of {k : Nat} {f : Addr} {fd : FuncData} {ps : List Str} {sp : Sp} (F : FnOk P w K mg base CX k f fd ps sp) : FnG P w K mg base CX k f fd ps sp :=
  ⟨F.len, fun A outer s H args us vs Q E hr _ => F.run A outer s H args us vs Q E hr⟩
theorem fnG_of {k : Nat} {f : Addr} {nm qual : Str} {pms : Arguments} {body : List Stmt} {sc : Scope} {dV kV dc pm cdv ct oc : Value} {an od : Option Addr} {sl : Array (Option Value)} {N ps : List Str} {sp : Sp}
    (lk : K.lookup f = some ⟨oc, od, .func (PySem.W.fnOf nm qual pms body sc dV kV dc pm an cdv ct), sl⟩) (hcd : PySem.W.codeIn K cdv qual = true) (S : FnScope N ps sc) (len : ∀ vs H Q E, sp vs H Q E → vs.length = ps.length)
    (hb : ∀ (A : Around) (outer : List Env) (s : Shared) (H : Hp) (vs : List V) (Q : VK) (E : XK), A.guards = some [] → Room k (A.deeper (envOfC qual sc s.heap.objs.size f cdv)) → sp vs H Q E →
      ∃ t, PSs (cxOf CX P w K mg base N qual sc f cdv A outer s H E) body t ∧ t { nx := fun _ H' => Q .non H', rt := Q } (start N vs) H) :
    FnG P w K mg base CX (k + 1) f (PySem.W.fnOf nm qual pms body sc dV kV dc pm an cdv ct) ps sp := by
  refine ⟨len, ?_⟩
  intro A out s H args us vs Q E room hG env bnd rel pre
  have ln := len _ _ _ _ pre
  have kin : K.In s.heap := env.mod.kin.keeps fun b o e => (env.bs b o e).1
  have nl : s.heap.NoLimit := env.mod.nolimit.keeps fun b o e => (env.bs b o e).1
  have kinds : ∀ y ∈ ps.zip us, sc.names.lookup y.1 = some .local ∨ (sc.names.lookup y.1 = some .cell ∧ ((cellsFrom (s.heap.objs.size + 1) sc.names []).lookup y.1).isSome = true) := by
    rintro ⟨x, v⟩ hy
    rcases S.par x (List.of_mem_zip hy).1 with z | z
    · exact .inl z
    · exact .inr ⟨z, PySem.W.cellsFrom_some _ _ _ (.inl z)⟩
  refine codeAny_call_function room.depth (kin _ _ lk) rfl S.co S.gen rfl (PySem.W.codeRec_of kin hcd) (bnd _ _ _ _ ?_)
  refine wpAny_newFunctionEnv_cells S.kind kinds fun en hen s1 x1 => ?_
  cases hen
  refine ⟨nl.keeps x1.toInCall.keep, codeAny_func ?_⟩
  obtain ⟨t, ht, hq⟩ := hb A out s H vs Q E hG (room.deeper _) pre
  have J0 : Inv (cxOf CX P w K mg base N qual sc f cdv A out s H E) [] (start N vs) H s1 := inv_start S room.hd env ln rel x1
  refine wpAny_mono (ht.run [] s1 (start N vs) H _ J0 hq) (fun fl s2 hs => ?_) fun e s2 hs => hs
  cases fl with
  | ret u =>
    obtain ⟨v, τ, H2, J, rv, q⟩ := hs
    exact ⟨v, H2, J.os, J.bare, J.base, J.hok, rv, q⟩
  | next =>
    obtain ⟨τ, H2, J, q⟩ := hs
    exact ⟨V.non, H2, J.os, J.bare, J.base, J.hok, rfl, q⟩
  | brk =>
    obtain ⟨_, _, _, q⟩ := hs
    cases q
  | cont =>
    obtain ⟨_, _, _, q⟩ := hs
    cases q
end
/-! ## a def of the text: where it stands; its promise -/
structure DefAt (K : PySem.W.Frag) (mg : Str → Option Value) (x : Str) (st : Stmt) (ps : List Str) : Prop where
  ex : ∃ (f : Addr) (fd : FuncData), Fun K x x st f fd ∧ mg x = some (.ref f) ∧ Binds K fd ps []
/-- a def that may be called by its name; dvs: the defaults that fill up -/
structure Cal (P : Program) (w : World) (K : PySem.W.Frag) (mg : Str → Option Value) (base : Heap) (k : Nat) (x : Str) (sp : Sp) (dvs : List V) : Prop where
  ex : ∃ (f : Addr) (fd : FuncData) (ps : List Str) (ds : List Value), FnOk P w K mg base CX0 k f fd ps sp ∧ mg x = some (.ref f) ∧ PySem.W.keepIn K (.ref f) = true ∧ L2.Binds K fd ps ds ∧ Vals dvs ds
/-- a def that may be called by its name; it may ask for repr -/
structure CalG (P : Program) (w : World) (K : PySem.W.Frag) (mg : Str → Option Value) (base : Heap) (k : Nat) (x : Str) (sp : Sp) : Prop where
  ex : ∃ (f : Addr) (fd : FuncData) (ps : List Str), FnG P w K mg base CX0 k f fd ps sp ∧ mg x = some (.ref f) ∧ PySem.W.keepIn K (.ref f) = true ∧ Binds K fd ps []
section
variable {P : Program} {w : World} {K : PySem.W.Frag} {mg : Str → Option Value} {base : Heap}
theorem DefAt.cal {x : Str} {st : Stmt} {ps N : List Str} {k : Nat} {sp : Sp} (D : DefAt K mg x st ps) (S : FnScope N ps (defScope st)) (len : ∀ vs H Q E, sp vs H Q E → vs.length = ps.length)
    (hb : ∀ (f : Addr) (cdv : Value) (A : Around) (outer : List Env) (s : Shared) (H : Hp) (vs : List V) (Q : VK) (E : XK), Room k (A.deeper (envOfC x (defScope st) s.heap.objs.size f cdv)) → sp vs H Q E →
      ∃ t, PSs (cxOf CX0 P w K mg base N x (defScope st) f cdv A outer s H E).nox (defBody st) t ∧ t { nx := fun _ H' => Q .non H', rt := Q } (start N vs) H) : Cal P w K mg base (k + 1) x sp [] := by
  obtain ⟨f, fd, F, hm, b⟩ := D.ex
  exact ⟨f, fd, ps, [], F.ok S len fun cdv A outer s H vs Q E => hb f cdv A outer s H vs Q E, hm, F.kp, b, .nil⟩
theorem DefAt.calG {x : Str} {st : Stmt} {ps N : List Str} {k : Nat} {sp : Sp} (D : DefAt K mg x st ps) (S : FnScope N ps (defScope st)) (len : ∀ vs H Q E, sp vs H Q E → vs.length = ps.length)
    (hb : ∀ (f : Addr) (cdv : Value) (A : Around) (outer : List Env) (s : Shared) (H : Hp) (vs : List V) (Q : VK) (E : XK), A.guards = some [] → Room k (A.deeper (envOfC x (defScope st) s.heap.objs.size f cdv)) → sp vs H Q E →
      ∃ t, PSs (cxOf CX0 P w K mg base N x (defScope st) f cdv A outer s H E).nox (defBody st) t ∧ t { nx := fun _ H' => Q .non H', rt := Q } (start N vs) H) : CalG P w K mg base (k + 1) x sp := by
  obtain ⟨f, fd, ⟨⟨oc, od, kV, doc, pm, an, cdv, ct, osl, rfl, lk, hcd⟩, kp⟩, hm, b⟩ := D.ex
  refine ⟨f, _, ps, fnG_of lk hcd S len fun A outer s H vs Q E hG hr hsp => ?_, hm, kp, b⟩
  obtain ⟨t, h, q⟩ := hb f cdv A outer s H vs Q E hG hr hsp
  exact ⟨t, h.nox, q⟩
theorem okG {x qual : Str} {st : Stmt} {f : Addr} {fd : FuncData} {N ps : List Str} {k : Nat} {sp : Sp} (F : Fun K x qual st f fd) (S : FnScope N ps (defScope st)) (len : ∀ vs H Q E, sp vs H Q E → vs.length = ps.length)
    (hb : ∀ (cdv : Value) (A : Around) (outer : List Env) (s : Shared) (H : Hp) (vs : List V) (Q : VK) (E : XK), A.guards = some [] → Room k (A.deeper (envOfC qual (defScope st) s.heap.objs.size f cdv)) → sp vs H Q E →
      ∃ t, PSs (cxOf CX0 P w K mg base N qual (defScope st) f cdv A outer s H E).nox (defBody st) t ∧ t { nx := fun _ H' => Q .non H', rt := Q } (start N vs) H) : FnG P w K mg base CX0 (k + 1) f fd ps sp := by
  obtain ⟨⟨oc, od, kV, doc, pm, an, cdv, ct, osl, rfl, lk, hcd⟩, kp⟩ := F
  refine fnG_of lk hcd S len fun A outer s H vs Q E hG hr hsp => ?_
  obtain ⟨t, h, q⟩ := hb cdv A outer s H vs Q E hG hr hsp
  exact ⟨t, h.nox, q⟩
theorem calG_of {x : Str} {k : Nat} {sp : Sp} (c : Cal P w K mg base k x sp []) : CalG P w K mg base k x sp := by
  obtain ⟨f, fd, ps, ds, F, hm, kp, b, d⟩ := c.ex
  cases d
  exact ⟨f, fd, ps, FnG.of F, hm, kp, b⟩
theorem Cal.imp {x : Str} {k j : Nat} {sp sp' : Sp} {dvs : List V} (c : Cal P w K mg base k x sp dvs) (hk : k ≤ j) (h : ∀ vs H Q E, sp' vs H Q E → sp vs H Q E) : Cal P w K mg base j x sp' dvs := by
  obtain ⟨f, fd, ps, ds, F, hm, kp, b, d⟩ := c.ex
  exact ⟨f, fd, ps, ds, (F.mono hk).imp h, hm, kp, b, d⟩
end
section
variable {X : Cx} {k j : Nat} {x : Str} {sp : Sp} {p pos : Pos} {e : Expr} {es : List Expr} {t : TA}
theorem pe_c {dvs : List V} (c : Cal X.prog X.w X.K X.mg X.base k x sp dvs) (hr : Room j X.A) (hk : k ≤ j) (hg : Gl X x) (ha : PA X (e :: es) t)
    (hdb : (x == ("__debug__" : Str)) = false := by decide) (he : starEach (e :: es) X.env = (false, eval e X.env) :: starEach es X.env := by rfl) (hpl : (backTo pos (starEach es X.env)).any (·.1) = false := by rfl) :
    PE X (.Call (.Name x p) (e :: es) [] pos) (tCall sp dvs E0 t) := by
  obtain ⟨f, fd, ps, ds, F, hm, kp, bd, vd⟩ := c.ex
  exact L2.pe_call F (hr.mono hk) hg hm kp bd vd pass0 ha hdb he hpl
/-- a call of a def that may ask for repr -/
theorem pe_cG (c : CalG X.prog X.w X.K X.mg X.base k x sp) (hG : X.A.guards = some []) (hr : Room j X.A) (hk : k ≤ j) (hg : Gl X x) (ha : PA X (e :: es) t)
    (hdb : (x == ("__debug__" : Str)) = false := by decide) (he : starEach (e :: es) X.env = (false, eval e X.env) :: starEach es X.env := by rfl) (hpl : (backTo pos (starEach es X.env)).any (·.1) = false := by rfl) :
    PE X (.Call (.Name x p) (e :: es) [] pos) (tCall sp [] E0 t) := by
  obtain ⟨f, fd, ps, F, hm, kp, b⟩ := c.ex
  refine ⟨fun pins s σ H Q I h => wpAny_Call_Name_kw (ld_glob I hg hm ?_ hdb)⟩
  refine PySem.W.callWith_K (h₀ := X.base) I.ok.mod.kin kp (thn (ha.run pos pins s σ H _ I h) fun us s1 hx => ?_) he hpl
  obtain ⟨vs, H1, I1, r, q⟩ := hx
  rw [List.append_nil] at q
  have ln : us.length = ps.length := by rw [← r.length]; exact F.len _ _ _ _ q
  have bb : BindsTo s1 fd ⟨us, []⟩ (ps.zip us) := by
    have z := b s1 us I1.kIn (by rw [List.append_nil]; exact ln)
    rw [List.append_nil] at z
    exact z
  refine ⟨I1.kIn, wpAny_call (codeAny_mono (F.run X.A X.stack s1 H1 ⟨us, []⟩ us vs Q E0 (hr.mono hk) hG I1.env0 bb r q) fun r s' hq => ?_)⟩
  cases r with
  | error e => exact False.elim hq
  | ok fl =>
    cases fl with
    | ret u => exact I1.after hq
    | next => exact False.elim hq
    | brk => exact False.elim hq
    | cont => exact False.elim hq
end
/-! ## methods, properties, new objects -/
structure Met (P : Program) (w : World) (K : PySem.W.Frag) (mg : Str → Option Value) (base : Heap) (k : Nat) (C : Addr) (m : Str) (sp : Sp) : Prop where
  ex : ∃ (f : Addr) (fd : FuncData) (ps : List Str), Cls K C ∧ Meth K C m f ∧ FnOk P w K mg base CX0 k f fd ps sp ∧ L2.Binds K fd ps []
structure Prp (P : Program) (w : World) (K : PySem.W.Frag) (mg : Str → Option Value) (base : Heap) (k : Nat) (C : Addr) (m : Str) (sp : Sp) : Prop where
  ex : ∃ (f p : Addr) (fd : FuncData) (ps : List Str), Cls K C ∧ PropOf K C m p f ∧ FnOk P w K mg base CX0 k f fd ps sp ∧ L2.Binds K fd ps []
structure Mak (P : Program) (w : World) (K : PySem.W.Frag) (mg : Str → Option Value) (base : Heap) (k : Nat) (x : Str) (C : Addr) (sp : Sp) : Prop where
  ex : ∃ (f : Addr) (fd : FuncData) (ps : List Str), Mk K C f ∧ FnOk P w K mg base CX0 k f fd ps sp ∧ mg x = some (.ref C) ∧ L2.Binds K fd ps []
section
variable {X : Cx} {k j : Nat} {C : Addr} {x m : Str} {sp : Sp} {p pos apos : Pos} {e o : Expr} {es : List Expr} {ta : TE} {t : TA}
theorem pe_m {pl : Sem Bool} (c : Met X.prog X.w X.K X.mg X.base k C m sp) (hr : Room j X.A) (hk : k ≤ j) (he : PE X o ta) (ha : PA X (e :: es) t)
    (ht : eval (.Call (.Attribute o m apos) (e :: es) [] pos) X.env = (do
      let ov ← eval o X.env
      standAt apos.atName
      let (f, first) ← holding [ov] (getMethod ov m pl)
      callWith pos f first (backTo pos (starEach (e :: es) X.env)) (backToKw pos (keywordEach [] X.env))) := by rfl)
    (hst : starEach (e :: es) X.env = (false, eval e X.env) :: starEach es X.env := by rfl) (hpl : (backTo pos (starEach es X.env)).any (·.1) = false := by rfl) : PE X (.Call (.Attribute o m apos) (e :: es) [] pos) (tMeth C m sp [] E0 ta t) := by
  obtain ⟨f, fd, ps, c1, c2, F, b⟩ := c.ex
  exact L2.pe_meth (pl := pl) he c1 c2 F (hr.mono hk) b .nil pass0 ha hst hpl ht
theorem pe_mk (c : Mak X.prog X.w X.K X.mg X.base k x C sp) (hr : Room j X.A) (hk : k + 1 ≤ j) (hg : Gl X x) (ha : PA X (e :: es) t)
    (hdb : (x == ("__debug__" : Str)) = false := by decide) (he : starEach (e :: es) X.env = (false, eval e X.env) :: starEach es X.env := by rfl) (hpl : (backTo pos (starEach es X.env)).any (·.1) = false := by rfl) :
    PE X (.Call (.Name x p) (e :: es) [] pos) (tMake C sp [] E0 t) := by
  obtain ⟨f, fd, ps, M, F, hm, b⟩ := c.ex
  exact L2.pe_make M F (hr.mono hk) hg hm b .nil pass0 ha hdb he hpl
theorem pe_p (c : Prp X.prog X.w X.K X.mg X.base k C m sp) (hr : Room j X.A) (hk : k + 1 ≤ j) (he : PE X e ta) (hab : attributeBase e m X.env (eval e X.env) = eval e X.env := by rfl) : PE X (.Attribute e m pos) (tProp C sp [] E0 ta) := by
  obtain ⟨f, q, fd, ps, c1, c2, F, b⟩ := c.ex
  exact L2.pe_prop he c1 c2 F (hr.mono hk) b .nil pass0 hab
end
section
variable {X : Cx} {K : PySem.W.Frag} {C : Addr} {k j : Nat} {m f : Str} {sp : Sp} {ta tv : TE} {o value : Expr} {pos pos' apos tpos : Pos}
theorem pe_m0 {pl : Sem Bool} (c : Met X.prog X.w X.K X.mg X.base k C m sp) (hr : Room j X.A) (hk : k ≤ j) (he : PE X o ta)
    (ht : eval (.Call (.Attribute o m apos) [] [] pos) X.env = (do
      let ov ← eval o X.env
      standAt apos.atName
      let (f, first) ← holding [ov] (getMethod ov m pl)
      callWith pos f first (backTo pos (starEach [] X.env)) (backToKw pos (keywordEach [] X.env))) := by rfl) : PE X (.Call (.Attribute o m apos) [] [] pos) (tMeth C m sp [] E0 ta tNil) := by
  obtain ⟨f, fd, ps, c1, c2, F, b⟩ := c.ex
  exact L2.pe_meth0 (pl := pl) he c1 c2 F (hr.mono hk) b .nil pass0 ht
theorem ps_fldK (ha : PE X o ta) (hv : PE X value tv) (hs : swapsWith value (some (.Attribute o f pos')) pos.line X.env = pure false) (h : X.K = K := by rfl) : PS X (.Assign [.Attribute o f pos'] value pos) (sFld K ta tv f) := by
  subst h
  exact ps_fld ha hv hs
theorem ps_fldaugK {op : Operator} {rd : V → V → Hp → VK → Prop} (ha : PE X o ta) (hv : PE X value tv) (hop : InOp X op rd) (h : X.K = K := by rfl) : PS X (.AugAssign (.Attribute o f tpos) op value pos) (sFldAug K ta tv rd f) := by
  subst h
  exact ps_fldaug ha hv hop
end
/-- a method of the text -/
structure MetAt (K : PySem.W.Frag) (C : Addr) (m qual : Str) (st : Stmt) (ps : List Str) : Prop where
  ex : ∃ (f : Addr) (fd : FuncData), Fun K m qual st f fd ∧ Meth K C m f ∧ L2.Binds K fd ps []
section
variable {P : Program} {w : World} {K : PySem.W.Frag} {mg : Str → Option Value} {base : Heap} {C : Addr} {m x qual : Str} {st : Stmt} {ps N : List Str} {k : Nat} {sp : Sp}
theorem MetAt.met (D : MetAt K C m qual st ps) (cl : Cls K C) (S : FnScope N ps (defScope st)) (len : ∀ vs H Q E, sp vs H Q E → vs.length = ps.length)
    (hb : ∀ (f : Addr) (cdv : Value) (A : Around) (outer : List Env) (s : Shared) (H : Hp) (vs : List V) (Q : VK) (E : XK), Room k (A.deeper (envOfC qual (defScope st) s.heap.objs.size f cdv)) → sp vs H Q E →
      ∃ t, PSs (cxOf CX0 P w K mg base N qual (defScope st) f cdv A outer s H E).nox (defBody st) t ∧ t { nx := fun _ H' => Q .non H', rt := Q } (start N vs) H) : Met P w K mg base (k + 1) C m sp := by
  obtain ⟨f, fd, F, hm, b⟩ := D.ex
  exact ⟨f, fd, ps, cl, hm, F.ok S len fun cdv A outer s H vs Q E => hb f cdv A outer s H vs Q E, b⟩
end
/-- a class's __init__ of the text -/
structure IniAt (K : PySem.W.Frag) (mg : Str → Option Value) (C : Addr) (x qual : Str) (st : Stmt) (ps : List Str) : Prop where
  ex : ∃ (f : Addr) (fd : FuncData), Fun K "__init__" qual st f fd ∧ Mk K C f ∧ mg x = some (.ref C) ∧ L2.Binds K fd ps []
/-- a property of the text -/
structure PrpAt (K : PySem.W.Frag) (C : Addr) (m qual : Str) (st : Stmt) (ps : List Str) : Prop where
  ex : ∃ (f p : Addr) (fd : FuncData), Fun K m qual st f fd ∧ PropOf K C m p f ∧ L2.Binds K fd ps []
section
variable {P : Program} {w : World} {K : PySem.W.Frag} {mg : Str → Option Value} {base : Heap} {C : Addr} {m x qual : Str} {st : Stmt} {ps N : List Str} {k : Nat} {sp : Sp}
theorem IniAt.mak (D : IniAt K mg C x qual st ps) (S : FnScope N ps (defScope st)) (len : ∀ vs H Q E, sp vs H Q E → vs.length = ps.length)
    (hb : ∀ (f : Addr) (cdv : Value) (A : Around) (outer : List Env) (s : Shared) (H : Hp) (vs : List V) (Q : VK) (E : XK), Room k (A.deeper (envOfC qual (defScope st) s.heap.objs.size f cdv)) → sp vs H Q E →
      ∃ t, PSs (cxOf CX0 P w K mg base N qual (defScope st) f cdv A outer s H E).nox (defBody st) t ∧ t { nx := fun _ H' => Q .non H', rt := Q } (start N vs) H) : Mak P w K mg base (k + 1) x C sp := by
  obtain ⟨f, fd, F, hm, hg, b⟩ := D.ex
  exact ⟨f, fd, ps, hm, F.ok S len fun cdv A outer s H vs Q E => hb f cdv A outer s H vs Q E, hg, b⟩
theorem PrpAt.prp (D : PrpAt K C m qual st ps) (cl : Cls K C) (S : FnScope N ps (defScope st)) (len : ∀ vs H Q E, sp vs H Q E → vs.length = ps.length)
    (hb : ∀ (f : Addr) (cdv : Value) (A : Around) (outer : List Env) (s : Shared) (H : Hp) (vs : List V) (Q : VK) (E : XK), Room k (A.deeper (envOfC qual (defScope st) s.heap.objs.size f cdv)) → sp vs H Q E →
      ∃ t, PSs (cxOf CX0 P w K mg base N qual (defScope st) f cdv A outer s H E).nox (defBody st) t ∧ t { nx := fun _ H' => Q .non H', rt := Q } (start N vs) H) : Prp P w K mg base (k + 1) C m sp := by
  obtain ⟨f, p, fd, F, hm, b⟩ := D.ex
  exact ⟨f, p, fd, ps, cl, hm, F.ok S len fun cdv A outer s H vs Q E => hb f cdv A outer s H vs Q E, b⟩
end
/-- all but o stands -/
def But (o : Addr) (H H' : Hp) : Prop := ∀ b u, b ≠ o → H b = some u → H' b = some u
theorem But.refl (o : Addr) (H : Hp) : But o H H := fun _ _ _ h => h
theorem But.trans {o : Addr} {H H1 H2 : Hp} (a : But o H H1) (b : But o H1 H2) : But o H H2 := fun c u n h => b c u n (a c u n h)
theorem But.of {o : Addr} {H H1 : Hp} (s : Same H H1) : But o H H1 := fun b u _ h => s b u h
theorem But.put {o : Addr} {H : Hp} {u : HO} : But o H (upd H o u) := fun b x n h => by
  rw [upd_ne n]
  exact h
theorem But.seq {K : PySem.W.Frag} {o a : Addr} {H H' : Hp} {xs : List V} (b : But o H H') (n : a ≠ o) (h : H a = some (.lst xs)) : SqL K H' a xs := seqL_of (b a _ n h)
theorem Sep.but {R : Rg} {G H H' : Hp} {o : Addr} {u u' : HO} (s : Sep R G H) (h : G o = some u) (b : But o H H') (e : H' o = some u') : Sep R (upd G o u') H' := by
  have no : ∀ a, R.S a → a ≠ o := fun a ha z => by
    have q := s.off a ha
    rw [z, h] at q
    cases q
  refine ⟨R.loc H _ (fun a ha => ?_) s.inv, fun c x q => ?_, fun a ha => by rw [upd_ne (no a ha)]; exact s.off a ha⟩
  · cases q : H a with
    | none => exact absurd q (R.has H a s.inv ha)
    | some z => exact b a z (no a ha) q
  · by_cases hc : c = o
    · rw [hc, upd_same] at q
      rw [hc, e]
      exact q
    · rw [upd_ne hc] at q
      exact b c x hc (s.same c x q)

theorem Sep.add {R : Rg} {G0 H0 G H : Hp} {l : Addr} {u : HO} (s0 : Sep R G0 H0) (n : H0 l = none) (s : Sep R G H) (e : H l = some u) : Sep R (upd G l u) H := by
  have nl : ∀ a, R.S a → a ≠ l := fun a ha z => R.has H0 a s0.inv ha (by rw [z]; exact n)
  refine ⟨s.inv, fun b x q => ?_, fun a ha => by rw [upd_ne (nl a ha)]; exact s.off a ha⟩
  by_cases hb : b = l
  · rw [hb, upd_same] at q
    rw [hb, e]
    exact q
  · rw [upd_ne hb] at q
    exact s.same b x q

/-! ## calls by keywords alone -/
/-- a def called with the keywords ks alone: sp speaks of their values -/
structure CalK (P : Program) (w : World) (K : PySem.W.Frag) (mg : Str → Option Value) (base : Heap) (k : Nat) (x : Str) (ks : List Str) (sp : Sp) : Prop where
  ex : ∃ (f : Addr) (fd : FuncData) (ps : List Str) (spf : Sp) (g : List Value → List Value → List Value) (gV : List V → List V → List V),
    FnOk P w K mg base CX0 k f fd ps spf ∧ mg x = some (.ref f) ∧ PySem.W.keepIn K (.ref f) = true ∧ KBn K fd ps 0 ks g gV ∧ ∀ zs H Q E, sp zs H Q E → zs.length = ks.length ∧ spf (gV [] zs) H Q E
def tCk (sp : Sp) (tk : TA) : TE := fun σ H Q => tk σ H fun zs H1 => sp zs H1 Q E0
section
variable {X : Cx} {k j : Nat} {x : Str} {ks : List Str} {sp : Sp} {p pos : Pos} {kws : List Keyword} {tk : TA}
theorem pe_ck (c : CalK X.prog X.w X.K X.mg X.base k x ks sp) (hr : Room j X.A) (hk : k ≤ j) (hg : Gl X x) (hkw : PK X kws tk)
    (hall : (backToKw pos (keywordEach kws X.env)).all (·.1.isSome) = true := by rfl) (hks : (backToKw pos (keywordEach kws X.env)).filterMap (·.1) = ks := by rfl) (hdb : (x == ("__debug__" : Str)) = false := by decide)
    (hpl : ((backTo pos (starEach [] X.env)).any (·.1) || (backToKw pos (keywordEach kws X.env)).any (·.1.isNone)) = false := by rfl) : PE X (.Call (.Name x p) [] kws pos) (tCk sp tk) := by
  obtain ⟨f, fd, ps, spf, g, gV, F, hm, kp, hb, hs⟩ := c.ex
  refine ⟨fun pins s σ H Q I h => wpAny_Call_Name_kw (ld_glob I hg hm ?_ hdb)⟩
  refine PySem.W.callWith_KW0 (h₀ := X.base) I.ok.mod.kin kp hall (thn (hkw.run pos pins s σ H _ I h) fun ws s1 hx => ?_) hpl
  obtain ⟨zs, H1, I1, rz, q⟩ := hx
  obtain ⟨lz, q⟩ := hs _ _ _ _ q
  refine ⟨I1.kIn, ?_⟩
  rw [hks]
  exact run_fnN F (hr.mono hk) hb pass0 I1 .nil rz rfl lz q
end

/-! ## a def with defaults, called by place or by keywords -/
section
variable {P : Program} {w : World} {K : PySem.W.Frag} {mg : Str → Option Value} {base : Heap} {x qual : Str} {pms : Arguments} {body : List Stmt} {sc : Scope} {dvs : List V} {f : Addr} {fd : FuncData} {ps ks : List Str}
/-- all parameters by keywords; g brings the values in the parameters' order -/
theorem kbn_dflt (F : FunD K x qual pms body sc dvs [] f fd) (hd : dvs ≠ []) (g : {α : Type} → List α → List α) (hg : ∀ {vs : List V} {us : List Value}, Vals vs us → Vals (g vs) (g us))
    (h : ∀ (T : Addr) (kV doc pm : Value) (an : Option Addr) (cdv ct : Value) (ws its : List Value), ws.length = ks.length → its.length = dvs.length →
      ∃ k, bindArgs (PySem.W.fnOf x qual pms body sc (.ref T) kV doc pm an cdv ct) ⟨[], ks.zip ws⟩ = seqItems? (.ref T) >>= k ∧ k (some its.toArray) = pure (ps.zip (g ws))) : KBn K fd ps 0 ks (fun _ ws => g ws) (fun _ zs => g zs) := by
  obtain ⟨oc, od, dV, kV, doc, pm, an, cdv, ct, osl, rfl, lk, hcd, hD, hK⟩ := F.ex
  rcases hD with ⟨e, _⟩ | ⟨_, T, o, its, m, rfl, lT, oT, rT⟩
  · exact absurd e hd
  · refine ⟨fun s us ws X l1 l2 => ?_, fun r1 r2 => hg r2⟩
    cases us with
    | cons u us => cases l1
    | nil =>
      obtain ⟨k, e1, e2⟩ := h T kV doc pm an cdv ct ws its l2 rT.length.symm
      refine BindsTo.of_looks fun M => ?_
      rw [e1]
      exact looks_items X lT oT (.of_pure e2)
/-- .. of a def without defaults -/
theorem kbn_plain {st : Stmt} (F : Fun K x qual st f fd) (g : {α : Type} → List α → List α) (hg : ∀ {vs : List V} {us : List Value}, Vals vs us → Vals (g vs) (g us))
    (h : ∀ (kV doc pm : Value) (an : Option Addr) (cdv ct : Value) (ws : List Value), ws.length = ks.length →
      bindArgs (PySem.W.fnOf x qual (defArgs st) (defBody st) (defScope st) .none kV doc pm an cdv ct) ⟨[], ks.zip ws⟩ = pure (ps.zip (g ws))) : KBn K fd ps 0 ks (fun _ ws => g ws) (fun _ zs => g zs) := by
  obtain ⟨oc, od, kV, doc, pm, an, cdv, ct, osl, rfl, lk, hcd⟩ := F.ex
  refine ⟨fun s us ws X l1 l2 => ?_, fun r1 r2 => hg r2⟩
  cases us with
  | cons u us => cases l1
  | nil => exact .of_eq (h kV doc pm an cdv ct ws l2)
theorem calK_mk {k : Nat} {spf sp : Sp} {g : List Value → List Value → List Value} {gV : List V → List V → List V} (F : FnOk P w K mg base CX0 k f fd ps spf) (hm : mg x = some (.ref f)) (kp : PySem.W.keepIn K (.ref f) = true) (b : KBn K fd ps 0 ks g gV)
    (h : ∀ zs H Q E, sp zs H Q E → zs.length = ks.length ∧ spf (gV [] zs) H Q E) : CalK P w K mg base k x ks sp := ⟨f, fd, ps, spf, g, gV, F, hm, kp, b, h⟩
end
/-- a def without defaults that is called by place and by keywords -/
structure Def2 (P : Program) (w : World) (K : PySem.W.Frag) (mg : Str → Option Value) (base : Heap) (k : Nat) (x : Str) (st : Stmt) (ps : List Str) (sp : Sp) : Prop where
  ex : ∃ (f : Addr) (fd : FuncData), Fun K x x st f fd ∧ mg x = some (.ref f) ∧ Binds K fd ps [] ∧ FnOk P w K mg base CX0 k f fd ps sp
section
variable {P : Program} {w : World} {K : PySem.W.Frag} {mg : Str → Option Value} {base : Heap} {x : Str} {st : Stmt} {ps ks N : List Str} {k : Nat} {sp sp' : Sp}
theorem DefAt.two (D : DefAt K mg x st ps) (S : FnScope N ps (defScope st)) (len : ∀ vs H Q E, sp vs H Q E → vs.length = ps.length)
    (hb : ∀ (f : Addr) (cdv : Value) (A : Around) (outer : List Env) (s : Shared) (H : Hp) (vs : List V) (Q : VK) (E : XK), Room k (A.deeper (envOfC x (defScope st) s.heap.objs.size f cdv)) → sp vs H Q E →
      ∃ t, PSs (cxOf CX0 P w K mg base N x (defScope st) f cdv A outer s H E).nox (defBody st) t ∧ t { nx := fun _ H' => Q .non H', rt := Q } (start N vs) H) : Def2 P w K mg base (k + 1) x st ps sp := by
  obtain ⟨f, fd, F, hm, b⟩ := D.ex
  exact ⟨f, fd, F, hm, b, F.ok S len fun cdv A outer s H vs Q E => hb f cdv A outer s H vs Q E⟩
theorem Def2.cal (D : Def2 P w K mg base k x st ps sp) : Cal P w K mg base k x sp [] := by
  obtain ⟨f, fd, F, hm, b, ok⟩ := D.ex
  exact ⟨f, fd, ps, [], ok, hm, F.kp, b, .nil⟩
theorem Def2.calK (D : Def2 P w K mg base k x st ps sp) (g : {α : Type} → List α → List α) (hg : ∀ {vs : List V} {us : List Value}, Vals vs us → Vals (g vs) (g us))
    (h : ∀ (kV doc pm : Value) (an : Option Addr) (cdv ct : Value) (ws : List Value), ws.length = ks.length →
      bindArgs (PySem.W.fnOf x x (defArgs st) (defBody st) (defScope st) .none kV doc pm an cdv ct) ⟨[], ks.zip ws⟩ = pure (ps.zip (g ws))) (hs : ∀ zs H Q E, sp' zs H Q E → zs.length = ks.length ∧ sp (g zs) H Q E) : CalK P w K mg base k x ks sp' := by
  obtain ⟨f, fd, F, hm, b, ok⟩ := D.ex
  exact calK_mk ok hm F.kp (kbn_plain F g hg h) hs
end
theorem perm_sorted_eq : ∀ {xs ys : List Int}, xs.Perm ys → xs.Pairwise (· ≤ ·) → ys.Pairwise (· ≤ ·) → xs = ys
  | [], ys, p, _, _ => (List.nil_perm.mp p).symm
  | x :: r, [], p, _, _ => absurd (List.perm_nil.mp p) (by simp)
  | x :: r, y :: t, p, h1, h2 => by
    have a1 := (List.pairwise_cons.mp h1).1
    have a2 := (List.pairwise_cons.mp h2).1
    have m1 : x ∈ y :: t := p.mem_iff.mp (List.mem_cons_self ..)
    have m2 : y ∈ x :: r := p.mem_iff.mpr (List.mem_cons_self ..)
    have e : x = y := by
      rcases List.mem_cons.mp m1 with z | z
      · exact z
      · rcases List.mem_cons.mp m2 with z2 | z2
        · exact z2.symm
        · have := a1 y z2
          have := a2 x z
          omega
    subst e
    rw [perm_sorted_eq (List.Perm.cons_inv p) (List.pairwise_cons.mp h1).2 (List.pairwise_cons.mp h2).2]

/-! ## a law's end, of a law that may ask for repr -/
theorem law_endG {P : Program} {w : World} {K : PySem.W.Frag} {mg mb : Str → Option Value} {k : Nat} {fa a : Addr} {fd : FuncData} {x : Str} {sp : Sp} {s₁ : Shared} {vs : List Value} {ns : List Int}
    (KX : K.In s₁.heap) (hns : s₁.heap.Ns mainGlobals mg) (hb : s₁.heap.Ns builtinsNs mb) (hbb : ∀ x : Str, x ≠ "__name__" → mb x = bootBuiltins x) (hlim : s₁.heap.NoLimit) (hg : s₁.gens = #[])
    (ha : s₁.heap.get? a = some { cls := .type "list", data := .seq vs.toArray }) (hi : IntsAre vs ns) (hl : ns.length ≤ sizeLine) (hr : Room k callerA)
    (F : ∀ base : Heap, K.In base → base.Ns mainGlobals mg → FnG P w K mg base CX0 k fa fd [x] sp) (hbind : ∀ (s : Shared) (u : Value), BindsTo s fd ⟨[u], []⟩ [(x, u)])
    (hsp : ∀ H : Hp, Only H → SqL K H a (iv ns) → sp [.ref a] H (fun v _ => v = .bl true) fun _ _ _ => False) :
    codeAny (model P w) callerA (.call (.ref fa) ⟨[.ref a], []⟩) (fun r s' => r = .ok (.ret (.bool true)) ∧ OldK s₁.heap s'.heap ∧ s'.os = s₁.os ∧ AllBare s'.gens) s₁ := by
  have rel := vals_ints hi
  have same : ∀ H : Hp, Only H → SqL K H a (iv ns) → HOk P w H s₁.heap → (∀ b, H b ≠ none → b = a) → (H a ≠ none → K.lookup a = none) →
      codeAny (model P w) callerA (.call (.ref fa) ⟨[.ref a], []⟩) (fun r s' => r = .ok (.ret (.bool true)) ∧ OldK s₁.heap s'.heap ∧ s'.os = s₁.os ∧ AllBare s'.gens) s₁ := by
    intro H only sq hok at_a k_a
    have nonK : ∀ {b : Addr} {o : Obj}, K.lookup b = some o → H b = none := by
      intro b o e
      cases q : H b with
      | none => rfl
      | some u =>
        have z := at_a b (by rw [q]; simp)
        subst z
        rw [k_a (by rw [q]; simp)] at e
        cases e
    have nonD : ∀ {b : Addr} {o : Obj} {es : Array DictEntry} {ep : Nat}, s₁.heap.get? b = some o → o.data = .dict es ep → H b = none := by
      intro b o es ep e d
      cases q : H b with
      | none => rfl
      | some u =>
        have z := at_a b (by rw [q]; simp)
        subst z
        rw [ha] at e
        cases e
        cases d
    have nsB : ∀ {b : Addr} {m : Str → Option Value}, s₁.heap.Ns b m → (hidT s₁.heap H).Ns b m := by
      rintro b m ⟨o, es, ep, e, d, r⟩
      exact ⟨o, es, ep, hidT_get e (nonD e d), d, r⟩
    have kinB : K.In (hidT s₁.heap H) := fun b o e => hidT_get (KX b o e) (nonK e)
    have md : Mod K mg (hidT s₁.heap H) := by
      obtain ⟨mc, h1, h2⟩ := hlim
      exact ⟨kinB, nsB hns, ⟨mb, nsB hb, hbb⟩, ⟨mc, nsB h1, h2⟩⟩
    have noIn : ∀ b : Addr, b ∉ frs [] := fun b z => by cases z
    have env : Env0 P w K mg (hidT s₁.heap H) callerA [] s₁ H := ⟨rfl, md, fun b o e => of_hidT e, Nat.le_of_eq (hidT_size _ _), trivial, fun b z => absurd z (noIn b), hok, .of_eq hg⟩
    refine codeAny_mono ((F _ kinB (nsB hns)).run callerA [] s₁ H ⟨[.ref a], []⟩ [.ref a] [.ref a] _ _ hr rfl env (hbind s₁ (.ref a)) (.cons rfl .nil) (hsp H only sq)) fun r s' h => ?_
    cases r with
    | error e => exact False.elim h
    | ok fl =>
      cases fl with
      | next => exact False.elim h
      | brk => exact False.elim h
      | cont => exact False.elim h
      | ret u =>
        obtain ⟨v, H', os, bare, un, hok', rv, q⟩ := h
        have ev : v = .bl true := q
        subst ev
        have eu : u = Value.bool true := rv
        subst eu
        refine ⟨rfl, OldK.of_keep fun b o e => ?_, os, bare⟩
        cases q : H b with
        | none => exact un.keep b o e q (noIn b) (by simp)
        | some u =>
          rcases only b with z | ⟨ob, xs, z⟩
          · rw [q] at z
            cases z
          · obtain ⟨e1, _⟩ := hok b _ z
            obtain ⟨e2, _⟩ := hok' b _ (un.frzs b ob _ z)
            rw [e] at e1
            cases e1
            exact e2
  cases hk : K.lookup a with
  | some o =>
    have e := KX a o hk
    rw [ha] at e
    cases e
    refine same (fun _ => none) (fun _ => .inl rfl) (.inr ⟨_, vs.toArray, _, hk, rfl, rfl, rfl, ?_, by simpa using rel⟩) (fun b u z => ?_) (fun b z => absurd rfl z) fun z => absurd rfl z
    · rw [List.size_toArray, hi.length]
      exact hl
    · exact nomatch (show (none : Option HO) = some u from z)
  | none =>
    let H0 : Hp := fun b => if b = a then some (.frz { cls := .type "list", data := .seq vs.toArray } (.lst (iv ns))) else none
    have at1 : H0 a = some (.frz { cls := .type "list", data := .seq vs.toArray } (.lst (iv ns))) := if_pos rfl
    have at0 : ∀ b, b ≠ a → H0 b = none := fun b hb => if_neg hb
    refine same H0 (fun b => ?_) (.inl (.inr ⟨_, at1⟩)) (fun b u z => ?_) (fun b z => ?_) fun _ => hk
    · by_cases hb : b = a
      · exact .inr ⟨_, _, by rw [hb]; exact at1⟩
      · exact .inl (at0 b hb)
    · by_cases hb : b = a
      · subst hb
        rw [at1] at z
        cases z
        exact ⟨ha, by rw [iv_len]; exact hl, vs, _, rel, ha⟩
      · rw [at0 b hb] at z
        cases z
    · by_cases hb : b = a
      · exact hb
      · exact absurd (at0 b hb) z
theorem walk_ofG {l : PySem.W.OpenLaw} {n k : Nat} {q : Program} {loose : List Str} {XP : (Str → Option Value) → Heap → Prop} {YP : World → Heap → Prop} {d : DefRec} {K : Params → PySem.W.Frag} {sp : PySem.W.Frag → Sp} {x : Str}
    (hn : l.most = some n) (hn2 : n ≤ sizeLine) (hdf : d.params.defaults = []) (hr : Room k callerA) (hY : ∀ (w : World) (h : Heap), YP w h → (K w.params).In h)
    (F : ∀ (w : World) (mg : Str → Option Value) (fa : Addr) (h : Heap), (K w.params).In h → h.Ns mainGlobals mg → mg d.name = some (.ref fa) →
      ∃ fd : FuncData, (∀ (s : Shared) (u : Value), BindsTo s fd ⟨[u], []⟩ [(x, u)]) ∧
        ∀ base : Heap, (K w.params).In base → base.Ns mainGlobals mg → FnG l.prog w (K w.params) mg base CX0 k fa fd [x] (sp (K w.params)))
    (hsp : ∀ (K : PySem.W.Frag) (H : Hp) (a : Addr) (ns : List Int), ns.length ≤ n → SqL K H a (iv ns) → sp K [.ref a] H (fun v _ => v = .bl true) fun _ _ _ => False) :
    PySem.W.WalkO q loose XP YP l.row.toRowW d [] (fun f vs => PySem.call f vs) := by
  refine Att.attach_call hn hdf fun w s₀ s₁ mg mb fa o pm cd doc a vs ns G Y ho hd hcd hmg hobj hints hlen hg => ?_
  have KX := hY w _ Y
  obtain ⟨fd, hb, hF⟩ := F w mg fa _ KX G.T.g hmg
  exact law_endG KX G.T.g G.T.b G.T.builtins G.T.nolimit hg hobj hints (Nat.le_trans hlen hn2) hr hF hb fun H _ hS => hsp (K w.params) H a ns hlen hS

/-! ## a def of the text, out of what the top has written -/
theorem DefAt.mk1 {K : PySem.W.Frag} {h : Heap} {mg : Str → Option Value} {x : Str} {st : Stmt} {ps : List Str} {f : Addr} {od an : Option Addr} {sl : Array (Option Value)} {oc kV dc pm cd ct : Value} (X : K.In h) (G : h.Ns mainGlobals mg)
    (a : PySem.W.nsIn K mainGlobals x = some (some (.ref f))) (l : K.lookup f = some ⟨oc, od, .func (PySem.W.fnOf x x (defArgs st) (defBody st) (defScope st) .none kV dc pm an cd ct), sl⟩) (c : PySem.W.codeIn K cd x = true) (k : PySem.W.keepIn K (.ref f) = true)
    (hb : ∀ (kV doc pm : Value) (an : Option Addr) (cdv ct : Value) (us : List Value), us.length = ps.length → bindArgs (PySem.W.fnOf x x (defArgs st) (defBody st) (defScope st) .none kV doc pm an cdv ct) ⟨us, []⟩ = pure (ps.zip us)) : DefAt K mg x st ps :=
  ⟨f, _, fun_mk (st := st) l c k, PySem.W.mg_of X G a, (fun_mk (st := st) l c k).binds hb⟩
theorem cutD {p q : Prop} (h : p) (k : p → q) : q := k h
/-- a class: what its facts say -/
theorem cls_mk {K : PySem.W.Frag} {h : Heap} {mg : Str → Option Value} {x : Str} {C : Addr} (X : K.In h) (hC : mg x = some (.ref C)) (pg : PySem.W.plainGet K C Str.empty = true) (hd : PySem.W.hasDictIn K C = true) (po : PySem.W.plainOver K C = true) (sa : PySem.W.findIn K (.ref C) "__setattr__" = some (some (.builtin "object.__setattr__"))) : Cls K C := ⟨pg, hd, po, sa⟩
theorem noat_mk {K : PySem.W.Frag} {h : Heap} {mg : Str → Option Value} {x : Str} {C : Addr} {m : Str} (X : K.In h) (hC : mg x = some (.ref C)) (n : PySem.W.findIn K (.ref C) m = some none) : NoAttr K C m := n
theorem IniAt.mk1 {K : PySem.W.Frag} {h : Heap} {mg : Str → Option Value} {C : Addr} {x qual : Str} {st : Stmt} {ps : List Str} {f : Addr} {od an : Option Addr} {sl : Array (Option Value)} {oc kV dc pm cd ct : Value} (X : K.In h) (hm : mg x = some (.ref C))
    (a : PySem.W.findIn K (.ref C) "__init__" = some (some (.ref f))) (l : K.lookup f = some ⟨oc, od, .func (PySem.W.fnOf "__init__" qual (defArgs st) (defBody st) (defScope st) .none kV dc pm an cd ct), sl⟩) (c : PySem.W.codeIn K cd qual = true) (k : PySem.W.keepIn K (.ref f) = true)
    (mk : PySem.W.makesIn K C = true) (i : PySem.W.isFn K (.ref f) = true) (kc : PySem.W.keepIn K (.ref C) = true)
    (hb : ∀ (kV doc pm : Value) (an : Option Addr) (cdv ct : Value) (us : List Value), us.length = ps.length → bindArgs (PySem.W.fnOf "__init__" qual (defArgs st) (defBody st) (defScope st) .none kV doc pm an cdv ct) ⟨us, []⟩ = pure (ps.zip us)) : IniAt K mg C x qual st ps :=
  ⟨f, _, fun_mk (st := st) l c k, ⟨mk, a, i, kc⟩, hm, (fun_mk (st := st) l c k).binds hb⟩
theorem MetAt.mk1 {K : PySem.W.Frag} {h : Heap} {mg : Str → Option Value} {x : Str} {C : Addr} {m qual : Str} {st : Stmt} {ps : List Str} {f : Addr} {od an : Option Addr} {sl : Array (Option Value)} {oc kV dc pm cd ct : Value} (X : K.In h) (hC : mg x = some (.ref C))
    (a : PySem.W.findIn K (.ref C) m = some (some (.ref f))) (l : K.lookup f = some ⟨oc, od, .func (PySem.W.fnOf m qual (defArgs st) (defBody st) (defScope st) .none kV dc pm an cd ct), sl⟩) (c : PySem.W.codeIn K cd qual = true) (k : PySem.W.keepIn K (.ref f) = true) (i : PySem.W.isFn K (.ref f) = true)
    (hb : ∀ (kV doc pm : Value) (an : Option Addr) (cdv ct : Value) (us : List Value), us.length = ps.length → bindArgs (PySem.W.fnOf m qual (defArgs st) (defBody st) (defScope st) .none kV doc pm an cdv ct) ⟨us, []⟩ = pure (ps.zip us)) : MetAt K C m qual st ps :=
  ⟨f, _, fun_mk (st := st) l c k, ⟨a, i, k⟩, (fun_mk (st := st) l c k).binds hb⟩
theorem PrpAt.mk1 {K : PySem.W.Frag} {h : Heap} {mg : Str → Option Value} {x : Str} {C : Addr} {m qual : Str} {st : Stmt} {ps : List Str} {f p : Addr} {rest : List Value} {od an : Option Addr} {sl : Array (Option Value)} {oc kV dc pm cd ct : Value} (X : K.In h) (hC : mg x = some (.ref C))
    (a : PySem.W.findIn K (.ref C) m = some (some (.ref p))) (g : PySem.W.specialIn K (.ref p) "__get__" = some (some (.builtin "property.__get__"))) (t : PySem.W.takesIn K (.ref p) = some true) (r : PySem.W.recIn K p "property" = some (.ref f :: rest))
    (l : K.lookup f = some ⟨oc, od, .func (PySem.W.fnOf m qual (defArgs st) (defBody st) (defScope st) .none kV dc pm an cd ct), sl⟩) (c : PySem.W.codeIn K cd qual = true) (k : PySem.W.keepIn K (.ref f) = true)
    (hb : ∀ (kV doc pm : Value) (an : Option Addr) (cdv ct : Value) (us : List Value), us.length = ps.length → bindArgs (PySem.W.fnOf m qual (defArgs st) (defBody st) (defScope st) .none kV doc pm an cdv ct) ⟨us, []⟩ = pure (ps.zip us)) : PrpAt K C m qual st ps :=
  ⟨f, p, _, fun_mk (st := st) l c k, ⟨a, g, t, rest, r⟩, (fun_mk (st := st) l c k).binds hb⟩
theorem glob_mk {K : PySem.W.Frag} {h : Heap} {mg : Str → Option Value} {x : Str} {C : Addr} (X : K.In h) (G : h.Ns mainGlobals mg) (a : PySem.W.nsIn K mainGlobals x = some (some (.ref C))) : mg x = some (.ref C) := PySem.W.mg_of X G a
/-- a def with defaults -/
theorem funD_mk {K : PySem.W.Frag} {h : Heap} {mg : Str → Option Value} {x : Str} {st : Stmt} {dvs : List V} {f T : Addr} {o : Obj} {its : List Value} {n : Nat} {od an : Option Addr} {sl : Array (Option Value)} {oc kV dc pm cd ct : Value} (X : K.In h) (G : h.Ns mainGlobals mg)
    (a : PySem.W.nsIn K mainGlobals x = some (some (.ref f))) (l : K.lookup f = some ⟨oc, od, .func (PySem.W.fnOf x x (defArgs st) (defBody st) (defScope st) (.ref T) kV dc pm an cd ct), sl⟩) (c : PySem.W.codeIn K cd x = true) (k : PySem.W.keepIn K (.ref f) = true)
    (t : K.lookup T = some o) (e : o.data = .seq its.toArray n) (hv : Vals dvs its) (hd : dvs ≠ []) : FunD K x x (defArgs st) (defBody st) (defScope st) dvs [] f (PySem.W.fnOf x x (defArgs st) (defBody st) (defScope st) (.ref T) kV dc pm an cd ct) ∧ mg x = some (.ref f) :=
  ⟨⟨⟨oc, od, _, kV, dc, pm, an, cd, ct, sl, rfl, l, c, .inr ⟨hd, T, o, its, n, rfl, t, e, hv⟩, .inl rfl⟩, k⟩, PySem.W.mg_of X G a⟩
/-- the law's own def -/
theorem DefAt.law {K : PySem.W.Frag} {mg : Str → Option Value} {x : Str} {st : Stmt} {fa : Addr} {p : Str} (D : DefAt K mg x st [p]) (hfa : mg x = some (.ref fa))
    (hb : ∀ (kV doc pm : Value) (an : Option Addr) (cdv ct : Value) (us : List Value), us.length = 1 → bindArgs (PySem.W.fnOf x x (defArgs st) (defBody st) (defScope st) .none kV doc pm an cdv ct) ⟨us, []⟩ = pure ([p].zip us)) :
    ∃ fd : FuncData, Fun K x x st fa fd ∧ ∀ (s : Shared) (u : Value), BindsTo s fd ⟨[u], []⟩ [(p, u)] := by
  obtain ⟨f, fd, F, hm, b⟩ := D.ex
  rw [hfa] at hm
  cases hm
  obtain ⟨oc, od, kV, doc, pm, an, cdv, ct, osl, rfl, lk, hcd⟩ := F.ex
  exact ⟨_, F, fun s u => .of_eq (hb kV doc pm an cdv ct [u] rfl)⟩
end Sq

/-! the mathematics of replacements on lengths of runs -/
namespace Sq
def once (n k : Int) : Int := n / k + n % k
def sqz (n : Int) (row : List Int) : Int := row.foldl once n
def rb (R k : Int) : Int := if k > R + 1 then R else (R + 3 - k) * k - 2
def reachOf (row : List Int) (most : Int) : Int := row.foldr (fun k R => rb R k) most
abbrev Two (row : List Int) : Prop := ∀ k ∈ row, (2 : Int) ≤ k
def Mid (ns : List Int) : Prop := ∀ k ∈ ns, (2 : Int) ≤ k ∧ k < 2 ^ 240
theorem Mid.two {ns : List Int} (h : Mid ns) : Two ns := fun k hk => (h k hk).1
theorem sqz_cons (n k : Int) (r : List Int) : sqz n (k :: r) = sqz (once n k) r := rfl
theorem sqz_app (n : Int) (a b : List Int) : sqz n (a ++ b) = sqz (sqz n a) b := by simp [sqz, List.foldl_append]
theorem sqz_snoc (n k : Int) (a : List Int) : sqz n (a ++ [k]) = once (sqz n a) k := by rw [sqz_app]; rfl
theorem sqz_take {row : List Int} {n k : Int} {i : Nat} (h : row[i]? = some k) : sqz n (row.take (i + 1)) = once (sqz n (row.take i)) k := by
  rw [List.take_add_one, h]
  exact sqz_snoc _ _ _
theorem once_nn {n k : Int} (hn : 0 ≤ n) (hk : 2 ≤ k) : 0 ≤ once n k := by
  unfold once
  have h1 := Int.ediv_nonneg hn (by omega : (0 : Int) ≤ k)
  have h2 := Int.emod_nonneg n (by omega : k ≠ 0)
  omega
/-- quotient and rest -/
theorem qr (n : Int) {k : Int} (hk : 2 ≤ k) : ∃ q r, n = q * k + r ∧ 0 ≤ r ∧ r < k ∧ n / k = q ∧ n % k = r :=
  ⟨n / k, n % k, by have := Int.mul_ediv_add_emod n k; rw [Int.mul_comm] at this; omega, Int.emod_nonneg n (by omega), Int.emod_lt_of_pos n (by omega), rfl, rfl⟩
theorem qr_of {q r k : Int} (h0 : 0 ≤ r) (h1 : r < k) : (q * k + r) / k = q ∧ (q * k + r) % k = r := by
  have hk : k ≠ 0 := by omega
  constructor
  · rw [Int.add_comm, Int.add_mul_ediv_right _ _ hk, Int.ediv_eq_zero_of_lt h0 h1]; omega
  · rw [Int.add_comm, Int.add_mul_emod_self_right, Int.emod_eq_of_lt h0 h1]
theorem once_qr {q r k : Int} (h0 : 0 ≤ r) (h1 : r < k) : once (q * k + r) k = q + r := by
  obtain ⟨a, b⟩ := qr_of (q := q) h0 h1
  unfold once
  rw [a, b]
theorem once_le {n k : Int} (hn : 0 ≤ n) (hk : 2 ≤ k) : once n k ≤ n := by
  obtain ⟨q, r, e, h0, h1, e1, e2⟩ := qr n hk
  unfold once
  rw [e1, e2]
  have hq : 0 ≤ q := by rw [← e1]; exact Int.ediv_nonneg hn (by omega)
  have := Int.mul_le_mul_of_nonneg_left (by omega : (1 : Int) ≤ k) hq
  omega
theorem once_small {n k : Int} (hn : 0 ≤ n) (h : n < k) : once n k = n := by
  unfold once
  rw [Int.ediv_eq_zero_of_lt hn h, Int.emod_eq_of_lt hn h]
  omega
theorem once_pos {n k : Int} (hn : 1 ≤ n) (hk : 2 ≤ k) : 1 ≤ once n k := by
  obtain ⟨q, r, e, h0, h1, e1, e2⟩ := qr n hk
  unfold once
  rw [e1, e2]
  have hq : 0 ≤ q := by rw [← e1]; exact Int.ediv_nonneg (by omega) (by omega)
  rcases Int.lt_or_eq_of_le hq with h | h
  · omega
  · subst h; omega
theorem sqz_nn : ∀ {row : List Int} {n : Int}, 0 ≤ n → Two row → 0 ≤ sqz n row
  | [], n, h, _ => h
  | k :: r, n, h, t => sqz_nn (row := r) (once_nn h (t k (List.mem_cons_self ..))) fun j hj => t j (List.mem_cons_of_mem _ hj)
theorem sqz_le : ∀ {row : List Int} {n : Int}, 0 ≤ n → Two row → sqz n row ≤ n
  | [], n, h, _ => Int.le_refl n
  | k :: r, n, h, t => Int.le_trans (sqz_le (row := r) (once_nn h (t k (List.mem_cons_self ..))) fun j hj => t j (List.mem_cons_of_mem _ hj)) (once_le h (t k (List.mem_cons_self ..)))
theorem sqz_pos : ∀ {row : List Int} {n : Int}, 1 ≤ n → Two row → 1 ≤ sqz n row
  | [], n, h, _ => h
  | k :: r, n, h, t => sqz_pos (row := r) (once_pos h (t k (List.mem_cons_self ..))) fun j hj => t j (List.mem_cons_of_mem _ hj)
/-- one step of the reach -/
theorem rb_pos {R k : Int} (hR : 1 ≤ R) (hk : 2 ≤ k) : R ≤ rb R k := by
  unfold rb
  split
  · omega
  · rename_i h
    have e : (R + 3 - k) * k - 2 - R = (R + 1 - k) * (k - 1) + (k - 1) := by
      have e1 : R + 3 - k = (R + 1 - k) + 2 := by omega
      have e2 : k = (k - 1) + 1 := by omega
      rw [e1]
      have e3 : (R + 1 - k) * k = (R + 1 - k) * (k - 1) + (R + 1 - k) := by
        have := Int.mul_sub (R + 1 - k) k 1
        omega
      have e4 : (R + 1 - k + 2) * k = (R + 1 - k) * k + 2 * k := Int.add_mul _ _ _
      omega
    have := Int.mul_nonneg (by omega : (0 : Int) ≤ R + 1 - k) (by omega : (0 : Int) ≤ k - 1)
    omega
theorem rb_all {R k n : Int} (hR : 1 ≤ R) (hk : 2 ≤ k) (h0 : 0 ≤ n) (h : n ≤ rb R k) : once n k ≤ R := by
  unfold rb at h
  split at h
  · rw [once_small h0 (by omega)]; exact h
  · rename_i hh
    obtain ⟨q, r, e, h1, h2, e1, e2⟩ := qr n hk
    unfold once
    rw [e1, e2]
    have e3 : (R + 3 - k) * k = (R + 2 - k) * k + k := by
      have : R + 3 - k = (R + 2 - k) + 1 := by omega
      rw [this, Int.add_mul, Int.one_mul]
    rcases Int.lt_or_le q (R + 2 - k) with hq | hq
    · omega
    · rcases Int.lt_or_eq_of_le hq with hq | hq
      · have := Int.mul_le_mul_of_nonneg_right (by omega : R + 3 - k ≤ q) (by omega : (0 : Int) ≤ k)
        omega
      · subst hq
        omega
theorem rb_next {R k : Int} (hR : 1 ≤ R) (hk : 2 ≤ k) : once (rb R k + 1) k = R + 1 := by
  unfold rb
  split
  · rw [once_small (by omega) (by omega)]
  · have e3 : (R + 3 - k) * k - 2 + 1 = (R + 2 - k) * k + (k - 1) := by
      have : R + 3 - k = (R + 2 - k) + 1 := by omega
      rw [this, Int.add_mul, Int.one_mul]; omega
    rw [e3, once_qr (by omega) (by omega)]
    omega
theorem reach_pos : ∀ {row : List Int} {m : Int}, 1 ≤ m → Two row → m ≤ reachOf row m
  | [], m, _, _ => Int.le_refl m
  | k :: r, m, h, t => by
    have ih := reach_pos (row := r) h fun j hj => t j (List.mem_cons_of_mem _ hj)
    exact Int.le_trans ih (rb_pos (by omega) (t k (List.mem_cons_self ..)))
theorem reach_all : ∀ {row : List Int} {m n : Int}, 1 ≤ m → Two row → 0 ≤ n → n ≤ reachOf row m → sqz n row ≤ m
  | [], m, n, _, _, _, h => h
  | k :: r, m, n, h, t, h0, hn => by
    have t' : Two r := fun j hj => t j (List.mem_cons_of_mem _ hj)
    have hk := t k (List.mem_cons_self ..)
    have p := reach_pos h t'
    exact reach_all (row := r) h t' (once_nn h0 hk) (rb_all (by omega) hk h0 hn)
theorem reach_next : ∀ {row : List Int} {m : Int}, 1 ≤ m → Two row → sqz (reachOf row m + 1) row = m + 1
  | [], m, _, _ => rfl
  | k :: r, m, h, t => by
    have t' : Two r := fun j hj => t j (List.mem_cons_of_mem _ hj)
    have hk := t k (List.mem_cons_self ..)
    have p := reach_pos h t'
    show sqz (once (rb (reachOf r m) k + 1) k) r = m + 1
    rw [rb_next (by omega) hk]
    exact reach_next h t'
/-- the reach is where the first greater one stands -/
theorem reach_is {row : List Int} {m n : Int} (h : 1 ≤ m) (t : Two row) (h0 : 0 ≤ n) (hn : m < sqz n row) (ha : ∀ j, 0 ≤ j → j < n → sqz j row ≤ m) : reachOf row m = n - 1 := by
  have p := reach_pos h t
  rcases Int.lt_or_le (reachOf row m) n with a | a
  · rcases Int.lt_or_le (reachOf row m + 1) n with b | b
    · have := ha _ (by omega) b
      rw [reach_next h t] at this
      omega
    · omega
  · have := reach_all h t h0 a
    omega
theorem reach_mono {row : List Int} {m m' : Int} (h : 1 ≤ m) (hm : m ≤ m') (t : Two row) : reachOf row m ≤ reachOf row m' := by
  rcases Int.lt_or_le (reachOf row m') (reachOf row m) with a | a
  · have p := reach_pos (m := m') (by omega) t
    have := reach_all h t (n := reachOf row m' + 1) (by omega) (by omega)
    rw [reach_next (by omega) t] at this
    omega
  · exact a
end Sq


namespace Sq
def prodL (ns : List Int) : Int := ns.foldr (fun k p => k * p) 1
def slack (ns : List Int) : Int := (ns.map fun k => k - 1).sum
theorem prodL_cons (k : Int) (r : List Int) : prodL (k :: r) = k * prodL r := rfl
theorem prodL_app (a b : List Int) : prodL (a ++ b) = prodL a * prodL b := by
  induction a with
  | nil => simp [prodL]
  | cons k r ih => rw [List.cons_append, prodL_cons, prodL_cons, ih, Int.mul_assoc]
theorem prodL_snoc (a : List Int) (k : Int) : prodL (a ++ [k]) = prodL a * k := by rw [prodL_app]; simp [prodL]
theorem prodL_pos : ∀ {ns : List Int}, Two ns → 1 ≤ prodL ns
  | [], _ => Int.le_refl 1
  | k :: r, h => by
    have ih := prodL_pos (ns := r) fun j hj => h j (List.mem_cons_of_mem _ hj)
    have hk := h k (List.mem_cons_self ..)
    rw [prodL_cons]
    have := Int.mul_le_mul (show (1 : Int) ≤ k by omega) ih (by decide) (by omega)
    omega
theorem prodL_one : ∀ {ns : List Int}, Two ns → prodL ns ≤ 1 → ns = []
  | [], _, _ => rfl
  | k :: r, h, h1 => by
    have ih := prodL_pos (ns := r) fun j hj => h j (List.mem_cons_of_mem _ hj)
    have hk := h k (List.mem_cons_self ..)
    rw [prodL_cons] at h1
    have := Int.mul_le_mul hk ih (by decide) (by omega)
    omega
theorem once_mul (n : Int) {k : Int} (hk : 2 ≤ k) : k * once n k = n + (k - 1) * (n % k) := by
  have e := Int.mul_ediv_add_emod n k
  unfold once
  rw [Int.mul_add, Int.sub_mul, Int.one_mul]
  omega
theorem sqz_ge : ∀ {ns : List Int} {n : Int}, 0 ≤ n → Two ns → n ≤ prodL ns * sqz n ns
  | [], n, _, _ => by simp [prodL, sqz]
  | k :: r, n, h0, h => by
    have t : Two r := fun j hj => h j (List.mem_cons_of_mem _ hj)
    have hk := h k (List.mem_cons_self ..)
    have ih := sqz_ge (ns := r) (once_nn h0 hk) t
    have e := once_mul n hk
    have hm := Int.emod_nonneg n (show k ≠ 0 by omega)
    have := Int.mul_nonneg (show 0 ≤ k - 1 by omega) hm
    have := Int.mul_le_mul_of_nonneg_left ih (show 0 ≤ k by omega)
    rw [prodL_cons, sqz_cons, Int.mul_assoc]
    omega
theorem slack_cons (k : Int) (r : List Int) : slack (k :: r) = (k - 1) + slack r := by simp [slack]
theorem slack_nn : ∀ {ns : List Int}, Two ns → 0 ≤ slack ns
  | [], _ => Int.le_refl 0
  | k :: r, h => by
    have ih := slack_nn (ns := r) fun j hj => h j (List.mem_cons_of_mem _ hj)
    have hk := h k (List.mem_cons_self ..)
    rw [slack_cons]
    omega
theorem sqz_up : ∀ {ns : List Int} {n : Int}, 0 ≤ n → Two ns → prodL ns * sqz n ns ≤ n + prodL ns * slack ns
  | [], n, _, _ => by simp [prodL, sqz, slack]
  | k :: r, n, h0, h => by
    have t : Two r := fun j hj => h j (List.mem_cons_of_mem _ hj)
    have hk := h k (List.mem_cons_self ..)
    have ih := sqz_up (ns := r) (once_nn h0 hk) t
    have e := once_mul n hk
    have hl := Int.emod_lt_of_pos n (show 0 < k by omega)
    have p := prodL_pos t
    have a1 : (k - 1) * (n % k) ≤ (k - 1) * k := Int.mul_le_mul_of_nonneg_left (by omega) (by omega)
    have a2 := Int.mul_le_mul_of_nonneg_left ih (show 0 ≤ k by omega)
    -- k * (prodL r * x) ≤ k * once n k + k * prodL r * slack r
    have a3 : k * prodL r * (k - 1) = (k - 1) * k * prodL r := by
      rw [Int.mul_comm (k * prodL r), Int.mul_assoc]
    have a4 : (k - 1) * k * 1 ≤ (k - 1) * k * prodL r := Int.mul_le_mul_of_nonneg_left p (Int.mul_nonneg (by omega) (by omega))
    rw [prodL_cons, sqz_cons, slack_cons, Int.mul_add (k * prodL r), a3, Int.mul_assoc k (prodL r) (sqz _ _)]
    rw [Int.mul_add, ← Int.mul_assoc] at a2
    rw [← Int.mul_assoc] at a2
    rw [← Int.mul_assoc]
    omega
theorem sqz_mul : ∀ {ns : List Int} {m : Int}, Two ns → sqz (m * prodL ns) ns = m
  | [], m, _ => by simp [prodL, sqz]
  | k :: r, m, h => by
    have hk := h k (List.mem_cons_self ..)
    have e : m * prodL (k :: r) = (m * prodL r) * k + 0 := by
      rw [prodL_cons, Int.add_zero, Int.mul_assoc, Int.mul_comm k]
    rw [sqz_cons, e, once_qr (by omega) (by omega), Int.add_zero]
    exact sqz_mul fun j hj => h j (List.mem_cons_of_mem _ hj)
theorem slack_le : ∀ {ns : List Int} {g : Int}, (∀ k ∈ ns, k ≤ g) → slack ns ≤ ns.length * (g - 1)
  | [], g, _ => by simp [slack]
  | k :: r, g, h => by
    have ih := slack_le (ns := r) (g := g) fun j hj => h j (List.mem_cons_of_mem _ hj)
    have hk := h k (List.mem_cons_self ..)
    rw [slack_cons, List.length_cons]
    have : ((r.length + 1 : Nat) : Int) * (g - 1) = r.length * (g - 1) + (g - 1) := by
      rw [Int.natCast_add, Int.add_mul]
      simp
    omega
theorem prodL_le : ∀ {ns : List Int} {g : Int} {n : Nat}, Two ns → (∀ k ∈ ns, k ≤ g) → ns.length ≤ n → 1 ≤ g → prodL ns ≤ g ^ n
  | [], g, n, _, _, _, hg => by
    show (1 : Int) ≤ g ^ n
    exact Int.pow_pos (show 0 < g by omega)
  | k :: r, g, 0, _, _, hl, _ => by simp at hl
  | k :: r, g, n + 1, h, hk, hl, hg => by
    have ih := prodL_le (ns := r) (g := g) (n := n) (fun j hj => h j (List.mem_cons_of_mem _ hj)) (fun j hj => hk j (List.mem_cons_of_mem _ hj)) (by simpa using hl) hg
    have p := prodL_pos (ns := r) fun j hj => h j (List.mem_cons_of_mem _ hj)
    have k2 := h k (List.mem_cons_self ..)
    rw [prodL_cons, Int.pow_succ, Int.mul_comm]
    exact Int.mul_le_mul ih (hk k (List.mem_cons_self ..)) (by omega) (by omega)
/-- the product is told by one long run -/
theorem told_prod {ns : List Int} {b s : Int} (h : Two ns) (hb : prodL ns ≤ b) (hs : slack ns < s) : ((s * b * (b + 1)) + sqz (s * b * (b + 1)) ns - 1) / sqz (s * b * (b + 1)) ns = prodL ns := by
  have p := prodL_pos h
  have s0 := slack_nn h
  have L0 : 0 ≤ s * b * (b + 1) := Int.mul_nonneg (Int.mul_nonneg (by omega) (by omega)) (by omega)
  have g := sqz_ge L0 h
  have u := sqz_up L0 h
  generalize hL : s * b * (b + 1) = L at *
  generalize hx : sqz L ns = x at *
  generalize hP : prodL ns = Pr at *
  generalize hS : slack ns = S at *
  -- (Pr - 1) * x < L ≤ Pr * x
  have e1 : Pr * S * Pr ≤ S * b * b := by
    have a := Int.mul_le_mul hb hb (by omega) (by omega : 0 ≤ b)
    have c := Int.mul_le_mul_of_nonneg_left a s0
    have d1 : Pr * S * Pr = S * (Pr * Pr) := by rw [Int.mul_comm Pr S, Int.mul_assoc]
    have d2 : S * b * b = S * (b * b) := Int.mul_assoc _ _ _
    omega
  have e2 : S * b * b + b < L := by
    have a1 : (S + 1) * b * (b + 1) ≤ s * b * (b + 1) := Int.mul_le_mul_of_nonneg_right (Int.mul_le_mul_of_nonneg_right (by omega) (by omega)) (by omega)
    have a2 : (S + 1) * b * (b + 1) = S * b * b + S * b + (b * b + b) := by
      rw [Int.add_mul, Int.one_mul, Int.mul_add, Int.mul_one, Int.add_mul]
      omega
    have a3 := Int.mul_nonneg s0 (show 0 ≤ b by omega)
    have a4 := Int.mul_le_mul (show (1 : Int) ≤ b by omega) (show (1 : Int) ≤ b by omega) (by decide) (by omega)
    omega
  have xpos : 0 < x := by
    rcases Int.lt_or_le 0 x with z | z
    · exact z
    · have := Int.mul_nonpos_of_nonneg_of_nonpos (show 0 ≤ Pr by omega) z
      have := Int.mul_nonneg (Int.mul_nonneg s0 (show 0 ≤ b by omega)) (show 0 ≤ b by omega)
      omega
  have lo : (Pr - 1) * x < L := by
    -- Pr * ((Pr - 1) * x) ≤ (Pr - 1) * (L + Pr * S) < Pr * L
    have a1 := Int.mul_le_mul_of_nonneg_left u (show 0 ≤ Pr - 1 by omega)
    have a2 : (Pr - 1) * (Pr * x) = Pr * ((Pr - 1) * x) := by
      rw [← Int.mul_assoc, ← Int.mul_assoc, Int.mul_comm (Pr - 1) Pr]
    have a3 : (Pr - 1) * (L + Pr * S) = Pr * L - L + (Pr * S * Pr - Pr * S) := by
      rw [Int.sub_mul, Int.one_mul, Int.mul_add, Int.mul_comm Pr (Pr * S)]
      omega
    have a4 := Int.mul_nonneg (show 0 ≤ Pr by omega) s0
    rcases Int.lt_or_le ((Pr - 1) * x) L with z | z
    · exact z
    · have := Int.mul_le_mul_of_nonneg_left z (show 0 ≤ Pr by omega)
      omega
  have q1 : L + x - 1 = (L - (Pr - 1) * x - 1) + Pr * x := by
    rw [Int.sub_mul, Int.one_mul]
    omega
  rw [q1, Int.add_mul_ediv_right _ _ (by omega), Int.ediv_eq_zero_of_lt (by omega) (by rw [Int.sub_mul, Int.one_mul]; omega)]
  omega
/-- the next number of the list is told by runs below the product -/
theorem next_hit {k : Int} {r : List Int} (h : Two (k :: r)) : sqz (prodL (k :: r) - k + 1) (k :: r) = 1 := by
  have t : Two r := fun j hj => h j (List.mem_cons_of_mem _ hj)
  have hk := h k (List.mem_cons_self ..)
  have e : prodL (k :: r) - k + 1 = (prodL r - 1) * k + 1 := by
    rw [prodL_cons, Int.sub_mul, Int.one_mul, Int.mul_comm]
  rw [sqz_cons, e, once_qr (by omega) (by omega)]
  have := sqz_mul (m := 1) t
  rw [Int.one_mul] at this
  rw [show prodL r - 1 + 1 = prodL r by omega]
  exact this
theorem next_miss {k j : Int} {r : List Int} (h : Two (k :: r)) (hj : 2 ≤ j) (hjk : j < k) : 1 < sqz (prodL (k :: r) - j + 1) (k :: r) := by
  have t : Two r := fun j hj => h j (List.mem_cons_of_mem _ hj)
  have hk := h k (List.mem_cons_self ..)
  have p := prodL_pos t
  have e : prodL (k :: r) - j + 1 = (prodL r - 1) * k + (k - j + 1) := by
    rw [prodL_cons, Int.sub_mul, Int.one_mul, Int.mul_comm]
    omega
  rw [sqz_cons, e, once_qr (by omega) (by omega)]
  have g := sqz_ge (n := prodL r - 1 + (k - j + 1)) (by omega) t
  rcases Int.lt_or_le 1 (sqz (prodL r - 1 + (k - j + 1)) r) with z | z
  · exact z
  · have := Int.mul_le_mul_of_nonneg_left z (show 0 ≤ prodL r by omega)
    omega
end Sq


namespace Sq
/-! ## sums -/
def sm (lo : Int) (f : Int → Int) : Nat → Int
  | 0 => 0
  | n + 1 => sm lo f n + f (lo + n)
theorem sm_congr {lo : Int} {f g : Int → Int} : ∀ {n : Nat}, (∀ i : Nat, i < n → f (lo + i) = g (lo + i)) → sm lo f n = sm lo g n
  | 0, _ => rfl
  | n + 1, h => by
    show sm lo f n + _ = sm lo g n + _
    rw [sm_congr fun i hi => h i (by omega), h n (by omega)]
theorem sm_add {lo : Int} {f g : Int → Int} : ∀ n : Nat, sm lo (fun x => f x + g x) n = sm lo f n + sm lo g n
  | 0 => rfl
  | n + 1 => by
    have := sm_add (lo := lo) (f := f) (g := g) n
    simp only [sm]
    omega
theorem sm_sub {lo : Int} {f g : Int → Int} : ∀ n : Nat, sm lo (fun x => f x - g x) n = sm lo f n - sm lo g n
  | 0 => rfl
  | n + 1 => by
    have := sm_sub (lo := lo) (f := f) (g := g) n
    simp only [sm]
    omega
theorem sm_mul {lo c : Int} {f : Int → Int} : ∀ n : Nat, sm lo (fun x => c * f x) n = c * sm lo f n
  | 0 => by simp [sm]
  | n + 1 => by
    simp only [sm]
    rw [sm_mul n, Int.mul_add]
theorem sm_zero {lo : Int} {f : Int → Int} : ∀ {n : Nat}, (∀ i : Nat, i < n → f (lo + i) = 0) → sm lo f n = 0
  | 0, _ => rfl
  | n + 1, h => by
    show sm lo f n + _ = 0
    rw [sm_zero fun i hi => h i (by omega), h n (by omega)]
    rfl
theorem sm_split {lo : Int} {f : Int → Int} (a : Nat) : ∀ b : Nat, sm lo f (a + b) = sm lo f a + sm (lo + a) f b
  | 0 => by simp [sm]
  | b + 1 => by
    show sm lo f (a + b) + f (lo + ((a + b : Nat) : Int)) = _
    rw [sm_split a b]
    show _ = sm lo f a + (sm (lo + a) f b + f (lo + a + b))
    rw [show lo + ((a + b : Nat) : Int) = lo + a + b by omega]
    omega
theorem sm_nn {lo : Int} {f : Int → Int} : ∀ {n : Nat}, (∀ i : Nat, i < n → 0 ≤ f (lo + i)) → 0 ≤ sm lo f n
  | 0, _ => Int.le_refl 0
  | n + 1, h => by
    have a := sm_nn (lo := lo) (f := f) (n := n) fun i hi => h i (by omega)
    have b := h n (by omega)
    simp only [sm]
    omega
theorem sm_up {lo : Int} {f : Int → Int} (h : ∀ x, 0 ≤ f x) {a b : Nat} (hab : a ≤ b) : sm lo f a ≤ sm lo f b := by
  have e := sm_split (lo := lo) (f := f) a (b - a)
  rw [Nat.add_sub_cancel' hab] at e
  have := sm_nn (lo := lo + a) (f := f) (n := b - a) fun i _ => h _
  omega
theorem sm_ind {lo z : Int} {h : Int → Int} : ∀ n : Nat, sm lo (fun t => if t = z then h t else 0) n = if lo ≤ z ∧ z < lo + n then h z else 0
  | 0 => by
    rw [if_neg (by omega)]
    rfl
  | n + 1 => by
    show sm lo _ n + (if lo + (n : Int) = z then h (lo + n) else 0) = _
    rw [sm_ind n]
    by_cases e : lo + (n : Int) = z
    · rw [if_pos e, if_neg (by omega), if_pos (by omega), e, Int.zero_add]
    · rw [if_neg e, Int.add_zero]
      by_cases c : lo ≤ z ∧ z < lo + n
      · rw [if_pos c, if_pos (by omega)]
      · rw [if_neg c, if_neg (by omega)]
theorem sm_one {lo : Int} {f : Int → Int} : ∀ {n : Nat}, (∀ i : Nat, i < n → f (lo + i) = 1) → sm lo f n = n
  | 0, _ => rfl
  | n + 1, h => by
    show sm lo f n + _ = _
    rw [sm_one fun i hi => h i (by omega), h n (by omega)]
    omega
/-! ## counting -/
/-- is the run x made n long -/
def hit (n : Int) (row : List Int) (x : Int) : Int := if sqz x row = n then 1 else 0
theorem hit_nn (n : Int) (row : List Int) (x : Int) : 0 ≤ hit n row x := by
  unfold hit
  split <;> decide
/-- how many runs up to last are made n long -/
def cnt (n : Int) (row : List Int) (last : Int) : Int := sm 1 (hit n row) last.toNat
theorem cnt_zero {n : Int} {row : List Int} {last : Int} (h : last < 1) : cnt n row last = 0 := by
  unfold cnt
  rw [show last.toNat = 0 by omega]
  rfl
theorem cnt_step {n : Int} {row : List Int} {last : Int} (h : 1 ≤ last) : cnt n row last = cnt n row (last - 1) + hit n row last := by
  unfold cnt
  obtain ⟨j, hj⟩ : ∃ j : Nat, last.toNat = j + 1 := ⟨last.toNat - 1, by omega⟩
  rw [hj, show (last - 1).toNat = j by omega]
  show sm 1 _ j + hit n row (1 + (j : Int)) = _
  rw [show (1 : Int) + j = last by omega]
theorem cnt_up {n : Int} {row : List Int} {a b : Int} (h : a ≤ b) : cnt n row a ≤ cnt n row b := sm_up (hit_nn n row) (by omega)
theorem cnt_nn (n : Int) (row : List Int) (a : Int) : 0 ≤ cnt n row a := sm_nn fun i _ => hit_nn n row _
theorem cnt_nil {n last : Int} (hn : 1 ≤ n) (hl : 1 ≤ last) : cnt n [] last = if n ≤ last then 1 else 0 := by
  unfold cnt
  have e : sm 1 (hit n []) last.toNat = sm 1 (fun x => if x = n then 1 else 0) last.toNat := sm_congr fun i _ => rfl
  rw [e, sm_ind]
  by_cases c : n ≤ last
  · rw [if_pos c, if_pos (by omega)]
  · rw [if_neg c, if_neg (by omega)]
/-- how many runs up to last does k alone make m long -/
def cm (k last m : Int) : Int := sm 0 (fun t => if m * k - t * (k - 1) ≤ last then 1 else 0) (min (k - 1) m + 1).toNat
theorem pre_is {k m t last : Int} (hk : 2 ≤ k) (hl : 1 ≤ last) (t0 : 0 ≤ t) (t1 : t ≤ k - 1) (t2 : t ≤ m) : (m * k - t * (k - 1) = last) ↔ (t = last % k ∧ once last k = m) := by
  have e : m * k - t * (k - 1) = (m - t) * k + t := by
    rw [Int.sub_mul, Int.mul_sub, Int.mul_one]
    omega
  rw [e]
  constructor
  · intro h
    obtain ⟨a, b⟩ := qr_of (q := m - t) (k := k) t0 (by omega)
    rw [h] at a b
    refine ⟨b.symm, ?_⟩
    unfold once
    rw [a, b]
    omega
  · rintro ⟨h1, h2⟩
    unfold once at h2
    have := Int.mul_ediv_add_emod last k
    rw [h1, show m - last % k = last / k by omega, Int.mul_comm]
    omega
theorem cm_step {k m last : Int} (hk : 2 ≤ k) (hm : 1 ≤ m) (hl : 1 ≤ last) : cm k last m - cm k (last - 1) m = if m = once last k then 1 else 0 := by
  unfold cm
  rw [← sm_sub]
  have e : sm 0 (fun t => (if m * k - t * (k - 1) ≤ last then (1 : Int) else 0) - if m * k - t * (k - 1) ≤ last - 1 then 1 else 0) (min (k - 1) m + 1).toNat =
      sm 0 (fun t => if t = last % k then (if m = once last k then 1 else 0) else 0) (min (k - 1) m + 1).toNat := sm_congr fun i hi => by
    have p := pre_is (k := k) (m := m) (t := 0 + (i : Int)) (last := last) hk hl (by omega) (by omega) (by omega)
    by_cases c1 : m * k - (0 + (i : Int)) * (k - 1) ≤ last - 1
    · rw [if_pos (by omega), if_pos c1]
      by_cases c2 : 0 + (i : Int) = last % k
      · rw [if_pos c2, if_neg fun c3 => by
          have := p.mpr ⟨c2, c3.symm⟩
          omega]
        rfl
      · rw [if_neg c2]
        rfl
    · rw [if_neg c1]
      by_cases c3 : m * k - (0 + (i : Int)) * (k - 1) ≤ last
      · obtain ⟨p1, p2⟩ := p.mp (by omega)
        rw [if_pos c3, if_pos p1, if_pos p2.symm]
        rfl
      · rw [if_neg c3]
        by_cases c2 : 0 + (i : Int) = last % k
        · rw [if_pos c2, if_neg fun c4 => c3 (by
            have := p.mpr ⟨c2, c4.symm⟩
            omega)]
          rfl
        · rw [if_neg c2]
          rfl
  rw [e, sm_ind]
  by_cases c : m = once last k
  · rw [if_pos c]
    have h1 := Int.emod_nonneg last (show k ≠ 0 by omega)
    have h2 := Int.emod_lt_of_pos last (show 0 < k by omega)
    have h3 : 0 ≤ last / k := Int.ediv_nonneg (by omega) (by omega)
    unfold once at c
    rw [if_pos (by omega)]
  · rw [if_neg c]
    split <;> rfl
theorem cm_zero {k m : Int} (hk : 2 ≤ k) (hm : 1 ≤ m) : cm k 0 m = 0 := by
  refine sm_zero fun i hi => if_neg ?_
  have e : m * k - (0 + (i : Int)) * (k - 1) = (m - i) * k + i := by
    rw [Int.zero_add, Int.sub_mul, Int.mul_sub, Int.mul_one]
    omega
  rw [e]
  have := Int.mul_nonneg (show 0 ≤ m - i by omega) (show 0 ≤ k by omega)
  rcases Nat.eq_zero_or_pos i with z | z
  · have := Int.mul_le_mul (show (1 : Int) ≤ m - i by omega) hk (by decide) (by omega)
    omega
  · omega
theorem cnt_cons {n k : Int} {r : List Int} (hk : 2 ≤ k) (B : Nat) : ∀ a : Nat, a ≤ B → cnt n (k :: r) a = sm 1 (fun m => hit n r m * cm k a m) B
  | 0, _ => by
    rw [cnt_zero (by decide)]
    symm
    exact sm_zero fun i _ => by
      show hit n r (1 + i) * cm k 0 (1 + i) = 0
      rw [cm_zero hk (by omega), Int.mul_zero]
  | a + 1, h => by
    have hl : (1 : Int) ≤ ((a + 1 : Nat) : Int) := by omega
    have ih := cnt_cons hk B a (by omega) (n := n) (r := r)
    rw [cnt_step hl, show ((a + 1 : Nat) : Int) - 1 = (a : Int) by omega, ih]
    have e : sm 1 (fun m => hit n r m * cm k ((a + 1 : Nat) : Int) m) B = sm 1 (fun m => hit n r m * cm k (a : Int) m + (if m = once ((a + 1 : Nat) : Int) k then hit n r m else 0)) B := sm_congr fun i _ => by
      have st := cm_step (k := k) (m := 1 + (i : Int)) (last := ((a + 1 : Nat) : Int)) hk (by omega) hl
      rw [show ((a + 1 : Nat) : Int) - 1 = (a : Int) by omega] at st
      have e2 : cm k ((a + 1 : Nat) : Int) (1 + (i : Int)) = cm k (a : Int) (1 + i) + (if 1 + (i : Int) = once ((a + 1 : Nat) : Int) k then 1 else 0) := by omega
      show hit n r (1 + i) * cm k ((a + 1 : Nat) : Int) (1 + i) = hit n r (1 + i) * cm k (a : Int) (1 + i) + _
      rw [e2, Int.mul_add]
      split <;> simp
    rw [e, sm_add, sm_ind, if_pos ⟨once_pos hl hk, by
      have := once_le (show (0 : Int) ≤ ((a + 1 : Nat) : Int) by omega) hk
      omega⟩]
    rfl
/-- all of them -/
theorem cm_all {k m last : Int} (hk : 2 ≤ k) (hm : 1 ≤ m) (h : m ≤ last / k) : cm k last m = k - (if m ≤ k - 2 then k - m - 1 else 0) := by
  have e : cm k last m = ((min (k - 1) m + 1).toNat : Int) := sm_one fun i hi => if_pos (by
    have h1 : m * k ≤ last := (Int.le_ediv_iff_mul_le (by omega)).mp h
    have := Int.mul_nonneg (show (0 : Int) ≤ 0 + (i : Int) by omega) (show 0 ≤ k - 1 by omega)
    omega)
  rw [e]
  split <;> omega
/-- none of them -/
theorem cm_none {k m last : Int} (hk : 2 ≤ k) (hm : 1 ≤ m) (h : (last + (k - 1) * (k - 1)) / k < m) : cm k last m = 0 := by
  refine sm_zero fun i hi => if_neg fun c => ?_
  have h1 : last + (k - 1) * (k - 1) < m * k := (Int.ediv_lt_iff_lt_mul (by omega)).mp h
  have h2 : (0 + (i : Int)) * (k - 1) ≤ (k - 1) * (k - 1) := Int.mul_le_mul_of_nonneg_right (by omega) (by omega)
  omega
/-- what the program adds up -/
theorem cnt_code {n k last : Int} {r : List Int} (hk : 2 ≤ k) (hl : 1 ≤ last) :
    cnt n (k :: r) last = k * cnt n r (last / k) - sm 1 (fun m => hit n r m * (k - m - 1)) (min (last / k) (k - 2)).toNat +
      sm (last / k + 1) (fun m => hit n r m * cm k last m) ((last + (k - 1) * (k - 1)) / k - last / k).toNat := by
  have hk0 : (0 : Int) < k := by omega
  have q0 : 0 ≤ last / k := Int.ediv_nonneg (by omega) (by omega)
  have sq := Int.mul_nonneg (show 0 ≤ k - 1 by omega) (show 0 ≤ k - 1 by omega)
  have q1 : last / k ≤ (last + (k - 1) * (k - 1)) / k := Int.ediv_le_ediv hk0 (by omega)
  generalize hU : (last + (k - 1) * (k - 1)) / k = U at *
  generalize hL : last / k = L at *
  have e0 := cnt_cons (n := n) (r := r) hk (L.toNat + ((U - L).toNat + last.toNat)) last.toNat (by omega)
  rw [show ((last.toNat : Nat) : Int) = last by omega] at e0
  rw [e0, sm_split, sm_split]
  have e3 : sm (1 + (L.toNat : Int) + ((U - L).toNat : Int)) (fun m => hit n r m * cm k last m) last.toNat = 0 := sm_zero fun i _ => by
    show hit n r _ * cm k last _ = 0
    rw [cm_none hk (by omega) (by omega), Int.mul_zero]
  have e1 : sm 1 (fun m => hit n r m * cm k last m) L.toNat = sm 1 (fun m => k * hit n r m - (if m ≤ k - 2 then hit n r m * (k - m - 1) else 0)) L.toNat := sm_congr fun i _ => by
    show hit n r (1 + i) * cm k last (1 + i) = k * hit n r (1 + i) - _
    rw [cm_all hk (by omega) (by omega), Int.mul_sub, Int.mul_comm]
    split <;> simp
  have e2 : sm 1 (fun m => if m ≤ k - 2 then hit n r m * (k - m - 1) else 0) L.toNat = sm 1 (fun m => hit n r m * (k - m - 1)) (min L (k - 2)).toNat := by
    rw [show L.toNat = (min L (k - 2)).toNat + (L.toNat - (min L (k - 2)).toNat) by omega, sm_split]
    rw [sm_zero (n := L.toNat - (min L (k - 2)).toNat) fun i hi => if_neg (by omega), Int.add_zero]
    exact sm_congr fun i hi => if_pos (by omega)
  rw [e3, e1, sm_sub, e2, Int.add_zero, sm_mul, show (1 : Int) + (L.toNat : Int) = L + 1 by omega]
  rfl
/-- what the law's own counting adds up -/
def allOf (goal : Int) : List Int → Int
  | [] => 1
  | k :: r => k * allOf goal r - sm 1 (fun m => hit goal r m * (k - m - 1)) (k - 2).toNat
theorem hit_far {goal m : Int} {r : List Int} (t : Two r) (hm : 0 ≤ m) (h : goal * prodL r < m) : hit goal r m = 0 := by
  refine if_neg fun e => ?_
  have := sqz_ge hm t
  rw [e, Int.mul_comm] at this
  omega
theorem all_is {goal : Int} (hg : 1 ≤ goal) : ∀ {row : List Int}, Two row → allOf goal row = cnt goal row (goal * prodL row)
  | [], _ => by
    rw [show goal * prodL [] = goal by simp [prodL], cnt_nil hg hg, if_pos (Int.le_refl _)]
    rfl
  | k :: r, h => by
    have t : Two r := fun j hj => h j (List.mem_cons_of_mem _ hj)
    have hk := h k (List.mem_cons_self ..)
    have ih := all_is hg t
    have p := prodL_pos t
    have gp : 1 ≤ goal * prodL r := Int.mul_pos (by omega) (by omega)
    have e : goal * prodL (k :: r) = goal * prodL r * k := by
      rw [prodL_cons, Int.mul_comm k, Int.mul_assoc]
    have l1 : 1 ≤ goal * prodL r * k := Int.mul_pos (by omega) (by omega)
    rw [e, cnt_code hk l1, Int.mul_ediv_cancel _ (by omega), ← ih]
    generalize hL : goal * prodL r = L at *
    have z : sm (L + 1) (fun m => hit goal r m * cm k (L * k) m) (((L * k) + (k - 1) * (k - 1)) / k - L).toNat = 0 := sm_zero fun i _ => by
      show hit goal r _ * _ = 0
      rw [hit_far t (by omega) (by omega), Int.zero_mul]
    rw [z, Int.add_zero]
    show k * allOf goal r - _ = _
    congr 1
    rcases Int.le_total L (k - 2) with c | c
    · rw [show (k - 2).toNat = (min L (k - 2)).toNat + ((k - 2).toNat - (min L (k - 2)).toNat) by omega, sm_split]
      rw [sm_zero (n := (k - 2).toNat - (min L (k - 2)).toNat) fun i hi => by
        show hit goal r _ * _ = 0
        rw [hit_far t (by omega) (by omega), Int.zero_mul], Int.add_zero]
    · rw [show (min L (k - 2)).toNat = (k - 2).toNat by omega]
theorem cnt_far {goal last : Int} {row : List Int} (t : Two row) (hg : 1 ≤ goal) (h : goal * prodL row ≤ last) : cnt goal row last = cnt goal row (goal * prodL row) := by
  have p := prodL_pos t
  have gp : 1 ≤ goal * prodL row := Int.mul_pos (by omega) (by omega)
  unfold cnt
  rw [show last.toNat = (goal * prodL row).toNat + (last.toNat - (goal * prodL row).toNat) by omega, sm_split]
  rw [sm_zero (n := last.toNat - (goal * prodL row).toNat) fun i hi => hit_far t (by omega) (by omega), Int.add_zero]
theorem sm_le {lo : Int} {f : Int → Int} (h : ∀ x, f x ≤ 1) : ∀ n : Nat, sm lo f n ≤ n
  | 0 => Int.le_refl 0
  | n + 1 => by
    have := sm_le (lo := lo) h n
    have := h (lo + n)
    simp only [sm]
    omega
theorem cnt_le {n last : Int} {row : List Int} (h : 0 ≤ last) : cnt n row last ≤ last := by
  have := sm_le (lo := 1) (f := hit n row) (fun x => by unfold hit; split <;> decide) last.toNat
  unfold cnt
  omega
/-- what k alone makes m long, the greatest first -/
def befores (m k : Int) : List Int := (List.range (min (k - 1) m + 1).toNat).map fun (t : Nat) => m * k - (0 + (t : Int)) * (k - 1)
theorem sm_filter {last : Int} (f : Int → Int) : ∀ n : Nat, sm 0 (fun t => if f t ≤ last then 1 else 0) n = ((((List.range n).map fun (t : Nat) => f (0 + (t : Int))).filter fun x => decide (x ≤ last)).length : Int)
  | 0 => rfl
  | n + 1 => by
    show sm 0 _ n + (if f (0 + (n : Int)) ≤ last then 1 else 0) = _
    rw [sm_filter f n, List.range_succ, List.map_append, List.filter_append, List.length_append]
    by_cases c : f (0 + (n : Int)) ≤ last
    · rw [if_pos c]
      simp only [List.map_cons, List.map_nil, List.filter_cons, c, decide_true, if_true, List.filter_nil, List.length_singleton]
      omega
    · rw [if_neg c]
      simp only [List.map_cons, List.map_nil, List.filter_cons, c, decide_false, Bool.false_eq_true, if_false, List.filter_nil, List.length_nil]
      omega
theorem cm_len (k last m : Int) : cm k last m = (((befores m k).filter fun x => decide (x ≤ last)).length : Int) := sm_filter (fun t => m * k - t * (k - 1)) _
theorem foldl_mul (row : List Int) : ∀ a : Int, row.foldl (fun x k => x * k) a = a * prodL row := by
  induction row with
  | nil => intro a; simp [prodL]
  | cons k r ih =>
    intro a
    rw [List.foldl_cons, ih, prodL_cons, Int.mul_assoc]
end Sq


/-! all origins of a length, and sums of their counts -/
namespace Sq
theorem sm_comm {a b : Int} {f : Int → Int → Int} (m : Nat) : ∀ n : Nat, sm a (fun x => sm b (f x) m) n = sm b (fun y => sm a (fun x => f x y) n) m
  | 0 => by
    symm
    exact sm_zero fun i _ => rfl
  | n + 1 => by
    show sm a _ n + sm b (f (a + n)) m = _
    rw [sm_comm m n, ← sm_add]
    rfl
/-- the count with the length 0 -/
def cnt0 (n : Int) (row : List Int) (last : Int) : Int := if 0 < n then cnt n row last else 1
theorem cnt0_sum {row : List Int} {last T : Int} (h : Two row) (h0 : 0 ≤ last) (T0 : 0 ≤ T) (hT : ∀ x, 1 ≤ x → x ≤ last → sqz x row ≤ T) : sm 0 (fun g => cnt0 g row last) (T.toNat + 1) = last + 1 := by
  have e1 := sm_split (lo := 0) (f := fun g => cnt0 g row last) 1 T.toNat
  rw [Nat.add_comm 1] at e1
  rw [e1]
  have e2 : sm 0 (fun g => cnt0 g row last) 1 = 1 := by
    show 0 + cnt0 (0 + ((0 : Nat) : Int)) row last = 1
    rfl
  have e3 : sm (0 + ((1 : Nat) : Int)) (fun g => cnt0 g row last) T.toNat = sm 1 (fun g => sm 1 (fun x => hit g row x) last.toNat) T.toNat := by
    refine sm_congr fun i hi => ?_
    show cnt0 _ row last = cnt _ row last
    unfold cnt0
    rw [if_pos (by omega)]
  have e4 : sm 1 (fun x => sm 1 (fun g => hit g row x) T.toNat) last.toNat = (last.toNat : Int) := by
    refine sm_one fun i hi => ?_
    have a := sqz_pos (n := 1 + (i : Int)) (by omega) h
    have b := hT (1 + (i : Int)) (by omega) (by omega)
    have c : sm 1 (fun g => hit g row (1 + (i : Int))) T.toNat = sm 1 (fun t => if t = sqz (1 + (i : Int)) row then (fun _ => (1 : Int)) t else 0) T.toNat := sm_congr fun j _ => by
      show (if sqz (1 + (i : Int)) row = 1 + (j : Int) then (1 : Int) else 0) = if 1 + (j : Int) = sqz (1 + (i : Int)) row then 1 else 0
      by_cases z : sqz (1 + (i : Int)) row = 1 + (j : Int)
      · rw [if_pos z, if_pos z.symm]
      · rw [if_neg z, if_neg fun z2 => z z2.symm]
    show sm 1 (fun g => hit g row (1 + (i : Int))) T.toNat = 1
    rw [c, sm_ind, if_pos (by omega)]
  rw [e2, e3, sm_comm, e4]
  omega
theorem cnt0_next {g : Int} {row : List Int} {last : Int} (h0 : 0 ≤ last) (hn : sqz (last + 1) row ≠ g) : cnt0 g row (last + 1) = cnt0 g row last := by
  unfold cnt0
  split
  · rw [cnt_step (by omega), show last + 1 - 1 = last by omega]
    unfold hit
    rw [if_neg hn, Int.add_zero]
  · rfl
theorem slack_sum : ∀ {ns : List Int}, slack ns ≤ ns.sum
  | [] => by decide
  | k :: r => by
    have := slack_sum (ns := r)
    rw [slack_cons, List.sum_cons]
    omega
theorem sqz_top {row : List Int} {x last : Int} (h : Two row) (h0 : 0 ≤ x) (hl : x ≤ last) : sqz x row ≤ last / prodL row + row.sum := by
  have a := sqz_up h0 h
  have p := prodL_pos h
  have b : prodL row * (sqz x row - slack row) ≤ last := by
    rw [Int.mul_sub]
    omega
  rw [Int.mul_comm] at b
  have c := Int.le_ediv_of_mul_le (by omega) b
  have := slack_sum (ns := row)
  omega
/-! ### all origins -/
def orig (goal : Int) (row : List Int) : List Int := row.foldr (fun k acc => acc.flatMap fun m => befores m k) [goal]
theorem orig_cons (goal k : Int) (r : List Int) : orig goal (k :: r) = (orig goal r).flatMap fun m => befores m k := rfl
theorem mem_befores {m k x : Int} (hk : 2 ≤ k) (hm : 0 ≤ m) (h : x ∈ befores m k) : once x k = m ∧ 0 ≤ x ∧ x ≤ m * k := by
  unfold befores at h
  obtain ⟨t, ht, rfl⟩ := List.mem_map.mp h
  have ht := List.mem_range.mp ht
  have e : m * k - (0 + (t : Int)) * (k - 1) = (m - t) * k + t := by
    rw [Int.zero_add, Int.sub_mul, Int.mul_sub, Int.mul_one]
    omega
  have t0 : (0 : Int) ≤ (0 + (t : Int)) * (k - 1) := Int.mul_nonneg (by omega) (by omega)
  refine ⟨?_, ?_, by omega⟩
  · rw [e, once_qr (by omega) (by omega)]
    omega
  · rw [e]
    have := Int.mul_nonneg (show (0 : Int) ≤ m - t by omega) (show (0 : Int) ≤ k by omega)
    omega
theorem mem_orig {goal : Int} (h0 : 0 ≤ goal) : ∀ {row : List Int}, Two row → ∀ x ∈ orig goal row, sqz x row = goal ∧ 0 ≤ x ∧ x ≤ goal * prodL row
  | [], _, x, hx => by
    rw [List.mem_singleton.mp hx]
    exact ⟨rfl, h0, by simp [prodL]⟩
  | k :: r, h, x, hx => by
    have t : Two r := fun j hj => h j (List.mem_cons_of_mem _ hj)
    have hk := h k (List.mem_cons_self ..)
    rw [orig_cons] at hx
    obtain ⟨m, hm, hx⟩ := List.mem_flatMap.mp hx
    obtain ⟨a, b, c⟩ := mem_orig h0 t m hm
    obtain ⟨d, e, f⟩ := mem_befores hk b hx
    refine ⟨by rw [sqz_cons, d, a], e, Int.le_trans f ?_⟩
    rw [prodL_cons, Int.mul_comm k, ← Int.mul_assoc]
    exact Int.mul_le_mul_of_nonneg_right c (by omega)
theorem befores_le {m k : Int} (hk : 2 ≤ k) : ((befores m k).length : Int) ≤ k := by
  unfold befores
  rw [List.length_map, List.length_range]
  omega
theorem len_flat {k : Int} (hk : 2 ≤ k) : ∀ l : List Int, ((l.flatMap fun m => befores m k).length : Int) ≤ l.length * k
  | [] => by simp
  | a :: l => by
    have i := len_flat hk l
    have b := befores_le (m := a) hk
    rw [List.flatMap_cons, List.length_append, List.length_cons]
    have : (((l.length + 1 : Nat) : Int)) * k = l.length * k + k := by
      rw [Int.natCast_add, Int.add_mul]
      simp
    rw [this]
    omega
theorem len_orig {goal : Int} : ∀ {row : List Int}, Two row → ((orig goal row).length : Int) ≤ prodL row
  | [], _ => by simp [orig, prodL]
  | k :: r, h => by
    have t : Two r := fun j hj => h j (List.mem_cons_of_mem _ hj)
    have hk := h k (List.mem_cons_self ..)
    have i := len_orig (goal := goal) t
    have a := len_flat hk (orig goal r)
    rw [orig_cons, prodL_cons, Int.mul_comm k]
    exact Int.le_trans a (Int.mul_le_mul_of_nonneg_right i (by omega))
/-- the sum of f over a list -/
def sf (f : Int → Int) (l : List Int) : Int := (l.map f).sum
theorem sf_cons (f : Int → Int) (a : Int) (l : List Int) : sf f (a :: l) = f a + sf f l := by
  unfold sf
  rw [List.map_cons, List.sum_cons]
theorem sf_app (f : Int → Int) (a b : List Int) : sf f (a ++ b) = sf f a + sf f b := by
  unfold sf
  rw [List.map_append, List.sum_append]
theorem sf_flat (f : Int → Int) (g : Int → List Int) : ∀ l : List Int, sf f (l.flatMap g) = sf (fun m => sf f (g m)) l
  | [] => rfl
  | a :: l => by rw [List.flatMap_cons, sf_app, sf_flat f g l, sf_cons]
theorem sf_one : ∀ l : List Int, sf (fun _ => 1) l = l.length
  | [] => rfl
  | a :: l => by
    rw [sf_cons, sf_one l, List.length_cons]
    omega
theorem sf_range (f g : Int → Int) : ∀ n : Nat, sf f ((List.range n).map fun (t : Nat) => g (0 + (t : Int))) = sm 0 (fun t => f (g t)) n
  | 0 => rfl
  | n + 1 => by
    rw [List.range_succ, List.map_append, sf_app, sf_range f g n]
    show _ + sf f [g (0 + (n : Int))] = sm 0 _ n + f (g (0 + n))
    rw [sf_cons]
    simp [sf]
theorem sf_befores {m k : Int} (hk : 2 ≤ k) (hm : 1 ≤ m) (f : Int → Int) {B : Nat} (hB : m * k ≤ B) : sf f (befores m k) = sm 1 (fun x => if once x k = m then f x else 0) B := by
  unfold befores
  rw [sf_range f fun t => m * k - t * (k - 1)]
  have e1 : sm 0 (fun t => f (m * k - t * (k - 1))) (min (k - 1) m + 1).toNat = sm 0 (fun t => sm 1 (fun x => if x = m * k - t * (k - 1) then f x else 0) B) (min (k - 1) m + 1).toNat := sm_congr fun i hi => by
    have e : m * k - (0 + (i : Int)) * (k - 1) = (m - i) * k + i := by
      rw [Int.zero_add, Int.sub_mul, Int.mul_sub, Int.mul_one]
      omega
    have t0 : (0 : Int) ≤ (0 + (i : Int)) * (k - 1) := Int.mul_nonneg (by omega) (by omega)
    have p : 1 ≤ m * k - (0 + (i : Int)) * (k - 1) := by
      rw [e]
      rcases Int.lt_or_le (i : Int) m with c | c
      · have := Int.mul_le_mul (show (1 : Int) ≤ m - i by omega) hk (by decide) (by omega)
        omega
      · have : m - (i : Int) = 0 := by omega
        rw [this]
        omega
    show f _ = sm 1 (fun x => if x = m * k - (0 + (i : Int)) * (k - 1) then f x else 0) B
    rw [sm_ind, if_pos ⟨p, by omega⟩]
  rw [e1, sm_comm]
  refine sm_congr fun i hi => ?_
  show sm 0 (fun t => if 1 + (i : Int) = m * k - t * (k - 1) then f (1 + i) else 0) _ = if once (1 + (i : Int)) k = m then f (1 + i) else 0
  generalize hx : 1 + (i : Int) = x
  have x1 : 1 ≤ x := by omega
  by_cases c : once x k = m
  · rw [if_pos c]
    have e2 : sm 0 (fun t => if x = m * k - t * (k - 1) then f x else 0) (min (k - 1) m + 1).toNat = sm 0 (fun t => if t = x % k then (fun _ => f x) t else 0) (min (k - 1) m + 1).toNat := sm_congr fun j hj => by
      have z := pre_is (t := 0 + (j : Int)) hk x1 (by omega) (by omega) (m := m) (by omega)
      show (if x = m * k - (0 + (j : Int)) * (k - 1) then f x else 0) = if 0 + (j : Int) = x % k then f x else 0
      by_cases y : 0 + (j : Int) = x % k
      · rw [if_pos y, if_pos (z.mpr ⟨y, c⟩).symm]
      · rw [if_neg y, if_neg fun y2 => y (z.mp y2.symm).1]
    have r0 := Int.emod_nonneg x (show k ≠ 0 by omega)
    have r1 := Int.emod_lt_of_pos x (show 0 < k by omega)
    have r2 := Int.ediv_nonneg (show 0 ≤ x by omega) (show 0 ≤ k by omega)
    have r3 : x % k ≤ m := by
      unfold once at c
      omega
    rw [e2, sm_ind, if_pos (by omega)]
  · rw [if_neg c]
    refine sm_zero fun j hj => ?_
    have z := pre_is (t := 0 + (j : Int)) hk x1 (by omega) (by omega) (m := m) (by omega)
    show (if x = m * k - (0 + (j : Int)) * (k - 1) then f x else 0) = 0
    rw [if_neg fun y2 => c (z.mp y2.symm).2]
theorem sf_orig {goal : Int} (hg : 1 ≤ goal) : ∀ {row : List Int}, Two row → ∀ (f : Int → Int) (B : Nat), goal * prodL row ≤ B → sf f (orig goal row) = sm 1 (fun x => hit goal row x * f x) B
  | [], _, f, B, hB => by
    have e : sm 1 (fun x => hit goal [] x * f x) B = sm 1 (fun x => if x = goal then f x else 0) B := sm_congr fun i _ => by
      show (if 1 + (i : Int) = goal then (1 : Int) else 0) * f _ = _
      split
      · exact Int.one_mul _
      · exact Int.zero_mul _
    have hB : goal ≤ B := by simpa [prodL] using hB
    rw [e, sm_ind, if_pos (by omega)]
    show sf f [goal] = _
    rw [sf_cons]
    simp [sf]
  | k :: r, h, f, B, hB => by
    have t : Two r := fun j hj => h j (List.mem_cons_of_mem _ hj)
    have hk := h k (List.mem_cons_self ..)
    have p := prodL_pos t
    have gp : 1 ≤ goal * prodL r := Int.mul_pos (by omega) (by omega)
    have eB : goal * prodL (k :: r) = goal * prodL r * k := by rw [prodL_cons, Int.mul_comm k, ← Int.mul_assoc]
    rw [eB] at hB
    have ih := sf_orig hg t (fun m => sf f (befores m k)) (goal * prodL r).toNat (by omega)
    rw [orig_cons, sf_flat, ih]
    have e1 : sm 1 (fun x => hit goal r x * sf f (befores x k)) (goal * prodL r).toNat = sm 1 (fun m => sm 1 (fun x => hit goal r m * (if once x k = m then f x else 0)) B) (goal * prodL r).toNat := sm_congr fun i hi => by
      show hit goal r _ * sf f (befores (1 + (i : Int)) k) = sm 1 (fun x => hit goal r (1 + (i : Int)) * _) B
      rw [sm_mul (f := fun x => if once x k = 1 + (i : Int) then f x else 0), sf_befores hk (by omega) f (B := B)]
      refine Int.le_trans (Int.mul_le_mul_of_nonneg_right (show 1 + (i : Int) ≤ goal * prodL r by omega) (by omega)) hB
    rw [e1, sm_comm]
    refine sm_congr fun i hi => ?_
    show sm 1 (fun m => hit goal r m * (if once (1 + (i : Int)) k = m then f (1 + i) else 0)) _ = hit goal (k :: r) (1 + (i : Int)) * f (1 + i)
    generalize hx : 1 + (i : Int) = x
    have x1 : 1 ≤ x := by omega
    have o1 := once_pos x1 hk
    have e2 : sm 1 (fun m => hit goal r m * (if once x k = m then f x else 0)) (goal * prodL r).toNat = sm 1 (fun m => if m = once x k then (fun m => hit goal r m * f x) m else 0) (goal * prodL r).toNat := sm_congr fun j _ => by
      show hit goal r (1 + (j : Int)) * (if once x k = 1 + (j : Int) then f x else 0) = if 1 + (j : Int) = once x k then hit goal r (1 + (j : Int)) * f x else 0
      by_cases y : 1 + (j : Int) = once x k
      · rw [if_pos y, if_pos y.symm]
      · rw [if_neg y, if_neg fun y2 => y y2.symm, Int.mul_zero]
    rw [e2, sm_ind]
    show _ = hit goal r (once x k) * f x
    by_cases c : once x k ≤ goal * prodL r
    · rw [if_pos (by omega)]
    · rw [if_neg (by omega), hit_far t (by omega) (by omega), Int.zero_mul]
theorem orig_zero : ∀ {row : List Int}, Two row → orig 0 row = [0]
  | [], _ => rfl
  | k :: r, h => by
    have t : Two r := fun j hj => h j (List.mem_cons_of_mem _ hj)
    have hk := h k (List.mem_cons_self ..)
    rw [orig_cons, orig_zero t]
    show befores 0 k ++ [] = [0]
    unfold befores
    rw [show (min (k - 1) 0 + 1).toNat = 1 by omega]
    simp
/-- as many as are counted -/
theorem orig_len {goal : Int} {row : List Int} (h0 : 0 ≤ goal) (h : Two row) : ((orig goal row).length : Int) = cnt0 goal row (goal * prodL row) := by
  unfold cnt0
  split
  · rename_i g
    have p := prodL_pos h
    have gp : 1 ≤ goal * prodL row := Int.mul_pos (by omega) (by omega)
    rw [← sf_one, sf_orig (by omega) h (fun _ => 1) (goal * prodL row).toNat (by omega)]
    unfold cnt
    exact sm_congr fun i _ => Int.mul_one _
  · rename_i g
    rw [show goal = 0 by omega, orig_zero h]
    rfl
end Sq


namespace Sq
/-! ## a run that two different lists make to different lengths -/
theorem sqz_prod {ns : List Int} (h : Two ns) : sqz (prodL ns) ns = 1 := by
  have e := sqz_mul (m := 1) h
  rw [Int.one_mul] at e
  exact e
theorem sqz_far {ns : List Int} {n : Int} (h : Two ns) (hn : prodL ns < n) : 2 ≤ sqz n ns := by
  have p := prodL_pos h
  have g := sqz_ge (show 0 ≤ n by omega) h
  have s1 : 1 ≤ sqz n ns := sqz_pos (by omega) h
  rcases (show sqz n ns = 1 ∨ 2 ≤ sqz n ns by omega) with z | z
  · rw [z, Int.mul_one] at g
    omega
  · exact z
/-- products differ -/
theorem part_max {as bs : List Int} (ha : Two as) (hb : Two bs) (h : prodL as ≠ prodL bs) {n : Int} (hn : n = if prodL bs > prodL as then prodL bs else prodL as) : 1 ≤ n ∧ sqz n as ≠ sqz n bs := by
  have pa := prodL_pos ha
  have pb := prodL_pos hb
  by_cases c : prodL bs > prodL as
  · rw [if_pos c] at hn
    subst hn
    have e := sqz_prod hb
    have f := sqz_far ha c
    exact ⟨pb, by omega⟩
  · rw [if_neg c] at hn
    subst hn
    have e := sqz_prod ha
    have f := sqz_far hb (n := prodL as) (by omega)
    exact ⟨pa, by omega⟩
theorem part_head {a b : Int} {r t : List Int} (ha : 2 ≤ a) (hr : Two r) (hb : 2 ≤ b) (ht : Two t) (hp : a * prodL r = b * prodL t) (lt : a < b) :
    1 ≤ a * prodL r - a + 1 ∧ sqz (a * prodL r - a + 1) (a :: r) = 1 ∧ 2 ≤ sqz (a * prodL r - a + 1) (b :: t) := by
  have pr := prodL_pos hr
  have pt := prodL_pos ht
  have e1 : a * prodL r - a + 1 = (prodL r - 1) * a + 1 := by
    rw [Int.sub_mul, Int.one_mul, Int.mul_comm a]
  have e2 : a * prodL r - a + 1 = (prodL t - 1) * b + (b - a + 1) := by
    rw [hp, Int.sub_mul, Int.one_mul, Int.mul_comm b]
    omega
  refine ⟨?_, ?_, ?_⟩
  · have := Int.mul_nonneg (show 0 ≤ prodL r - 1 by omega) (show 0 ≤ a by omega)
    omega
  · rw [sqz_cons, e1, once_qr (by omega) (by omega), show prodL r - 1 + 1 = prodL r by omega]
    exact sqz_prod hr
  · rw [sqz_cons, e2, once_qr (by omega) (by omega)]
    exact sqz_far ht (by omega)
theorem pre_mul {pre r : List Int} (h : Two pre) (m : Int) : sqz (m * prodL pre) (pre ++ r) = sqz m r := by
  rw [sqz_app, sqz_mul h]
/-- the first place where they differ -/
theorem part_at {as bs : List Int} {j : Nat} {a b : Int} (ha : Two as) (hb : Two bs) (hp : prodL as = prodL bs) (hj : ∀ i, i < j → as[i]? = bs[i]?) (ea : as[j]? = some a) (eb : bs[j]? = some b) (ne : a ≠ b) :
    let n := (prodL (as.drop j) - (if b < a then b else a) + 1) * prodL (as.take j)
    1 ≤ n ∧ sqz n as ≠ sqz n bs := by
  intro n
  have tk : as.take j = bs.take j := by
    apply List.ext_getElem?
    intro i
    rw [List.getElem?_take, List.getElem?_take]
    split
    · exact hj i (by assumption)
    · rfl
  obtain ⟨la, ga⟩ := List.getElem?_eq_some_iff.mp ea
  obtain ⟨lb, gb⟩ := List.getElem?_eq_some_iff.mp eb
  have da : as.drop j = a :: as.drop (j + 1) := by rw [List.drop_eq_getElem_cons la, ga]
  have db : bs.drop j = b :: bs.drop (j + 1) := by rw [List.drop_eq_getElem_cons lb, gb]
  have sa : as = as.take j ++ (a :: as.drop (j + 1)) := by rw [← da, List.take_append_drop]
  have sb : bs = as.take j ++ (b :: bs.drop (j + 1)) := by rw [tk, ← db, List.take_append_drop]
  have tp : Two (as.take j) := fun k hk => ha k (List.mem_of_mem_take hk)
  have tr : Two (as.drop (j + 1)) := fun k hk => ha k (List.mem_of_mem_drop hk)
  have tt : Two (bs.drop (j + 1)) := fun k hk => hb k (List.mem_of_mem_drop hk)
  have a2 := ha a (List.mem_of_getElem? ea)
  have b2 := hb b (List.mem_of_getElem? eb)
  have pp := prodL_pos tp
  have eq : a * prodL (as.drop (j + 1)) = b * prodL (bs.drop (j + 1)) := by
    have h1 : prodL as = prodL (as.take j) * (a * prodL (as.drop (j + 1))) := by
      conv => lhs; rw [sa, prodL_app, prodL_cons]
    have h2 : prodL bs = prodL (as.take j) * (b * prodL (bs.drop (j + 1))) := by
      conv => lhs; rw [sb, prodL_app, prodL_cons]
    rw [h1, h2] at hp
    exact Int.eq_of_mul_eq_mul_left (by omega) hp
  have nd : prodL (as.drop j) = a * prodL (as.drop (j + 1)) := by rw [da, prodL_cons]
  have key : ∀ m, sqz (m * prodL (as.take j)) as = sqz m (a :: as.drop (j + 1)) ∧ sqz (m * prodL (as.take j)) bs = sqz m (b :: bs.drop (j + 1)) := fun m => ⟨by
    conv => lhs; arg 2; rw [sa]
    exact pre_mul tp m, by
    conv => lhs; arg 2; rw [sb]
    exact pre_mul tp m⟩
  have pos : ∀ m, 1 ≤ m → 1 ≤ m * prodL (as.take j) := fun m hm => by
    have := Int.mul_le_mul hm pp (by decide) (by omega)
    omega
  show 1 ≤ (prodL (as.drop j) - (if b < a then b else a) + 1) * prodL (as.take j) ∧ _
  rw [show n = (prodL (as.drop j) - (if b < a then b else a) + 1) * prodL (as.take j) from rfl, nd, (key _).1, (key _).2]
  by_cases c : b < a
  · rw [if_pos c, eq]
    obtain ⟨h1, h2, h3⟩ := part_head b2 tt a2 tr eq.symm c
    exact ⟨pos _ h1, by omega⟩
  · rw [if_neg c]
    obtain ⟨h1, h2, h3⟩ := part_head a2 tr b2 tt eq (by omega)
    exact ⟨pos _ h1, by omega⟩
/-- there is such a place -/
theorem part_has : ∀ {as bs : List Int}, Two as → Two bs → prodL as = prodL bs → as ≠ bs → ∃ (j : Nat) (a b : Int), as[j]? = some a ∧ bs[j]? = some b ∧ a ≠ b ∧ ∀ i, i < j → as[i]? = bs[i]?
  | [], [], _, _, _, ne => absurd rfl ne
  | [], b :: t, _, hb, hp, ne => absurd (prodL_one hb (by rw [← hp]; exact Int.le_refl 1)) (by simp)
  | a :: r, [], ha, _, hp, ne => absurd (prodL_one ha (by rw [hp]; exact Int.le_refl 1)) (by simp)
  | a :: r, b :: t, ha, hb, hp, ne => by
    by_cases e : a = b
    · subst e
      have a2 := ha a (List.mem_cons_self ..)
      have hp2 : prodL r = prodL t := by
        rw [prodL_cons, prodL_cons] at hp
        exact Int.eq_of_mul_eq_mul_left (by omega) hp
      obtain ⟨j, x, y, h1, h2, h3, h4⟩ := part_has (fun k hk => ha k (List.mem_cons_of_mem _ hk)) (fun k hk => hb k (List.mem_cons_of_mem _ hk)) hp2 (fun z => ne (by rw [z]))
      refine ⟨j + 1, x, y, by simpa using h1, by simpa using h2, h3, fun i hi => ?_⟩
      cases i with
      | zero => rfl
      | succ i => simpa using h4 i (by omega)
    · exact ⟨0, a, b, rfl, rfl, e, fun i hi => absurd hi (by omega)⟩
end Sq


/-! lists read back from the runs that become single -/
namespace Sq
/-- how many runs a replacement needs for some later lengths -/
def need (r : Int) (later : List Int) : Int := (later.map fun l => if l + 1 < r then l + 1 else r).sum
theorem need_cons (r l : Int) (t : List Int) : need r (l :: t) = (if l + 1 < r then l + 1 else r) + need r t := by simp [need]
theorem need_snoc (r l : Int) (t : List Int) : need r (t ++ [l]) = need r t + (if l + 1 < r then l + 1 else r) := by simp [need]
/-- nothing is missing -/
def Whole (p later : List Int) (b r : Int) : Prop := 1 < r ∧ need r later = p.length ∧ ∃ t lb, later = t ++ [lb] ∧ b = lb * r
/-- what the program finds for ascending runs -/
inductive Lof : List Int → Option (List Int) → Prop
  | one : Lof [1] (some [])
  | bad {p : List Int} : p ≠ [1] → (p.length < 2 ∨ p.head? ≠ some 1) → Lof p none
  | no {p u later : List Int} {a b : Int} : p = u ++ [a, b] → p.head? = some 1 → later.Pairwise (· < ·) → (∀ x, x ∈ later ↔ x ∈ p.map fun n => once n (b - a + 1)) → ¬ Whole p later b (b - a + 1) → Lof p none
  | step {p u later : List Int} {a b : Int} {res : Option (List Int)} : p = u ++ [a, b] → p.head? = some 1 → later.Pairwise (· < ·) → (∀ x, x ∈ later ↔ x ∈ p.map fun n => once n (b - a + 1)) → Whole p later b (b - a + 1) → Lof later res → Lof p (res.map ((b - a + 1) :: ·))
/-- the runs that become single -/
def Sgl (p row : List Int) : Prop := ∀ x, x ∈ p ↔ 1 ≤ x ∧ sqz x row = 1
theorem asc_nodup {p : List Int} (h : p.Pairwise (· < ·)) : p.Nodup := h.imp fun h => by omega
theorem asc_eq {p q : List Int} (hp : p.Pairwise (· < ·)) (hq : q.Pairwise (· < ·)) (h : ∀ x, x ∈ p ↔ x ∈ q) : p = q := by
  have pm : p.Perm q := (List.perm_ext_iff_of_nodup (asc_nodup hp) (asc_nodup hq)).mpr h
  exact pm.eq_of_pairwise (fun a b _ _ h1 h2 => by omega) hp hq
theorem sub_perm : ∀ {p q : List Int}, p.Nodup → (∀ x ∈ p, x ∈ q) → q.length ≤ p.length → p.Perm q
  | [], q, _, _, h => by
    have : q = [] := List.length_eq_zero_iff.mp (Nat.le_zero.mp h)
    rw [this]
  | x :: t, q, nd, sub, h => by
    have hx := sub x (List.mem_cons_self ..)
    have e := List.perm_cons_erase hx
    obtain ⟨n1, n2⟩ := List.nodup_cons.mp nd
    have l := e.length_eq
    rw [List.length_cons] at l
    rw [List.length_cons] at h
    refine ((sub_perm n2 (fun y hy => ?_) (by omega)).cons x).trans e.symm
    have hy2 := e.mem_iff.mp (sub y (List.mem_cons_of_mem _ hy))
    rcases List.mem_cons.mp hy2 with z | z
    · rw [z] at hy
      exact absurd hy n1
    · exact z
theorem drop_last {l : List Int} (h : l ≠ []) : l = l.dropLast ++ [l.getLast h] := by
  induction l with
  | nil => exact absurd rfl h
  | cons x t ih =>
    cases t with
    | nil => rfl
    | cons y t =>
      have := ih (List.cons_ne_nil y t)
      show x :: (y :: t) = x :: ((y :: t).dropLast ++ _)
      congr 1
theorem in_befores {x k : Int} (hk : 2 ≤ k) (hx : 1 ≤ x) : x ∈ befores (once x k) k := by
  unfold befores
  obtain ⟨q, r, e, r0, r1, e1, e2⟩ := qr x hk
  have q0 : 0 ≤ q := by rw [← e1]; exact Int.ediv_nonneg (by omega) (by omega)
  have eo : once x k = q + r := by unfold once; rw [e1, e2]
  refine List.mem_map.mpr ⟨r.toNat, List.mem_range.mpr (by omega), ?_⟩
  rw [eo, show (0 : Int) + (r.toNat : Int) = r by omega, Int.add_mul, Int.mul_sub, Int.mul_one]
  omega
theorem befores_pos {m k x : Int} (hk : 2 ≤ k) (hm : 1 ≤ m) (h : x ∈ befores m k) : 1 ≤ x := by
  obtain ⟨e, x0, _⟩ := mem_befores hk (by omega) h
  rcases Int.lt_or_eq_of_le x0 with z | z
  · omega
  · subst z
    rw [once_small (by omega) (by omega)] at e
    omega
theorem befores_nodup {m k : Int} (hk : 2 ≤ k) : (befores m k).Nodup := by
  unfold befores
  refine List.Pairwise.map _ ?_ List.nodup_range
  intro a b hab e
  have e2 : (0 + (a : Int)) * (k - 1) = (0 + (b : Int)) * (k - 1) := by omega
  have := Int.eq_of_mul_eq_mul_right (show k - 1 ≠ 0 by omega) e2
  omega
theorem befores_num {m k : Int} (hk : 2 ≤ k) (hm : 1 ≤ m) : ((befores m k).length : Int) = if m + 1 < k then m + 1 else k := by
  unfold befores
  rw [List.length_map, List.length_range]
  split <;> omega
theorem flat_num {k : Int} (hk : 2 ≤ k) : ∀ {l : List Int}, (∀ m ∈ l, 1 ≤ m) → (((l.flatMap fun m => befores m k).length : Nat) : Int) = need k l
  | [], _ => rfl
  | m :: t, h => by
    rw [List.flatMap_cons, List.length_append, need_cons, Int.natCast_add, befores_num hk (h m (List.mem_cons_self ..)), flat_num hk fun j hj => h j (List.mem_cons_of_mem _ hj)]
theorem flat_nodup {k : Int} (hk : 2 ≤ k) : ∀ {l : List Int}, (∀ m ∈ l, 1 ≤ m) → l.Nodup → (l.flatMap fun m => befores m k).Nodup
  | [], _, _ => List.nodup_nil
  | m :: t, h, nd => by
    rw [List.flatMap_cons]
    refine List.nodup_append.mpr ⟨befores_nodup hk, flat_nodup hk (fun j hj => h j (List.mem_cons_of_mem _ hj)) (List.nodup_cons.mp nd).2, fun x hx y hy e => ?_⟩
    subst e
    obtain ⟨m2, hm2, hy⟩ := List.mem_flatMap.mp hy
    have e1 := (mem_befores hk (by have := h m (List.mem_cons_self ..); omega) hx).1
    have e2 := (mem_befores hk (by have := h m2 (List.mem_cons_of_mem _ hm2); omega) hy).1
    rw [e1] at e2
    subst e2
    exact (List.nodup_cons.mp nd).1 hm2
theorem mem_flat {k : Int} (hk : 2 ≤ k) {l : List Int} (h : ∀ m ∈ l, 1 ≤ m) (x : Int) : x ∈ (l.flatMap fun m => befores m k) ↔ 1 ≤ x ∧ once x k ∈ l := by
  constructor
  · intro hx
    obtain ⟨m, hm, hx⟩ := List.mem_flatMap.mp hx
    have m1 := h m hm
    refine ⟨befores_pos hk m1 hx, ?_⟩
    rw [(mem_befores hk (by omega) hx).1]
    exact hm
  · rintro ⟨x1, hx⟩
    exact List.mem_flatMap.mpr ⟨_, hx, in_befores hk x1⟩
/-- what is found is a list for these runs -/
theorem lof_sound {p : List Int} {res : Option (List Int)} (h : Lof p res) : ∀ row, res = some row → p.Pairwise (· < ·) → (∀ x ∈ p, 1 ≤ x) → Two row ∧ Sgl p row := by
  induction h with
  | one =>
    intro row e _ _
    cases e
    refine ⟨(fun k hk => nomatch hk), fun x => ?_⟩
    rw [List.mem_singleton]
    show x = 1 ↔ 1 ≤ x ∧ x = 1
    omega
  | bad => intro row e; cases e
  | no => intro row e; cases e
  | @step p u later a b res e hh asc ml wh _ ih =>
    intro row er ap pos
    cases res with
    | none => cases er
    | some r =>
      have er : (b - a + 1) :: r = row := Option.some.inj er
      subst er
      obtain ⟨k1, nd, _⟩ := wh
      generalize hk : b - a + 1 = k at *
      have k2 : 2 ≤ k := by omega
      have posl : ∀ m ∈ later, 1 ≤ m := fun m hm => by
        obtain ⟨n, hn, rfl⟩ := List.mem_map.mp ((ml m).mp hm)
        exact once_pos (pos n hn) k2
      obtain ⟨tr, sg⟩ := ih r rfl asc posl
      refine ⟨fun j hj => ?_, fun x => ?_⟩
      · rcases List.mem_cons.mp hj with z | z
        · omega
        · exact tr j z
      · have sub : p ⊆ later.flatMap fun m => befores m k := fun x hx => (mem_flat k2 posl x).mpr ⟨pos x hx, (ml _).mpr (List.mem_map.mpr ⟨x, hx, rfl⟩)⟩
        have ln : (later.flatMap fun m => befores m k).length = p.length := by
          have := flat_num k2 posl
          omega
        have pm := sub_perm (asc_nodup ap) sub (by omega)
        rw [pm.mem_iff, mem_flat k2 posl, sg, sqz_cons]
        constructor
        · rintro ⟨h1, _, h2⟩
          exact ⟨h1, h2⟩
        · rintro ⟨h1, h2⟩
          exact ⟨h1, once_pos h1 k2, h2⟩
theorem asc_last {p : List Int} (h : p.Pairwise (· < ·)) {u : List Int} {b : Int} (e : p = u ++ [b]) : ∀ x ∈ p, x ≤ b := fun x hx => by
  subst e
  rcases List.mem_append.mp hx with z | z
  · have := (List.pairwise_append.mp h).2.2 x z b (List.mem_singleton.mpr rfl)
    omega
  · rw [List.mem_singleton.mp z]
    exact Int.le_refl _
theorem sgl_top {p row : List Int} (h : Two row) (sg : Sgl p row) : prodL row ∈ p ∧ ∀ x ∈ p, x ≤ prodL row := by
  refine ⟨(sg _).mpr ⟨prodL_pos h, sqz_prod h⟩, fun x hx => ?_⟩
  rcases Int.lt_or_le (prodL row) x with z | z
  · have := sqz_far h z
    have := ((sg x).mp hx).2
    omega
  · exact z
theorem sqz_1 : ∀ {row : List Int}, Two row → sqz 1 row = 1
  | [], _ => rfl
  | k :: r, h => by
    have hk := h k (List.mem_cons_self ..)
    rw [sqz_cons, once_small (by omega) (by omega)]
    exact sqz_1 fun j hj => h j (List.mem_cons_of_mem _ hj)
/-- the list for these runs is found -/
theorem lof_full : ∀ {row p : List Int} {res : Option (List Int)}, Two row → Sgl p row → p.Pairwise (· < ·) → Lof p res → res = some row
  | [], p, res, _, sg, asc, h => by
    have e : p = [1] := asc_eq asc (by simp) fun x => by
      rw [sg, List.mem_singleton]
      show 1 ≤ x ∧ x = 1 ↔ x = 1
      omega
    have no2 : ∀ (u : List Int) (a b : Int), p ≠ u ++ [a, b] := fun u a b z => by
      rw [e] at z
      have := congrArg List.length z
      simp at this
    cases h with
    | one => rfl
    | bad n _ => exact absurd e n
    | no e2 => exact absurd e2 (no2 _ _ _)
    | step e2 => exact absurd e2 (no2 _ _ _)
  | k :: r, p, res, hh, sg, asc, h => by
    have k2 := hh k (List.mem_cons_self ..)
    have tr : Two r := fun j hj => hh j (List.mem_cons_of_mem _ hj)
    obtain ⟨mt, top⟩ := sgl_top hh sg
    have pr := prodL_pos tr
    have pk : prodL (k :: r) = k * prodL r := rfl
    have big : k ≤ prodL (k :: r) := by
      have := Int.mul_le_mul_of_nonneg_left pr (show 0 ≤ k by omega)
      omega
    have m1 : (1 : Int) ∈ p := (sg 1).mpr ⟨by decide, sqz_1 hh⟩
    have pos : ∀ x ∈ p, 1 ≤ x := fun x hx => ((sg x).mp hx).1
    have key : ∀ (u : List Int) (a b : Int), p = u ++ [a, b] → b = prodL (k :: r) ∧ b - a + 1 = k := fun u a b e => by
      have eb : b = prodL (k :: r) := by
        have h1 := asc_last asc (u := u ++ [a]) (b := b) (by rw [e]; simp) _ mt
        have h2 := top b (by rw [e]; simp)
        omega
      have ab : a < b := by
        rw [e] at asc
        have := (List.pairwise_append.mp asc).2.1
        simpa using this
      have am : a ∈ p := by rw [e]; simp
      have a1 := pos a am
      have hs : prodL (k :: r) - k + 1 ∈ p := (sg _).mpr ⟨by omega, next_hit hh⟩
      have le : prodL (k :: r) - k + 1 ≤ a := by
        rw [e] at hs
        rcases List.mem_append.mp hs with z | z
        · rw [e] at asc
          have := (List.pairwise_append.mp asc).2.2 _ z a (by simp)
          omega
        · simp at z
          omega
      refine ⟨eb, ?_⟩
      rcases Int.lt_or_eq_of_le le with z | z
      · exfalso
        have ms := next_miss hh (j := prodL (k :: r) - a + 1) (by omega) (by omega)
        rw [show prodL (k :: r) - (prodL (k :: r) - a + 1) + 1 = a by omega] at ms
        have := ((sg a).mp am).2
        omega
      · omega
    have lat : ∀ later : List Int, (∀ x, x ∈ later ↔ x ∈ p.map fun n => once n k) → Sgl later r := fun later ml x => by
      rw [ml]
      constructor
      · intro hx
        obtain ⟨n, hn, rfl⟩ := List.mem_map.mp hx
        have q := (sg n).mp hn
        rw [sqz_cons] at q
        exact ⟨once_pos q.1 k2, q.2⟩
      · rintro ⟨x1, hx⟩
        have e : once (x * k) k = x := by
          have z := once_qr (q := x) (r := 0) (k := k) (by omega) (by omega)
          rw [Int.add_zero, Int.add_zero] at z
          exact z
        refine List.mem_map.mpr ⟨x * k, (sg _).mpr ⟨?_, by rw [sqz_cons, e]; exact hx⟩, e⟩
        have := Int.mul_le_mul x1 (show (1 : Int) ≤ k by omega) (by decide) (by omega)
        omega
    cases h with
    | one =>
      have := List.mem_singleton.mp mt
      omega
    | bad n c =>
      exfalso
      have nn : p ≠ [] := fun z => by rw [z] at m1; cases m1
      cases p with
      | nil => exact nn rfl
      | cons x t =>
        have x1 := pos x (List.mem_cons_self ..)
        have ex : x = 1 := by
          rcases List.mem_cons.mp m1 with z | z
          · exact z.symm
          · have := (List.pairwise_cons.mp asc).1 1 z
            omega
        rcases c with c | c
        · cases t with
          | nil => exact n (by rw [ex])
          | cons y t =>
            simp only [List.length_cons] at c
            omega
        · exact c (by rw [ex]; rfl)
    | @no _ u later a b e _ al ml nw =>
      exfalso
      obtain ⟨eb, ek⟩ := key u a b e
      rw [ek] at ml nw
      have sl := lat later ml
      have posl : ∀ m ∈ later, 1 ≤ m := fun m hm => ((sl m).mp hm).1
      refine nw ⟨by omega, ?_, ?_⟩
      · rw [← flat_num k2 posl]
        congr 1
        refine List.Perm.length_eq ((List.perm_ext_iff_of_nodup (flat_nodup k2 posl (asc_nodup al)) (asc_nodup asc)).mpr fun x => ?_)
        rw [mem_flat k2 posl, sl, sg, sqz_cons]
        constructor
        · rintro ⟨h1, _, h2⟩
          exact ⟨h1, h2⟩
        · rintro ⟨h1, h2⟩
          exact ⟨h1, once_pos h1 k2, h2⟩
      · obtain ⟨ml2, tl⟩ := sgl_top tr sl
        have nl : later ≠ [] := fun z => by rw [z] at ml2; cases ml2
        refine ⟨later.dropLast, later.getLast nl, drop_last nl, ?_⟩
        have h1 := asc_last al (drop_last nl) _ ml2
        have h2 := tl _ (List.getLast_mem nl)
        rw [eb, pk, Int.mul_comm k, show later.getLast nl = prodL r by omega]
    | @step _ u later a b res e _ al ml _ h2 =>
      obtain ⟨eb, ek⟩ := key u a b e
      rw [ek] at ml ⊢
      rw [lof_full tr (lat later ml) al h2]
      rfl
end Sq


set_option maxRecDepth 100000
/-! all lists with a product, by a stack; the single runs as a list -/
namespace Sq
/-- the divisors of a number, but 1 -/
def dvs (n : Int) : List Int := ((List.range (n + 1 - 2).toNat).map fun (i : Nat) => 2 + (i : Int)).filter fun d => decide (n % d = 0)
theorem mem_dvs {n d : Int} : d ∈ dvs n ↔ 2 ≤ d ∧ d ≤ n ∧ n % d = 0 := by
  unfold dvs
  rw [List.mem_filter, decide_eq_true_iff, List.mem_map]
  constructor
  · rintro ⟨⟨i, hi, rfl⟩, h⟩
    have := List.mem_range.mp hi
    exact ⟨by omega, by omega, h⟩
  · rintro ⟨h1, h2, h3⟩
    exact ⟨⟨(d - 2).toNat, List.mem_range.mpr (by omega), by omega⟩, h3⟩
theorem dvs_nodup (n : Int) : (dvs n).Nodup := by
  unfold dvs
  refine List.Pairwise.filter _ (List.Pairwise.map _ ?_ List.nodup_range)
  intro a b h e
  omega
theorem count_one {l : List Int} {d : Int} (nd : l.Nodup) (h : d ∈ l) : l.countP (fun x => decide (x = d)) = 1 := by
  induction l with
  | nil => cases h
  | cons x t ih =>
    obtain ⟨n1, n2⟩ := List.nodup_cons.mp nd
    by_cases e : x = d
    · subst e
      rw [List.countP_cons_of_pos (by simp), List.countP_eq_zero.mpr fun y hy => by
        simp
        intro z
        rw [z] at hy
        exact n1 hy]
    · rw [List.countP_cons_of_neg (by simpa using e)]
      rcases List.mem_cons.mp h with z | z
      · exact absurd z.symm e
      · exact ih n2 z
/-- how many of the waiting ones lead to t -/
def pend (W : List (List Int × Int)) (t : List Int) : Nat := W.countP fun w => decide (w.1 <+: t)
def kids (row : List Int) (left : Int) : List (List Int × Int) := (dvs left).map fun d => (row ++ [d], left / d)
theorem pend_app (A B : List (List Int × Int)) (t : List Int) : pend (A ++ B) t = pend A t + pend B t := List.countP_append
theorem kids_one (row : List Int) : kids row 1 = [] := rfl
theorem prefix_one {row t : List Int} {top : Int} (hr : Two row) (ht : Two t) (e : prodL row * 1 = top) (et : prodL t = top) : row <+: t ↔ row = t := by
  constructor
  · rintro ⟨u, rfl⟩
    have tu : Two u := fun k hk => ht k (List.mem_append_right _ hk)
    have pr := prodL_pos hr
    rw [prodL_app] at et
    have : prodL u = 1 := by
      have h1 : prodL row * prodL u = prodL row * 1 := by omega
      exact Int.eq_of_mul_eq_mul_left (by omega) h1
    rw [prodL_one tu (by omega), List.append_nil]
  · rintro rfl
    exact List.prefix_rfl
theorem pend_kids {row t : List Int} {left top : Int} (hr : Two row) (ht : Two t) (hl : 2 ≤ left) (e : prodL row * left = top) (et : prodL t = top) : pend (kids row left) t = pend [(row, left)] t := by
  unfold pend kids
  rw [List.countP_map]
  by_cases h : row <+: t
  · have h1 : [(row, left)].countP (fun w => decide (w.1 <+: t)) = 1 := by simp [h]
    rw [h1]
    obtain ⟨u, rfl⟩ := h
    have tu : Two u := fun k hk => ht k (List.mem_append_right _ hk)
    have pr := prodL_pos hr
    rw [prodL_app] at et
    have pu : prodL u = left := Int.eq_of_mul_eq_mul_left (show prodL row ≠ 0 by omega) (by omega)
    cases u with
    | nil => simp [prodL] at pu; omega
    | cons d v =>
      have d2 := tu d (List.mem_cons_self ..)
      have pv := prodL_pos (ns := v) fun k hk => tu k (List.mem_cons_of_mem _ hk)
      rw [prodL_cons] at pu
      have dm : d ∈ dvs left := mem_dvs.mpr ⟨d2, by
        have := Int.mul_le_mul_of_nonneg_left pv (show 0 ≤ d by omega)
        omega, by rw [← pu, Int.mul_emod_right]⟩
      rw [← count_one (dvs_nodup left) dm]
      congr 1
      funext x
      show decide (row ++ [x] <+: row ++ d :: v) = decide (x = d)
      refine decide_eq_decide.mpr ?_
      rw [List.prefix_append_right_inj]
      simp
  · have h1 : [(row, left)].countP (fun w => decide (w.1 <+: t)) = 0 := by simp [h]
    rw [h1]
    refine List.countP_eq_zero.mpr fun d _ => ?_
    simp only [Function.comp, decide_eq_true_iff]
    intro hh
    exact h (List.IsPrefix.trans (List.prefix_append row [d]) hh)
/-- how many entries a number brings -/
def gF : Nat → Int → Nat
  | 0, _ => 1
  | f + 1, n => 1 + ((dvs n).map fun d => gF f (n / d)).sum
theorem gF_eq : ∀ n ∈ ((List.range 61).map fun (i : Nat) => (i : Int)), gF 8 n = 1 + ((dvs n).map fun d => gF 8 (n / d)).sum ∧ gF 8 n ≤ 400 := by decide +kernel
theorem gF_step {n : Int} (h0 : 0 ≤ n) (h1 : n ≤ 60) : gF 8 n = 1 + ((dvs n).map fun d => gF 8 (n / d)).sum ∧ gF 8 n ≤ 400 :=
  gF_eq n (List.mem_map.mpr ⟨n.toNat, List.mem_range.mpr (by omega), by omega⟩)
def wgt (W : List (List Int × Int)) : Nat := (W.map fun w => gF 8 w.2).sum
theorem wgt_app (A B : List (List Int × Int)) : wgt (A ++ B) = wgt A + wgt B := by simp [wgt]
theorem wgt_kids (row : List Int) {left : Int} (h0 : 0 ≤ left) (h1 : left ≤ 60) : wgt (kids row left) + 1 = gF 8 left := by
  rw [(gF_step h0 h1).1]
  unfold wgt kids
  rw [List.map_map]
  have : ((fun w : List Int × Int => gF 8 w.2) ∘ fun d => (row ++ [d], left / d)) = fun d => gF 8 (left / d) := rfl
  rw [this]
  omega
theorem gF_pos (f : Nat) (n : Int) : 1 ≤ gF f n := by cases f <;> simp [gF] <;> omega
theorem wgt_len : ∀ W : List (List Int × Int), W.length ≤ wgt W
  | [] => Nat.le_refl _
  | w :: t => by
    have := wgt_len t
    have := gF_pos 8 w.2
    unfold wgt at *
    rw [List.map_cons, List.sum_cons, List.length_cons]
    omega
/-- what the stack keeps -/
structure PrInv (top : Int) (F : List (List Int)) (W : List (List Int × Int)) : Prop where
  good : ∀ r ∈ F, Two r ∧ prodL r = top
  wait : ∀ w ∈ W, Two w.1 ∧ 1 ≤ w.2 ∧ prodL w.1 * w.2 = top
  once : ∀ t, Two t → prodL t = top → F.count t + pend W t = 1
  room : F.length + wgt W ≤ gF 8 top
theorem prinv_start {top : Int} (h : 1 ≤ top) : PrInv top [] [([], top)] := ⟨(fun r hr => by cases hr), (fun w hw => by
  rw [List.mem_singleton.mp hw]
  exact ⟨(fun k hk => by cases hk), h, by simp [prodL]⟩), (fun t _ _ => by simp [pend]), by simp [wgt]⟩
theorem PrInv.step {top : Int} {F : List (List Int)} {W : List (List Int × Int)} {row : List Int} {left : Int} (h : PrInv top F (W ++ [(row, left)])) (t60 : top ≤ 60) : PrInv top (if left = 1 then F ++ [row] else F) (W ++ kids row left) := by
  obtain ⟨tr, l1, e⟩ := h.wait (row, left) (by simp)
  have tr : Two row := tr
  have l1 : 1 ≤ left := l1
  have e : prodL row * left = top := e
  have pr := prodL_pos tr
  have le : left ≤ top := by
    have := Int.mul_le_mul_of_nonneg_right pr (show 0 ≤ left by omega)
    omega
  have wl : wgt [(row, left)] = gF 8 left := by simp [wgt]
  refine ⟨fun r hr => ?_, fun w hw => ?_, fun t ht pt => ?_, ?_⟩
  · split at hr
    · rename_i c
      rcases List.mem_append.mp hr with z | z
      · exact h.good r z
      · rw [List.mem_singleton.mp z]
        refine ⟨tr, ?_⟩
        subst c
        omega
    · exact h.good r hr
  · rcases List.mem_append.mp hw with z | z
    · exact h.wait w (List.mem_append_left _ z)
    · obtain ⟨d, hd, rfl⟩ := List.mem_map.mp z
      obtain ⟨d2, dl, dd⟩ := mem_dvs.mp hd
      have q := Int.mul_ediv_add_emod left d
      rw [dd] at q
      refine ⟨fun k hk => ?_, ?_, ?_⟩
      · rcases List.mem_append.mp hk with y | y
        · exact tr k y
        · rw [List.mem_singleton.mp y]
          exact d2
      · show 1 ≤ left / d
        have := Int.le_ediv_of_mul_le (show 0 < d by omega) (show 1 * d ≤ left by omega)
        exact this
      · show prodL (row ++ [d]) * (left / d) = top
        rw [prodL_snoc, Int.mul_assoc]
        rw [← e]
        congr 1
        omega
  · have o := h.once t ht pt
    rw [pend_app] at o ⊢
    by_cases c : left = 1
    · rw [if_pos c]
      subst c
      rw [kids_one, List.count_append]
      have px := prefix_one tr ht e pt
      have e2 : pend [(row, 1)] t = List.count t [row] := by
        unfold pend
        rw [List.countP_singleton, List.count_singleton]
        by_cases z : row = t
        · simp [px.mpr z, z]
        · have : ¬ row <+: t := fun y => z (px.mp y)
          simp [this, z]
      show List.count t F + List.count t [row] + (pend W t + pend [] t) = 1
      have : pend ([] : List (List Int × Int)) t = 0 := rfl
      omega
    · rw [if_neg c, pend_kids tr ht (by omega) e pt]
      exact o
  · have r := h.room
    rw [wgt_app, wl] at r
    rw [wgt_app]
    have k := wgt_kids row (show 0 ≤ left by omega) (show left ≤ 60 by omega)
    split
    · rw [List.length_append, List.length_singleton]
      omega
    · omega
/-- all lists with a product, each once -/
def AllP (top : Int) (F : List (List Int)) : Prop := (∀ r ∈ F, Two r ∧ prodL r = top) ∧ ∀ t, Two t → prodL t = top → F.count t = 1
theorem PrInv.done {top : Int} {F : List (List Int)} (h : PrInv top F []) : AllP top F := ⟨h.good, fun t ht pt => by
  have := h.once t ht pt
  simpa [pend] using this⟩
/-! ### the single runs as origins -/
theorem sgl_orig : ∀ {row : List Int}, Two row → Sgl (orig 1 row) row
  | [], _ => fun x => by
    show x ∈ [1] ↔ 1 ≤ x ∧ x = 1
    rw [List.mem_singleton]
    omega
  | k :: r, h => fun x => by
    have k2 := h k (List.mem_cons_self ..)
    have tr : Two r := fun j hj => h j (List.mem_cons_of_mem _ hj)
    have ih := sgl_orig tr
    rw [orig_cons, mem_flat k2 (fun m hm => ((ih m).mp hm).1), ih, sqz_cons]
    constructor
    · rintro ⟨a, _, c⟩
      exact ⟨a, c⟩
    · rintro ⟨a, c⟩
      exact ⟨a, once_pos a k2, c⟩
theorem orig_nodup : ∀ {row : List Int}, Two row → (orig 1 row).Nodup
  | [], _ => by simp [orig]
  | k :: r, h => by
    have k2 := h k (List.mem_cons_self ..)
    have tr : Two r := fun j hj => h j (List.mem_cons_of_mem _ hj)
    rw [orig_cons]
    exact flat_nodup k2 (fun m hm => ((sgl_orig tr m).mp hm).1) (orig_nodup tr)
end Sq


set_option Elab.async false
set_option maxRecDepth 100000
set_option maxHeartbeats 4000000
/-! a list of lists and a stack of pairs (a list, an int) in the heap -/
namespace Sq
open PySem PySem.Spec PyProof.Rows L2
def RowAt (G H : Hp) (bad : List Addr) (p : Addr) (r : List Int) : Prop := H p = some (.lst (iv r)) ∧ p ∉ bad ∧ G p = none
def TL (G H : Hp) (bad : List Addr) (l : Addr) (W : List (List Int × Int)) : Prop := ∃ qs : List Addr, H l = some (.lst (qs.map V.ref)) ∧ qs.length = W.length ∧ ∀ (i : Nat) (q : Addr) (w : List Int × Int), qs[i]? = some q → W[i]? = some w → ∃ p, H q = some (.tup [.ref p, .int w.2]) ∧ RowAt G H bad p w.1
def FL (G H : Hp) (bad : List Addr) (l : Addr) (F : List (List Int)) : Prop := ∃ ps : List Addr, H l = some (.lst (ps.map V.ref)) ∧ ps.length = F.length ∧ ∀ (i : Nat) (p : Addr) (r : List Int), ps[i]? = some p → F[i]? = some r → RowAt G H bad p r
section
variable {G H H' : Hp} {bad bad' : List Addr} {l p q e : Addr} {r : List Int} {W E : List (List Int × Int)} {F : List (List Int)} {w : List Int × Int}
theorem RowAt.same (h : RowAt G H bad p r) (s : Same H H') : RowAt G H' bad p r := ⟨s _ _ h.1, h.2⟩
theorem RowAt.put {u : HO} (h : RowAt G H bad p r) (hl : l ∈ bad) : RowAt G (upd H l u) bad p r := ⟨(upd_ne fun z => h.2.1 (by rw [z]; exact hl)).trans h.1, h.2⟩
theorem RowAt.weak (h : RowAt G H bad p r) (s : ∀ a ∈ bad', a ∈ bad) : RowAt G H bad' p r := ⟨h.1, fun z => h.2.1 (s _ z), h.2.2⟩
theorem TL.same (h : TL G H bad l W) (s : Same H H') : TL G H' bad l W := by
  obtain ⟨qs, a, b, c⟩ := h
  exact ⟨qs, s _ _ a, b, fun i q w h1 h2 => by
    obtain ⟨p, h3, h4⟩ := c i q w h1 h2
    exact ⟨p, s _ _ h3, h4.same s⟩⟩
theorem TL.weak (h : TL G H bad l W) (s : ∀ a ∈ bad', a ∈ bad) : TL G H bad' l W := by
  obtain ⟨qs, a, b, c⟩ := h
  exact ⟨qs, a, b, fun i q w h1 h2 => by
    obtain ⟨p, h3, h4⟩ := c i q w h1 h2
    exact ⟨p, h3, h4.weak s⟩⟩
theorem FL.same (h : FL G H bad l F) (s : Same H H') : FL G H' bad l F := by
  obtain ⟨ps, a, b, c⟩ := h
  exact ⟨ps, s _ _ a, b, fun i p r h1 h2 => (c i p r h1 h2).same s⟩
/-- behind a store to another list -/
theorem TL.put {xs : List V} {u : HO} (h : TL G H bad l W) (hq : q ∈ bad) (hx : H q = some (.lst xs)) (ne : q ≠ l) : TL G (upd H q u) bad l W := by
  obtain ⟨qs, a, b, c⟩ := h
  refine ⟨qs, (upd_ne (Ne.symm ne)).trans a, b, fun i t w h1 h2 => ?_⟩
  obtain ⟨p, h3, h4⟩ := c i t w h1 h2
  refine ⟨p, (upd_ne fun z => ?_).trans h3, h4.put hq⟩
  rw [z, hx] at h3
  cases h3
theorem FL.put {u : HO} (h : FL G H bad l F) (hq : q ∈ bad) (ne : q ≠ l) : FL G (upd H q u) bad l F := by
  obtain ⟨ps, a, b, c⟩ := h
  exact ⟨ps, (upd_ne (Ne.symm ne)).trans a, b, fun i p r h1 h2 => (c i p r h1 h2).put hq⟩
theorem TL.len (h : TL G H bad l W) : ∃ xs, H l = some (.lst xs) ∧ xs.length = W.length := by
  obtain ⟨qs, a, b, _⟩ := h
  exact ⟨_, a, by rw [List.length_map]; exact b⟩
theorem FL.len (h : FL G H bad l F) : ∃ xs, H l = some (.lst xs) ∧ xs.length = F.length := by
  obtain ⟨qs, a, b, _⟩ := h
  exact ⟨_, a, by rw [List.length_map]; exact b⟩
theorem TL.nil (h : H l = some (.lst [])) : TL G H bad l [] := ⟨[], h, rfl, fun i q w h1 _ => by simp at h1⟩
theorem FL.nil (h : H l = some (.lst [])) : FL G H bad l [] := ⟨[], h, rfl, fun i q w h1 _ => by simp at h1⟩
/-- the last one taken off -/
theorem TL.pop (h : TL G H bad l (W ++ [w])) (hl : l ∈ bad) : ∃ xs q p, H l = some (.lst xs) ∧ xs[xs.length - 1]? = some (.ref q) ∧ H q = some (.tup [.ref p, .int w.2]) ∧ RowAt G H bad p w.1 ∧ TL G (upd H l (.lst xs.dropLast)) bad l W := by
  obtain ⟨qs, a, b, c⟩ := h
  rw [List.length_append, List.length_singleton] at b
  have lt : W.length < qs.length := by omega
  have eq := List.getElem?_eq_getElem lt
  obtain ⟨p, h1, h2⟩ := c W.length _ w eq (by simp)
  refine ⟨qs.map V.ref, _, p, a, ?_, h1, h2, qs.dropLast, ?_, by rw [List.length_dropLast]; omega, fun i q w2 g1 g2 => ?_⟩
  · rw [List.length_map, List.getElem?_map, show qs.length - 1 = W.length by omega, eq]
    rfl
  · rw [upd_same, List.map_dropLast]
  · have li : i < W.length := (List.getElem?_eq_some_iff.mp g2).1
    have g3 : qs[i]? = some q := by
      rw [List.getElem?_dropLast] at g1
      split at g1
      · exact g1
      · cases g1
    obtain ⟨p2, k1, k2⟩ := c i q w2 g3 (by rw [List.getElem?_append_left li]; exact g2)
    refine ⟨p2, (upd_ne fun z => ?_).trans k1, k2.put hl⟩
    rw [z, a] at k1
    cases k1
theorem snoc_at {α : Type} {xs : List α} {x y : α} {i : Nat} (h : (xs ++ [x])[i]? = some y) : (i < xs.length ∧ xs[i]? = some y) ∨ (i = xs.length ∧ x = y) := by
  by_cases lt : i < xs.length
  · rw [List.getElem?_append_left lt] at h
    exact .inl ⟨lt, h⟩
  · rw [List.getElem?_append_right (by omega)] at h
    cases e : i - xs.length with
    | zero =>
      rw [e] at h
      exact .inr ⟨by omega, by simpa using h⟩
    | succ k =>
      rw [e] at h
      simp at h
theorem TL.snoc (h : TL G H bad l W) (hl : l ∈ bad) (hq : H q = some (.tup [.ref p, .int w.2])) (hp : RowAt G H bad p w.1) : ∃ xs, H l = some (.lst xs) ∧ xs.length = W.length ∧ TL G (upd H l (.lst (xs ++ [.ref q]))) bad l (W ++ [w]) := by
  obtain ⟨qs, a, b, c⟩ := h
  have tn : ∀ {t : Addr} {ys : List V}, H t = some (.tup ys) → t ≠ l := fun e z => by
    rw [z, a] at e
    cases e
  refine ⟨qs.map V.ref, a, by rw [List.length_map]; exact b, qs ++ [q], by rw [upd_same]; simp, by simp [b], fun i t w2 h1 h2 => ?_⟩
  rcases snoc_at h1 with ⟨lt, g1⟩ | ⟨ei, g1⟩
  · rw [List.getElem?_append_left (by omega)] at h2
    obtain ⟨p2, k1, k2⟩ := c i t w2 g1 h2
    exact ⟨p2, (upd_ne (tn k1)).trans k1, k2.put hl⟩
  · rcases snoc_at h2 with ⟨lt, _⟩ | ⟨_, g2⟩
    · omega
    · subst g1 g2
      exact ⟨p, (upd_ne (tn hq)).trans hq, hp.put hl⟩
theorem FL.snoc (h : FL G H bad l F) (hl : l ∈ bad) (hp : RowAt G H bad p r) : ∃ xs, H l = some (.lst xs) ∧ xs.length = F.length ∧ FL G (upd H l (.lst (xs ++ [.ref p]))) bad l (F ++ [r]) := by
  obtain ⟨ps, a, b, c⟩ := h
  refine ⟨ps.map V.ref, a, by rw [List.length_map]; exact b, ps ++ [p], by rw [upd_same]; simp, by simp [b], fun i t r2 h1 h2 => ?_⟩
  rcases snoc_at h1 with ⟨lt, g1⟩ | ⟨ei, g1⟩
  · rw [List.getElem?_append_left (by omega)] at h2
    exact (c i t r2 g1 h2).put hl
  · rcases snoc_at h2 with ⟨lt, _⟩ | ⟨_, g2⟩
    · omega
    · subst g1 g2
      exact hp.put hl
/-- others put behind -/
theorem TL.ext (h : TL G H bad l W) (hl : l ∈ bad) (h2 : TL G H bad e E) : ∃ xs ys, H l = some (.lst xs) ∧ xs.length = W.length ∧ H e = some (.lst ys) ∧ ys.length = E.length ∧ TL G (upd H l (.lst (xs ++ ys))) bad l (W ++ E) := by
  obtain ⟨qs, a, b, c⟩ := h
  obtain ⟨ts, a2, b2, c2⟩ := h2
  have tn : ∀ {t : Addr} {ys : List V}, H t = some (.tup ys) → t ≠ l := fun e z => by
    rw [z, a] at e
    cases e
  refine ⟨qs.map V.ref, ts.map V.ref, a, by rw [List.length_map]; exact b, a2, by rw [List.length_map]; exact b2, qs ++ ts, by rw [upd_same]; simp, by simp [b, b2], fun i t w2 h1 h2 => ?_⟩
  by_cases lt : i < qs.length
  · rw [List.getElem?_append_left lt] at h1
    rw [List.getElem?_append_left (by omega)] at h2
    obtain ⟨p2, k1, k2⟩ := c i t w2 h1 h2
    exact ⟨p2, (upd_ne (tn k1)).trans k1, k2.put hl⟩
  · rw [List.getElem?_append_right (by omega)] at h1
    rw [List.getElem?_append_right (by omega), ← b] at h2
    obtain ⟨p2, k1, k2⟩ := c2 _ t w2 h1 h2
    exact ⟨p2, (upd_ne (tn k1)).trans k1, k2.put hl⟩
/-- as data, against [] -/
def dW (w : List Int × Int) : PyData := .tuple [dI w.1, .int w.2]
theorem dW_can : ∀ W : List (List Int × Int), PyData.canLayAll0 (W.map dW) = true ∧ PyData.depthAll (W.map dW) ≤ 2
  | [] => by simp [PyData.canLayAll0, PyData.depthAll]
  | w :: t => by
    obtain ⟨h1, h2⟩ := dW_can t
    simp only [List.map_cons, PyData.canLayAll0, PyData.depthAll]
    rw [h1]
    simp [dW, dI, PyData.canLay0, PyData.canLayAll0, can_ints, PyData.depth, PyData.depthAll, dep_ints]
    omega
theorem dpall_of {K : PySem.W.Frag} : ∀ (xs : List V) (ds : List PyData), xs.length = ds.length → (∀ (i : Nat) (x : V) (d : PyData), xs[i]? = some x → ds[i]? = some d → Dp K H x d) → DpAll K H xs ds
  | [], [], _, _ => .nil
  | [], _ :: _, h, _ => by cases h
  | _ :: _, [], h, _ => by cases h
  | x :: xs, d :: ds, h, f => .cons (f 0 x d rfl rfl) (dpall_of xs ds (by simpa using h) fun i y e h1 h2 => f (i + 1) y e (by simpa using h1) (by simpa using h2))
theorem TL.dp {K : PySem.W.Frag} (h : TL G H bad l W) : Dp K H (.ref l) (.list (W.map dW)) := by
  obtain ⟨qs, a, b, c⟩ := h
  refine .lst (seqL_of a) (dpall_of _ _ (by simp [b]) fun i x d h1 h2 => ?_)
  rw [List.getElem?_map] at h1 h2
  cases e1 : qs[i]? with
  | none => rw [e1] at h1; cases h1
  | some q =>
    cases e2 : W[i]? with
    | none => rw [e2] at h2; cases h2
    | some w =>
      rw [e1] at h1
      rw [e2] at h2
      cases h1
      cases h2
      obtain ⟨p, k1, k2⟩ := c i q w e1 e2
      exact .tup (SqT.of k1) (.cons (dp_iv (seqL_of k2.1)) (.cons (.int _) .nil))
theorem TL.ne_nil {K : PySem.W.Frag} {b : Addr} {Q : VK} (h : TL G H bad l W) (h2 : H b = some (.lst [])) (q : Q (.bl (decide (W ≠ []))) H) : rNeQ K (.ref l) (.ref b) H Q := by
  refine rNeQ_of ⟨.list (W.map dW), .list [], h.dp, .lst (seqL_of h2) .nil, ?_, by decide, ?_⟩
  · obtain ⟨h1, h2⟩ := dW_can W
    unfold SeqAt.shaped
    simp only [PyData.canLay0, h1, PyData.depth, Bool.true_and]
    refine decide_eq_true ?_
    omega
  · cases W with
    | nil => simpa [PyData.eqv, PyData.eqvAll] using q
    | cons w t => simpa [PyData.eqv, PyData.eqvAll] using q
end
end Sq


set_option Elab.async false
set_option maxRecDepth 100000
set_option maxHeartbeats 4000000
/-! a method's call, where the context's K is to be named (as in MDfl: not both) -/
namespace Sq
open PySem PySem.Spec PyProof.Rows L2
section
variable {X : Cx} {K' : PySem.W.Frag} {name : Str} {T id : String} {r : V → List V → Hp → VK → Prop} {o e : Expr} {es : List Expr} {to : TE} {t : TA} {apos cpos : Pos}
/-- a method's call, where the context's K is to be named -/
theorem pe_bmK (pa : PlainAttrs T) (slot : Slot T name id) (hty : typeOf (.builtin id) = pure (.type "method_descriptor")) (hm : MtR X id r) (ho : PE X o to) (ha : PA X (e :: es) t) (hK : X.K = K' := by rfl)
    (hbase : attributeBase o name X.env (eval o X.env) = eval o X.env := by rfl)
    (hfew : ((backTo cpos (starEach (e :: es) X.env)).all (fun x => !x.1) && (backToKw cpos (keywordEach [] X.env)).all (fun x => x.1.isSome)
      && decide ((e :: es).length + ([] : List Keyword).length + (if ([] : List Keyword).isEmpty then 0 else 1) < 30)) = true := by rfl)
    (hline : (apos.endLine == cpos.line) = true := by rfl) (hs : starEach (e :: es) X.env = (false, eval e X.env) :: starEach es X.env := by rfl) (hplain : (backTo cpos (starEach es X.env)).any (·.1) = false := by rfl) :
    PE X (.Call (.Attribute o name apos) (e :: es) [] cpos) (tBM K' T r to t) := by
  subst hK
  exact pe_bm pa slot hty hm ho ha hbase hfew hline hs hplain
end
end Sq


set_option Elab.async false
set_option maxRecDepth 100000
set_option maxHeartbeats 4000000
namespace Sq
open PySem PySem.Spec PyProof.Rows L2
/-! ## lists of lists of ints in the heap -/
/-- at l: a list of lists, their numbers are rows; the lists are younger than G -/
def LL (G H : Hp) (l : Addr) (rows : List (List Int)) : Prop := ∃ ps : List Addr, H l = some (.lst (ps.map V.ref)) ∧ ps.length = rows.length ∧ (∀ p ∈ ps, p ≠ l ∧ G p = none) ∧ ∀ (i : Nat) (p : Addr) (ns : List Int), ps[i]? = some p → rows[i]? = some ns → H p = some (.lst (iv ns))
section
variable {G G' H H' : Hp} {l p : Addr} {rows rows2 : List (List Int)} {ns : List Int}
theorem LL.same (h : LL G H l rows) (s : Same H H') : LL G H' l rows := by
  obtain ⟨ps, a, b, c, d⟩ := h
  exact ⟨ps, s _ _ a, b, c, fun i p ns h1 h2 => s _ _ (d i p ns h1 h2)⟩
theorem LL.old (h : LL G' H l rows) (s : Same G G') : LL G H l rows := by
  obtain ⟨ps, a, b, c, d⟩ := h
  exact ⟨ps, a, b, fun p hp => ⟨(c p hp).1, s.free (c p hp).2⟩, d⟩
theorem LL.nil (h : H l = some (.lst [])) : LL G H l [] := ⟨[], h, rfl, (fun p hp => nomatch hp), fun i p ns h1 _ => by simp at h1⟩
/-- behind a store to another object -/
theorem LL.put {o : Addr} {u u' : HO} (h : LL G H l rows) (ho : G o = some u) (ne : o ≠ l) : LL G (upd H o u') l rows := by
  obtain ⟨ps, a, b, c, d⟩ := h
  refine ⟨ps, upd_off (Ne.symm ne) a, b, c, fun i p ns h1 h2 => upd_off (fun z => ?_) (d i p ns h1 h2)⟩
  have := (c p (List.mem_of_getElem? h1)).2
  rw [z, ho] at this
  cases this
theorem LL.get (h : LL G H l rows) {i : Nat} (e : rows[i]? = some ns) : ∃ p xs, H l = some (.lst xs) ∧ xs[i]? = some (.ref p) ∧ xs.length = rows.length ∧ H p = some (.lst (iv ns)) ∧ p ≠ l ∧ G p = none := by
  obtain ⟨ps, a, b, c, d⟩ := h
  have lt : i < ps.length := by
    rw [b]
    exact (List.getElem?_eq_some_iff.mp e).1
  have ep := List.getElem?_eq_getElem lt
  have cp := c _ (List.mem_of_getElem? ep)
  exact ⟨ps[i], ps.map V.ref, a, by rw [List.getElem?_map, ep]; rfl, by rw [List.length_map]; exact b, d i _ ns ep e, cp.1, cp.2⟩
theorem LL.len (h : LL G H l rows) : ∃ xs, H l = some (.lst xs) ∧ xs.length = rows.length := by
  obtain ⟨ps, a, b, _⟩ := h
  exact ⟨_, a, by rw [List.length_map]; exact b⟩
/-- one list more -/
theorem LL.snoc (h : LL G H l rows) (hp : H p = some (.lst (iv ns))) (np : p ≠ l) (gp : G p = none) : ∃ xs, H l = some (.lst xs) ∧ xs.length = rows.length ∧ LL G (upd H l (.lst (xs ++ [.ref p]))) l (rows ++ [ns]) := by
  obtain ⟨ps, a, b, c, d⟩ := h
  refine ⟨ps.map V.ref, a, by rw [List.length_map]; exact b, ps ++ [p], by rw [upd_same]; simp, by simp [b], fun q hq => ?_, fun i q ms h1 h2 => ?_⟩
  · rcases List.mem_append.mp hq with z | z
    · exact c q z
    · rw [List.mem_singleton.mp z]
      exact ⟨np, gp⟩
  · by_cases lt : i < ps.length
    · rw [List.getElem?_append_left lt] at h1
      rw [List.getElem?_append_left (by omega)] at h2
      exact upd_off (c q (List.mem_of_getElem? h1)).1 (d i q ms h1 h2)
    · rw [List.getElem?_append_right (by omega)] at h1
      rw [List.getElem?_append_right (by omega), ← b] at h2
      cases e : i - ps.length with
      | zero =>
        rw [e] at h1 h2
        have e1 : p = q := by simpa using h1
        have e2 : ns = ms := by simpa using h2
        rw [← e1, ← e2]
        exact upd_off np hp
      | succ k =>
        rw [e] at h1
        simp at h1
/-- the lists of another list behind it -/
theorem LL.ext {G2 : Hp} {d : Addr} {u : HO} (h : LL G H l rows) (h2 : LL G2 H d rows2) (s : Same G G2) (hl : G2 l = some u) : ∃ xs ys, H l = some (.lst xs) ∧ xs.length = rows.length ∧ H d = some (.lst ys) ∧ ys.length = rows2.length ∧ LL G (upd H l (.lst (xs ++ ys))) l (rows ++ rows2) := by
  obtain ⟨ps, a, b, c, e⟩ := h
  obtain ⟨qs, a2, b2, c2, e2⟩ := h2
  have nq : ∀ q ∈ qs, q ≠ l := fun q hq z => by
    have := (c2 q hq).2
    rw [z, hl] at this
    cases this
  refine ⟨ps.map V.ref, qs.map V.ref, a, by rw [List.length_map]; exact b, a2, by rw [List.length_map]; exact b2, ps ++ qs, by rw [upd_same]; simp, by simp [b, b2], fun q hq => ?_, fun i q ms h1 h2 => ?_⟩
  · rcases List.mem_append.mp hq with z | z
    · exact c q z
    · skip
      exact ⟨nq q z, s.free (c2 q z).2⟩
  · by_cases lt : i < ps.length
    · rw [List.getElem?_append_left lt] at h1
      rw [List.getElem?_append_left (by omega)] at h2
      exact upd_off (c q (List.mem_of_getElem? h1)).1 (e i q ms h1 h2)
    · rw [List.getElem?_append_right (by omega)] at h1
      rw [List.getElem?_append_right (by omega), ← b] at h2
      exact upd_off (nq q (List.mem_of_getElem? h1)) (e2 _ q ms h1 h2)
end
/-- all but the source is quiet from now on -/
theorem Sep.full {R : Rg} {G H : Hp} (s : Sep R G H) : ∃ G', Same G G' ∧ Sep R G' H ∧ ∀ a, ¬ R.S a → G' a = H a := by
  classical
  refine ⟨fun a => if R.S a then none else H a, fun b o e => ?_, ⟨s.inv, fun b o e => ?_, fun a ha => if_pos ha⟩, fun a ha => if_neg ha⟩
  · have nb : ¬ R.S b := fun z => by
      have := s.off b z
      rw [e] at this
      cases this
    show (if R.S b then none else H b) = some o
    rw [if_neg nb]
    exact s.same b o e
  · have e : (if R.S b then none else H b) = some o := e
    split at e
    · cases e
    · exact e
theorem LL.move {R : Rg} {G G' J J' : Hp} {l : Addr} {rows : List (List Int)} (h : LL J J' l rows) (hl : J l = none) (s : Sep R G J) (e : ∀ a, ¬ R.S a → G' a = J' a) : LL G G' l rows := by
  have ns : ∀ a, J a = none → ¬ R.S a := fun a ha z => R.has J a s.inv z ha
  obtain ⟨ps, a, b, c, d⟩ := h
  refine ⟨ps, by rw [e l (ns l hl)]; exact a, b, fun p hp => ⟨(c p hp).1, s.free (c p hp).2⟩, fun i p r h1 h2 => ?_⟩
  rw [e p (ns p (c p (List.mem_of_getElem? h1)).2)]
  exact d i p r h1 h2
open Classical in
/-- where the source stands -/
noncomputable def srcH (R : Rg) : Hp := fun a => if R.S a then some (.lst []) else none
theorem srcH_none {R : Rg} {a : Addr} : srcH R a = none ↔ ¬ R.S a := by
  unfold srcH
  split
  · rename_i c
    exact ⟨(fun z => nomatch z), (fun z => absurd c z)⟩
  · rename_i c
    exact ⟨fun _ => c, fun _ => rfl⟩
theorem LL.into {R : Rg} {G' J' : Hp} {l : Addr} {rows : List (List Int)} (h : LL (srcH R) J' l rows) (hl : ¬ R.S l) (e : ∀ a, ¬ R.S a → G' a = J' a) : LL (srcH R) G' l rows := by
  obtain ⟨ps, a, b, c, d⟩ := h
  refine ⟨ps, by rw [e l hl]; exact a, b, c, fun i p r h1 h2 => ?_⟩
  rw [e p (srcH_none.mp (c p (List.mem_of_getElem? h1)).2)]
  exact d i p r h1 h2
theorem Sep.src {R : Rg} {G H : Hp} {a : Addr} {o : HO} (s : Sep R G H) (h : G a = some o) : srcH R a = none := srcH_none.mpr fun z => by
  have := s.off a z
  rw [h] at this
  cases this
theorem Sep.srcN {R : Rg} {G H : Hp} {a : Addr} (s : Sep R G H) (h : H a = none) : ¬ R.S a := fun z => R.has H a s.inv z h
end Sq


set_option Elab.async false
set_option maxRecDepth 100000
set_option maxHeartbeats 4000000
/-! sorted(a set of ints), however many (below the model's bound of scanning) -/
namespace Sq
open PySem PySem.Spec PyProof.Rows L2
section
variable {P : Program} {w : World} {A : Around} {E : Value → Shared → Prop} {s : Shared} {a : Addr}
theorem sorted_setL {S : Int → Bool} {n : Nat} {Q : Value → Shared → Prop} (R : SetR w s.heap a S n) (hh : A.handled = none)
    (hQ : ∀ s' p (out : Array Value) (c : Nat) (ns : List Int), (∀ b o, s.heap.get? b = some o → s'.heap.get? b = some o) → s'.gens = s.gens → s'.os = s.os → s.heap.objs.size ≤ p → s'.heap.get? p = some (seqObj "list" out c) → IntsAre out.toList ns → ns.Pairwise (· < ·) → (∀ k, k ∈ ns ↔ S k = true) → ns.length = n → Q (.ref p) s') :
    wpAny (model P w) A (call (.builtin "sorted") [.ref a]) Q E s := by
  obtain ⟨o, es, ep, t, ho, hex, hd, g, nd, hm, hb, hf, hn, hr, hl⟩ := R
  refine Calls.call_function_entry kind_sorted plain_sorted entry_sorted (args_sorted1 _) ?_
  unfold Builtin.«sorted»
  refine wpAny_bind (m := checkCount "sorted" 1 1 _) (wpAny_pure (wpAny_bind (collect_set (A := A.in1) hh ⟨o, ho, hex.1, hd⟩ hf hb hr hl fun s1 vs k1 hz g1 o1 pm => ?_)))
  have lv : vs.length = es.size := by rw [pm.length_eq, List.length_map, Array.length_toList]
  have big : vs.length ≤ sizeLine := by
    rw [lv]
    exact fits_of_scanBound hb
  have isI : IntsAre vs (vs.map Builtin.Re.reRawOf) := ints_of vs fun v hv => by
    obtain ⟨e, he, q⟩ := List.mem_map.mp (pm.mem_iff.mp hv)
    obtain ⟨k, tk, h1, _⟩ := g e he
    exact ⟨k, tk, by rw [← q]; exact h1⟩
  have pk : (vs.map Builtin.Re.reRawOf).Perm (es.toList.map keyOf) := by
    have z := pm.map Builtin.Re.reRawOf
    rw [List.map_map] at z
    exact z
  refine wpAny_bind (wpAny_newList ?_ (by simpa using big))
  have oL : (s1.heap.push (seqObj "list" vs.toArray 0)).get? s1.heap.objs.size = some (seqObj "list" vs.toArray 0) := Heap.get?_push_size _ rfl
  refine wpAny_bind (wpAny_holding (wpAny_call_entry slot_list_sort ⟨_, oL, rfl⟩ entry_list_sort (SrtO.list_sort_ord SrtO.swo_int oL big (fun h2 => SrtO.ints_sortable isI h2) fun out a1 a2 => ⟨_, rfl, ?_⟩) (args_list_sort _)))
  obtain ⟨q1, q2, q3⟩ := SrtO.ints_out isI a1 a2
  obtain ⟨c, hc⟩ := sortedHeap_at (vs := vs) (out := out.toArray) oL
  have pn : (out.map SrtO.iv).Perm (es.toList.map keyOf) := q2.trans pk
  refine wpAny_pure ⟨_, rfl, hQ _ s1.heap.objs.size out.toArray c (out.map SrtO.iv) (fun b u e => ?_) g1 o1 hz hc q1 (lt_of_le_nodup _ q3 (pn.nodup_iff.mpr nd)) (fun k => by rw [pn.mem_iff, ← hm k]) ?_⟩
  · have z := k1 b u e
    have lt := Heap.lt_size z
    exact (sortedHeap_old (Nat.ne_of_lt lt) (by rw [size_push']; exact Nat.lt_succ_of_lt lt)).trans (Heap.get?_push_of_some _ z)
  · rw [pn.length_eq, List.length_map, Array.length_toList]
    exact hn
end
section
variable {X : Cx}
def rSortedSetL (w : World) : List V → Hp → VK → Prop := fun vs H Q => ∃ (a : Addr) (S : Int → Bool) (n : Nat), vs = [V.ref a] ∧ H a = some (SetO w a S n) ∧ n ≤ sizeLine ∧ ∀ (ns : List Int) (p : Addr), ns.Pairwise (· < ·) → (∀ k : Int, k ∈ ns ↔ S k = true) → ns.length = n → H p = none → Q (.ref p) (upd H p (.lst (ns.map V.int)))
theorem cr_sortedSetL (hc : X.calm = true) : CallR X (.builtin "sorted") (rSortedSetL X.w) := by
  intro pins s σ H vs us Q I r h
  obtain ⟨a, S, n, rfl, ha, hn, q⟩ := h
  have R := setO_get I ha
  rw [Vals.ref1 r]
  refine sorted_setL R (I.ok.hd hc) fun s' p out c ns k g o hp hg hi hs hm hl => ?_
  have len : (ns.map V.int).length ≤ sizeLine := by
    rw [List.length_map, hl]
    exact hn
  have np : H p = none := I.hok.fresh hp
  have J : Inv X pins σ (upd H p (.lst (ns.map V.int))) { s with heap := s'.heap, gens := s'.gens, drawn := s'.drawn, toks := s'.toks } := I.call (ch := []) (Un.laid k hp np) (I.hok.laid k hp ⟨len, out.toList, c, vals_of_ints hi, hg⟩) (by rw [g]; exact I.bare) (fun _ z => nomatch z)
  have e : s' = { s with heap := s'.heap, gens := s'.gens, drawn := s'.drawn, toks := s'.toks } := by
    obtain ⟨_, _, _, _, _⟩ := s'
    obtain ⟨_, _, _, _, _⟩ := s
    cases o
    rfl
  rw [e]
  exact ⟨.ref p, _, J, rfl, q ns p hs hm hl np⟩
end
end Sq


set_option Elab.async false
set_option maxRecDepth 100000
set_option maxHeartbeats 4000000
/-! set(a list): of ints, of different texts -/
namespace Sq
open PySem PySem.Spec PyProof.Rows L2
/-- an empty set, as it is made -/
abbrev newSet (b : Bool) : Obj := { cls := .type "set", dict := none, data := .set #[] 0 (.fresh 0 0 b) }
/-- the state behind a set's making: the set and the list's iterator stand -/
abbrev twoNew (s : Shared) (b : Bool) (l : Addr) : Heap := (s.heap.push (newSet b)).push { cls := .type "list_iterator", data := .fields #[.ref l, .int 0 0] }
section
variable {P : Program} {w : World} {A : Around} {E : Value → Shared → Prop} {s : Shared}
set_option maxHeartbeats 6400000 in
/-- set(l), by what its loop brings -/
theorem set_by_loop {l : Addr} {its : Array Value} {Good : Heap → Prop} {Q : Value → Shared → Prop} (hh : A.handled = none) (hl : s.heap.IsList l its)
    (loop : ∀ (A' : Around) (R : Result → Shared → Prop) (tk : Nat), A'.handled = none → (∀ s', Moved (s.heap.objs.size :: [s.heap.objs.size + 1]) (fun a b => b = a) { s with heap := twoNew s (!w.params.followText "set-order") l, toks := tk } s' → Good s'.heap → R (.ok (.ret .none)) s') →
      codeAny (model P w) A' (.builtin "set.update.loop" ⟨[.ref s.heap.objs.size, .ref (s.heap.objs.size + 1)], []⟩) R { s with heap := twoNew s (!w.params.followText "set-order") l, toks := tk })
    (h : ∀ (h' : Heap) (tk : Nat), Good h' → (∀ b o, s.heap.get? b = some o → h'.get? b = some o) → Q (.ref s.heap.objs.size) { s with heap := h', toks := tk }) : wpAny (model P w) A (call (.type "set") [.ref l]) Q E s := by
  have ⟨_, _, e0⟩ := F.called_set.mro
  have e1 := F.called_set.made; have e2 := F.called_set.sub; have e3 := F.called_set.notType; have e4 := F.called_set.canCreate; have e5 := F.typeCall_set_1 (.ref l)
  generalize hb : (!w.params.followText "set-order") = fl at loop
  apply wpAny_call
  apply codeAny_of_tree
  show wpAny _ _ (callAny (.type "set") _) _ _ _
  apply wpAny_pure
  refine And.intro (Code.quiet_builtin _ (by decide +kernel)) (codeAny_builtin F.entry_type_call ?_)
  rw [Around.under_plain (weight_type_call_type "set" [.ref l] []) rfl]
  repeat (any_goals (first | assumption | wp_step))
  apply codeAny_mono (code_set_led1 (.ref l) (E := E) (Q₁ := fun ob s1 => ob = .ref s.heap.objs.size ∧ s1 = { s with heap := s.heap.push (newSet fl) }) (by rw [hb]; exact And.intro rfl rfl))
  intro r s1 hr
  match r, hr with
  | .error e, hr => exact hr
  | .ok .next, hr => exact hr.elim
  | .ok .brk, hr => exact hr.elim
  | .ok .cont, hr => exact hr.elim
  | .ok (.ret ob), hr =>
    obtain ⟨rfl, rfl⟩ := hr
    have gS : (s.heap.push (newSet fl)).get? s.heap.objs.size = some (newSet fl) := Heap.get?_push_size _ rfl
    have tS : Shared.TypeIs { s with heap := s.heap.push (newSet fl) } (.ref s.heap.objs.size) "set" := Exists.intro _ (And.intro gS rfl)
    have e6 := F.called_set.init.lookup; have e7 := F.called_set.init.bind (.ref s.heap.objs.size)
    repeat (any_goals (first | assumption | wp_step))
    apply codeAny_mono (codeAny_call_builtin (R := wants (fun r s2 => r = .none ∧ ∃ h' tk, s2 = { s with heap := h', toks := tk } ∧ Good h' ∧ ∀ b o, s.heap.get? b = some o → h'.get? b = some o) E) F.called_set.init.plain F.entry_set_init (check_set_init_1 tS ?_))
    · intro r2 s2 hr2
      match r2, hr2 with
      | .error e, hr2 => exact hr2
      | .ok .next, hr2 => exact hr2.elim
      | .ok .brk, hr2 => exact hr2.elim
      | .ok .cont, hr2 => exact hr2.elim
      | .ok (.ret r3), hr2 =>
        obtain ⟨rfl, h', tk, rfl, gd, kp⟩ := hr2
        repeat (any_goals (first | assumption | wp_step))
        exact h h' _ gd kp
    · obtain ⟨⟨oc, od, odt, osl⟩, ho, hc, nl, hd⟩ := hl
      simp only at hc hd
      subst hc hd
      have gl : (s.heap.push (newSet fl)).get? l = some { cls := .type "list", dict := od, data := .seq its nl, slots := osl } := Heap.get?_push_of_some _ ho
      have s1 := F.sub_list_set; have s2 := F.sub_list_frozenset
      have s3 : (Value.type "list" == Value.type "dict") = false := by decide
      have il : (s.heap.push (newSet fl)).IsList l its := ⟨_, gl, rfl, nl, rfl⟩
      unfold Builtin.«set.__init__» noKeywords Builtin.Frozenset.updateFrom
      generalize hPI : pyIter = PI
      wp_walk
      subst hPI
      apply wpAny_pyIter_list il
      apply wpAny_bind
      apply wpAny_runValue
      have hz : (s.heap.push (newSet fl)).objs.size = s.heap.objs.size + 1 := Heap.size_push ..
      simp only [hz]
      refine loop _ _ _ (by simp [hh]) ?_
      intro s' hm gd
      obtain ⟨h', g', d', tk', os'⟩ := s'
      have q1 : g' = s.gens := hm.gens
      have q2 : d' = s.drawn := hm.drawn
      have q3 : os' = s.os := hm.os
      subst q1 q2 q3
      show wpAny _ _ _ _ _ _
      apply wpAny_pure
      show wpAny _ _ (ret Value.none) _ _ _
      apply wpAny_pure
      refine ⟨rfl, h', tk', rfl, gd, fun b o e => ?_⟩
      have lb := Heap.lt_size e
      exact hm.heap b o (by simp only [List.mem_cons, List.not_mem_nil, or_false, not_or]; exact ⟨Nat.ne_of_lt lb, Nat.ne_of_lt (Nat.lt_succ_of_lt lb)⟩) (Heap.get?_push_of_some _ (Heap.get?_push_of_some _ e))
/-- set(l) of ints -/
theorem set_ints {l : Addr} {its : Array Value} {ns : List Int} {Q : Value → Shared → Prop} (hh : A.handled = none) (hl : s.heap.IsList l its) (hi : IntsAre its.toList ns) (hb : ns.length + 1 < scanBound)
    (h : ∀ (h' : Heap) (tk c : Nat), SetR w h' s.heap.objs.size (fun j => decide (j ∈ ns)) c → c ≤ ns.length → (∀ b o, s.heap.get? b = some o → h'.get? b = some o) → Q (.ref s.heap.objs.size) { s with heap := h', toks := tk }) : wpAny (model P w) A (call (.type "set") [.ref l]) Q E s := by
  have ln : its.size = ns.length := by
    have q := IntsAre.length hi
    rwa [Array.length_toList] at q
  have lt : l < s.heap.objs.size := by
    obtain ⟨_, ho, _⟩ := hl
    exact Heap.lt_size ho
  refine set_by_loop (Good := fun h' => ∃ c, SetR w h' s.heap.objs.size (fun j => decide (j ∈ ns)) c ∧ c ≤ ns.length) hh hl (fun A' R tk hA fin => ?_) fun h' tk ⟨c, r, le⟩ kp => h h' tk c r le kp
  have nI : l ≠ s.heap.objs.size + 1 := Nat.ne_of_lt (Nat.lt_succ_of_lt lt)
  have at_ : ∀ (i : Nat) (v : Value), its[i]? = some v → ∃ k t, ns[i]? = some k ∧ v = .int k t := fun i v hv => by
    have lti : i < ns.length := by
      rw [← ln]
      exact (Array.getElem?_eq_some_iff.mp hv).1
    obtain ⟨t, e⟩ := PyProof.Rows.IntsAre.int_at hi i v (by rw [Array.getElem?_toList]; exact hv)
    exact ⟨ns[i], t, List.getElem?_eq_getElem lti, by rw [e, List.getD_eq_getElem?_getD, List.getElem?_eq_getElem lti] <;> rfl⟩
  have sz : (s.heap.push (newSet (!w.params.followText "set-order"))).objs.size = s.heap.objs.size + 1 := Heap.size_push ..
  have gS : (twoNew s (!w.params.followText "set-order") l).get? s.heap.objs.size = some (newSet (!w.params.followText "set-order")) := Heap.get?_push_of_some _ (Heap.get?_push_size _ rfl)
  have gI : (twoNew s (!w.params.followText "set-order") l).get? (s.heap.objs.size + 1) = some { cls := .type "list_iterator", data := .fields #[.ref l, .int 0 0] } := by
    rw [← sz]
    exact Heap.get?_push_size _ rfl
  exact set_update_ints (Walks.list (by simpa using hA) (s.heap.objs.size + 1) l nI its).toS s.heap.objs.size (by simp only [List.mem_cons, List.not_mem_nil, or_false, not_or]; exact ⟨Nat.ne_of_lt (Nat.lt_succ_self _), Nat.ne_of_gt lt⟩) ns ln hb at_ (its.size - 0) 0 _ rfl (Nat.zero_le _)
    ⟨⟨_, gI, rfl, rfl⟩, (hl.push _).push _⟩ ⟨0, Nat.le_refl 0, setR_new_at gS⟩ fun s' c mv le r => fin s' mv ⟨c, r, by rwa [← ln]⟩
/-- the loop that puts different texts into a set -/
theorem put_texts {I : Addr} {fp wr : List Addr} {G : Array GenState → Array GenState → Prop} {n : Nat} {Pv : Nat → Value → Prop} {St : Nat → Shared → Prop} {R : Result → Shared → Prop}
    (W : WalksS P w A.in1 I fp wr G n Pv St) (S : Addr) (off : S ∉ fp) (xs : List Str) (hn : xs.length = n) (nd : xs.Nodup) (hb : n + 1 < scanBound) (hv : ∀ i v, Pv i v → ∃ x t, xs[i]? = some x ∧ v = .str x t) :
    ∀ (k i : Nat) (s : Shared), i + k = n → St i s → s.heap.SetOf (PySem.strKind P w) S (fun y => decide (y ∈ xs.take i)) i →
      (∀ s', Moved (S :: wr) G s s' → s'.heap.SetOf (PySem.strKind P w) S (fun y => decide (y ∈ xs)) n → R (.ok (.ret .none)) s') → codeAny (model P w) A (.builtin "set.update.loop" ⟨[.ref S, .ref I], []⟩) R s := by
  have off2 : S ∉ wr := fun h => off (W.sub _ h)
  have more : ∀ b ∈ wr, b ∈ S :: wr := fun _ hb => List.mem_cons_of_mem _ hb
  intro k
  induction k with
  | zero =>
    intro i s e st hS fin
    have e : i = n := e
    subst e
    apply codeAny_builtin F.entry_set_update_loop
    rw [Around.under_plainId F.plain_set_update_loop _]
    show wpAny _ A.in1 (pyNext (.ref I) >>= _) _ _ s
    apply wpAny_bind
    refine W.done s _ _ st fun s' mv => wpAny_pure (fin s' (mv.mono more) ?_)
    obtain ⟨o, es, ep, t, ho, q⟩ := hS
    rw [List.take_of_length_le (Nat.le_of_eq hn)] at q
    exact ⟨o, es, ep, t, mv.heap S o off2 ho, q⟩
  | succ k ih =>
    intro i s e st hS fin
    apply codeAny_builtin F.entry_set_update_loop
    rw [Around.under_plainId F.plain_set_update_loop _]
    show wpAny _ A.in1 (pyNext (.ref I) >>= _) _ _ s
    apply wpAny_bind
    refine W.item i s _ _ (by omega) st fun v s1 hP st1 mv => ?_
    obtain ⟨x, t, hx, rfl⟩ := hv i v hP
    have h1 : s1.heap.SetOf (PySem.strKind P w) S (fun y => decide (y ∈ xs.take i)) i := by
      obtain ⟨o, es, ep, t, ho, q⟩ := hS
      exact ⟨o, es, ep, t, mv.heap S o off2 ho, q⟩
    show wpAny _ A.in1 (holding [Value.str x t] (setAdd S (.str x t)) >>= _) _ _ s1
    apply wpAny_bind
    apply wpAny_holding
    unfold setAdd
    apply wpAny_holding
    apply wpAny_bind
    refine (PySem.strKind P w).pyHash (k := x) (strKind_is _ _ _ _) ?_
    refine wpAny_setAddHashed_of (knd := PySem.strKind P w) (s := { s1 with toks := s1.toks + 1 }) (strKind_is _ _ _ _) rfl h1 (by omega) fun h2 same h3 => ?_
    have nx : x ∉ xs.take i := fun hm => by
      obtain ⟨j, hj⟩ := List.mem_iff_getElem?.mp hm
      rw [List.getElem?_take] at hj
      split at hj
      · rename_i c
        obtain ⟨lj, ej⟩ := List.getElem?_eq_some_iff.mp hj
        obtain ⟨li, ei⟩ := List.getElem?_eq_some_iff.mp hx
        exact List.pairwise_iff_getElem.mp nd j i lj li c (ej.trans ei.symm)
      · cases hj
    have h4 : h2.SetOf (PySem.strKind P w) S (fun y => decide (y ∈ xs.take (i + 1))) (i + 1) := PyProof.Rows.SetOf_congr h3 (fun y => by
      rw [List.take_add_one, hx]
      simp [List.mem_append]) (by rw [decide_eq_false nx] <;> rfl)
    have kp : ∀ b o, b ≠ S → s1.heap.get? b = some o → h2.get? b = some o := fun b o ne e => by
      rw [same.2 b ne]
      exact e
    refine wpAny_pure ⟨plainId_quiet F.plain_set_update_loop _, ih (i + 1) _ (by omega) (W.frame _ s1 _ _ st1 (Nat.le_succ _) fun b hb o e => kp b o (fun z => off (by rwa [← z])) e) h4 fun s3 mv3 hS3 => ?_⟩
    exact fin s3 (Moved.trans W.gtrans ((mv.mono more).then_heap (Nat.le_succ _) fun b o hb e => kp b o (fun z => hb (by rw [z]; exact List.mem_cons_self)) e) mv3) hS3
/-- set(l) of different texts -/
theorem set_texts {l : Addr} {its : Array Value} {xs : List Str} {Q : Value → Shared → Prop} (hh : A.handled = none) (hl : s.heap.IsList l its) (hi : StrsAre its.toList xs) (nd : xs.Nodup) (hb : xs.length + 1 < scanBound)
    (h : ∀ (h' : Heap) (tk : Nat), h'.SetOf (PySem.strKind P w) s.heap.objs.size (fun y => decide (y ∈ xs)) xs.length → (∀ b o, s.heap.get? b = some o → h'.get? b = some o) → Q (.ref s.heap.objs.size) { s with heap := h', toks := tk }) : wpAny (model P w) A (call (.type "set") [.ref l]) Q E s := by
  have ln : xs.length = its.size := by rw [← StrsAre.len_eq hi, Array.length_toList]
  have lt : l < s.heap.objs.size := by
    obtain ⟨_, ho, _⟩ := hl
    exact Heap.lt_size ho
  refine set_by_loop (Good := fun h' => h'.SetOf (PySem.strKind P w) s.heap.objs.size (fun y => decide (y ∈ xs)) xs.length) hh hl (fun A' R tk hA fin => ?_) fun h' tk r kp => h h' tk r kp
  have nI : l ≠ s.heap.objs.size + 1 := Nat.ne_of_lt (Nat.lt_succ_of_lt lt)
  have at_ : ∀ (i : Nat) (v : Value), its[i]? = some v → ∃ x t, xs[i]? = some x ∧ v = .str x t := fun i v hv => by
    have lti : i < xs.length := by
      rw [ln]
      exact (Array.getElem?_eq_some_iff.mp hv).1
    obtain ⟨t, e⟩ := SS.strs_at hi i v (by rw [Array.getElem?_toList]; exact hv)
    exact ⟨xs[i], t, List.getElem?_eq_getElem lti, by rw [e, List.getD_eq_getElem?_getD, List.getElem?_eq_getElem lti] <;> rfl⟩
  have sz : (s.heap.push (newSet (!w.params.followText "set-order"))).objs.size = s.heap.objs.size + 1 := Heap.size_push ..
  have gS : (twoNew s (!w.params.followText "set-order") l).get? s.heap.objs.size = some (newSet (!w.params.followText "set-order")) := Heap.get?_push_of_some _ (Heap.get?_push_size _ rfl)
  have gI : (twoNew s (!w.params.followText "set-order") l).get? (s.heap.objs.size + 1) = some { cls := .type "list_iterator", data := .fields #[.ref l, .int 0 0] } := by
    rw [← sz]
    exact Heap.get?_push_size _ rfl
  exact put_texts (Walks.list (by simpa using hA) (s.heap.objs.size + 1) l nI its).toS s.heap.objs.size (by simp only [List.mem_cons, List.not_mem_nil, or_false, not_or]; exact ⟨Nat.ne_of_lt (Nat.lt_succ_self _), Nat.ne_of_gt lt⟩) xs ln nd (by rw [← ln]; exact hb) at_ its.size 0 _ (Nat.zero_add _)
    ⟨⟨_, gI, rfl, rfl⟩, (hl.push _).push _⟩ (PyProof.Rows.SetOf_congr ((PyProof.Rows.setObjOf_fresh (knd := PySem.strKind P w) _).setOf gS (by unfold scanBound; omega)) (fun _ => rfl) rfl) fun s' mv r => fin s' mv (by rw [ln]; exact r)
end
section
variable {X : Cx} {K : PySem.W.Frag}
/-- set(l) of ints, by place -/
def rSetInts (w : World) (K : PySem.W.Frag) : List V → Hp → VK → Prop := fun vs H Q => ∃ (a : Addr) (ns : List Int), vs = [V.ref a] ∧ SqL K H a (iv ns) ∧ ns.length < 4000 ∧ ∀ (p : Addr) (n : Nat), H p = none → n ≤ ns.length → Q (.ref p) (upd H p (SetO w p (fun j => decide (j ∈ ns)) n))
theorem cr_setInts (hc : X.calm = true) {w : World} (hw : X.w = w := by rfl) (hK : X.K = K := by rfl) : CallR X (.type "set") (rSetInts w K) := by
  subst hw hK
  intro pins s σ H vs us Q I r h
  obtain ⟨a, ns, rfl, ha, hn, q⟩ := h
  rw [Vals.ref1 r]
  obtain ⟨its, rv, pl, hz⟩ := I.list ha
  refine set_ints (ns := ns) (I.ok.hd hc) pl.isList (by simpa using RZ.intsAre_vals rv) (by unfold scanBound; omega) fun h' tk c R le kp => ?_
  have np : H s.heap.objs.size = none := I.hok.fresh (Nat.le_refl _)
  exact ⟨.ref s.heap.objs.size, _, I.laid (t' := tk) kp (Nat.le_refl _) (setO_new R), rfl, q _ c np le⟩
def rSortedSetL' (w : World) : List V → Hp → VK → Prop := fun vs H Q => ∃ (a : Addr) (ks : List Int) (n : Nat), vs = [V.ref a] ∧ H a = some (SetO w a (fun j => decide (j ∈ ks)) n) ∧ n ≤ sizeLine ∧ ∀ (ns : List Int) (p : Addr), ns.Pairwise (· < ·) → (∀ k : Int, k ∈ ns ↔ k ∈ ks) → ns.length = n → H p = none → Q (.ref p) (upd H p (.lst (iv ns)))
theorem cr_sortedOf (hc : X.calm = true) {w : World} (hw : X.w = w := by rfl) : CallR X (.builtin "sorted") (rSortedSetL' w) := by
  subst hw
  intro pins s σ H vs us Q I r h
  obtain ⟨a, ks, n, e, ha, hn, q⟩ := h
  exact cr_sortedSetL hc pins s σ H vs us Q I r ⟨a, _, n, e, ha, hn, fun ns p h1 h2 h3 h4 => q ns p h1 (fun k => by rw [h2 k, decide_eq_true_iff]) h3 h4⟩
/-- len(set(l)) of different texts -/
def tLenTexts (K : PySem.W.Frag) (ta : TE) : TE := fun σ H Q => ta σ H fun x H1 => ∃ (l : Addr) (xs : List Str), x = .ref l ∧ SqL K H1 l (xs.map V.str) ∧ xs.Nodup ∧ xs.length ≤ 4000 ∧ Q (.int (xs.length : Nat)) H1
theorem pe_lenTexts {a : Expr} {ta : TE} {p p2 q pos : Pos} (hg : Gl X "len") (hm : X.mg "len" = none) (hg2 : Gl X "set") (hm2 : X.mg "set" = none) (ha : PE X a ta) (hc : X.calm = true := by rfl) (hK : X.K = K := by rfl)
    (na : starEach [a] X.env = (false, eval a X.env) :: starEach [] X.env := by rfl) : PE X (.Call (.Name "len" p) [.Call (.Name "set" p2) [a] [] q] [] pos) (tLenTexts K ta) := by
  subst hK
  refine ⟨fun pins s σ H Q I h => Call_ (ld_blt I hg hm boot_len ?_)⟩
  apply PyProof.Rows.callWith_builtin1 (PyProof.Rows.args_cons ?_ rfl) rfl rfl
  refine Call_ ?_
  refine ld_blt I hg2 hm2 boot_set (PyProof.Rows.callWith_type1 (PyProof.Rows.args_cons (thn (ha.run pins s σ H _ I h) fun v s1 z => PyProof.Rows.args_nil ?_) na) na rfl)
  obtain ⟨x, H1, I1, r1, l, xs, rfl, hq, nd, le, q1⟩ := z
  cases r1
  obtain ⟨its, r, pl, hz⟩ := I1.list hq
  refine set_texts (xs := xs) (I1.ok.hd hc) pl.isList (by simpa using strsAre_of r) nd (by unfold scanBound; omega) fun h' tk hS kp => PyProof.Rows.args_nil ?_
  obtain ⟨o, es, ep, t, ho, hex, hd, _, _, _, hf, hn⟩ := hS
  have I2 : Inv X pins σ H1 { s1 with heap := h', toks := tk } := I1.kept kp
  exact call_len_set ho hex hd hf (by rw [hn] <;> omega) ⟨.int xs.length, H1, I2.tok _, ⟨_, by rw [hn]⟩, q1⟩
end
end Sq


set_option Elab.async false
set_option maxRecDepth 100000
set_option maxHeartbeats 4000000
/-! len(set(l)) of any ints -/
namespace Sq
open PySem PySem.Spec PyProof.Rows L2
theorem num_nodup {ks ns : List Int} (nd : ks.Nodup) (h : ∀ k, k ∈ ks ↔ k ∈ ns) : ks.length = ns.length ↔ ns.Nodup := by
  constructor
  · intro e
    exact (sub_perm nd (fun x hx => (h x).mp hx) (by omega)).nodup_iff.mp nd
  · intro n2
    exact ((List.perm_ext_iff_of_nodup nd n2).mpr h).length_eq
section
variable {X : Cx} {K : PySem.W.Frag}
def tLenInts (K : PySem.W.Frag) (ta : TE) : TE := fun σ H Q => ta σ H fun x H1 => ∃ (l : Addr) (ns : List Int), x = .ref l ∧ SqL K H1 l (iv ns) ∧ ns.length ≤ 4000 ∧ ∀ c : Nat, (c = ns.length ↔ ns.Nodup) → Q (.int c) H1
theorem pe_lenInts {a : Expr} {ta : TE} {p p2 q pos : Pos} (hg : Gl X "len") (hm : X.mg "len" = none) (hg2 : Gl X "set") (hm2 : X.mg "set" = none) (ha : PE X a ta) (hc : X.calm = true := by rfl) (hK : X.K = K := by rfl)
    (na : starEach [a] X.env = (false, eval a X.env) :: starEach [] X.env := by rfl) : PE X (.Call (.Name "len" p) [.Call (.Name "set" p2) [a] [] q] [] pos) (tLenInts K ta) := by
  subst hK
  refine ⟨fun pins s σ H Q I h => Call_ (ld_blt I hg hm boot_len ?_)⟩
  apply PyProof.Rows.callWith_builtin1 (PyProof.Rows.args_cons ?_ rfl) rfl rfl
  refine Call_ ?_
  refine ld_blt I hg2 hm2 boot_set (PyProof.Rows.callWith_type1 (PyProof.Rows.args_cons (thn (ha.run pins s σ H _ I h) fun v s1 z => PyProof.Rows.args_nil ?_) na) na rfl)
  obtain ⟨x, H1, I1, r1, l, ns, rfl, hq, le, q1⟩ := z
  cases r1
  obtain ⟨its, r, pl, hz⟩ := I1.list hq
  refine set_ints (ns := ns) (I1.ok.hd hc) pl.isList (by simpa using RZ.intsAre_vals r) (by unfold scanBound; omega) fun h' tk c R lc kp => PyProof.Rows.args_nil ?_
  obtain ⟨o, es, ep, t, ho, hex, hd, g, nd, hmm, hb, hf, hn, hr, hl⟩ := R
  have I2 : Inv X pins σ H1 { s1 with heap := h', toks := tk } := I1.kept kp
  have lk : (es.toList.map keyOf).length = c := by
    rw [List.length_map, Array.length_toList]
    exact hn
  have key := num_nodup (ns := ns) nd fun k => (hmm k).symm.trans decide_eq_true_iff
  rw [lk] at key
  exact call_len_set ho hex hd hf (by rw [hn] <;> omega) ⟨.int c, H1, I2.tok _, ⟨_, by rw [hn]⟩, q1 c key⟩
end
end Sq


namespace Sq
open PySem PySem.Spec PyProof.Rows L2
/-! ## ranges of wide ints -/
theorem turn_wide {P : Program} {w : World} {K : PySem.W.Frag} {tg : Expr} (z : Addr) (lo : Int) (n : Nat) : Turn P w K tg (Itr lo n) [z] z (fun i h => IsLongIter h z (lo + (i : Nat) * 1) ((n : Int) - (i : Nat)) 1) := by
  refine ⟨List.mem_singleton.mpr rfl, fun i h st b hb => ?_, fun i h h2 st k => k z (List.mem_singleton.mpr rfl) _ st, ?_, ?_, fun A i s Q E st h => wpAny_pyIter_longiter st h⟩
  · rw [List.mem_singleton.mp hb]
    exact ⟨_, st, fun v c => by cases (show Data.fields _ = Data.cell v from c)⟩
  · rintro X rfl rfl rfl hc i pins s σ H E I hf st hg
    have f := hf z (List.mem_singleton.mpr rfl)
    refine (Walks.longrange (prog := X.prog) (w := X.w) (I.ok.hd hc) z lo 1 n).item i s _ _ hg st fun v h2 tk hv st2 kk => ?_
    obtain ⟨t, rfl⟩ := hv
    have J : Inv X pins σ H { s with heap := h2, toks := tk } := I.turned (fun b o hb e => kk b o (fun m => hb (List.mem_singleton.mp m)) e) f.1 f.2.1 f.2.2.2.1 f.2.2.2.2.1 f.2.2.2.2.2
    refine ⟨_, rfl, go_of (s := { s with heap := h2, toks := tk }) (n := "longrange_iterator") st2 rfl rfl (by decide) ⟨.int (lo + i), H, J, ⟨t, by rw [Int.mul_one]⟩, ⟨rfl, rfl⟩, st2, fun b hb => (hf b hb).1⟩⟩
  · rintro X rfl rfl rfl hc i pins s σ H E I hf st hg
    have f := hf z (List.mem_singleton.mpr rfl)
    have m : n ≤ i := hg
    exact wpAny_pyNext_long_end (I.ok.hd hc) st (by omega) fun h2 k => ⟨rfl, I.turned (t' := s.toks) (fun b o hb e => k b o hb e) f.1 f.2.1 f.2.2.2.1 f.2.2.2.2.1 f.2.2.2.2.2⟩
section
variable {X : Cx} {tg a b : Expr} {t : TA} {p pos : Pos}
theorem rsz (lo hi : Int) : Builtin.Range.rangeSize lo hi 1 = ((hi - lo).toNat : Int) := by
  rw [rangeSize_one]
  split <;> omega
theorem wide_it {pins : List (Addr × Obj)} {σ : L2.St} {H : Hp} {s : Shared} {R : It → Hp → Prop} {E : Value → Shared → Prop} {lo hi : Int} {t u v : Tok} {tk : Nat} (I : Inv X pins σ H s) (q : R (Itr lo (hi - lo).toNat) H) :
    wpAny (model X.prog X.w) X.A (pyIter (.ref s.heap.objs.size)) (PIE X pins σ tg R) E { s with heap := s.heap.push { cls := .type "range", data := .fields #[.int lo t, .int hi u, .int 1 v] }, toks := tk } := by
  have J : Inv X pins σ H { s with heap := s.heap.push { cls := .type "range", data := .fields #[.int lo t, .int hi u, .int 1 v] }, toks := tk } := I.kept fun b o e => Heap.get?_push_of_some _ e
  have z0 : lo + ((0 : Nat) : Int) * 1 = lo := by omega
  have z1 : (((hi - lo).toNat : Nat) : Int) - ((0 : Nat) : Int) = Builtin.Range.rangeSize lo hi 1 := by
    rw [rsz]
    omega
  by_cases sm : Builtin.Range.small lo hi 1 = true
  · refine wpAny_pyIter_range (IsRange.new ..) sm ⟨(s.heap.push { cls := .type "range", data := .fields #[.int lo t, .int hi u, .int 1 v] }).objs.size, [(s.heap.push { cls := .type "range", data := .fields #[.int lo t, .int hi u, .int 1 v] }).objs.size], _, _, H, rfl,
      J.kept (t' := tk) fun b o e => Heap.get?_push_of_some _ e, turn_range _ lo (hi - lo).toNat, ?_, fun b hb => ?_, q⟩
    · show IsRangeIter _ _ (lo + ((0 : Nat) : Int) * 1) ((((hi - lo).toNat : Nat) : Int) - ((0 : Nat) : Int)) 1
      rw [z0, z1]
      exact Heap.get?_push_size _ rfl
    · rw [List.mem_singleton.mp hb]
      exact J.fpOk (Nat.le_refl _) (J.hok.fresh (Nat.le_refl _))
  · refine wpAny_pyIter_longrange (IsRange.new ..) (Bool.not_eq_true _ ▸ sm) ⟨(s.heap.push { cls := .type "range", data := .fields #[.int lo t, .int hi u, .int 1 v] }).objs.size, [(s.heap.push { cls := .type "range", data := .fields #[.int lo t, .int hi u, .int 1 v] }).objs.size], _, _, H, rfl,
      J.kept (t' := tk) fun b o e => Heap.get?_push_of_some _ e, turn_wide _ lo (hi - lo).toNat, ?_, fun b hb => ?_, q⟩
    · show IsLongIter _ _ (lo + ((0 : Nat) : Int) * 1) ((((hi - lo).toNat : Nat) : Int) - ((0 : Nat) : Int)) 1
      rw [z0, z1]
      exact Heap.get?_push_size _ rfl
    · rw [List.mem_singleton.mp hb]
      exact J.fpOk (Nat.le_refl _) (J.hok.fresh (Nat.le_refl _))
def iRngW (t : TA) : TI := fun σ H R => t σ H fun vs H1 => ∃ i j : Int, vs = [.int i, .int j] ∧ R (Itr i (j - i).toNat) H1
theorem pi_range2W (hg : Gl X "range") (hm : X.mg "range" = none) (ha : PA X [a, b] t) (h1 : starEach [a, b] X.env = [(false, eval a X.env), (false, eval b X.env)] := by rfl) (h2 : starEach [b] X.env = [(false, eval b X.env)] := by rfl) :
    PI X tg (.Call (.Name "range" p) [a, b] [] pos) (iRngW t) := by
  refine ⟨fun pins s σ H R I h => Call_ (ld_blt I hg hm boot_range (PyProof.Rows.callWith_type1 (thn (ha.run pos pins s σ H _ I h) fun us s1 hx => ?_) (by rw [h1, h2]) (by rw [h2]; rfl)))⟩
  obtain ⟨vs, H1, J, r, i, j, rfl, q⟩ := hx
  obtain ⟨u, v, rfl, ⟨c, rfl⟩, ⟨d, rfl⟩⟩ : ∃ u v, us = [u, v] ∧ RelV (.int i) u ∧ RelV (.int j) v := by
    cases r with
    | cons r1 r => cases r with
      | cons r2 r => cases r; exact ⟨_, _, rfl, r1, r2⟩
  exact call_range_2 (wide_it J q)
end
/-! ## parts of a list -/
theorem cut_from (xs : List V) (k : Nat) : cutV xs (some (k : Int)) none = xs.drop k := by
  unfold cutV
  rw [HT.sIx_nat, HT.sIx_none]
  rcases Nat.le_total k xs.length with h | h
  · rw [Nat.min_eq_left h]
    exact List.take_of_length_le (by rw [List.length_drop]; omega)
  · rw [Nat.min_eq_right h, List.drop_eq_nil_of_le (Nat.le_refl _), List.drop_eq_nil_of_le h]
    simp
theorem cut_to (xs : List V) (k : Nat) : cutV xs none (some (k : Int)) = xs.take k := by
  unfold cutV
  rw [HT.sIx_nat, HT.sIx_none, List.drop_zero, Nat.sub_zero]
  rcases Nat.le_total k xs.length with h | h
  · rw [Nat.min_eq_left h]
  · rw [Nat.min_eq_right h, List.take_of_length_le (Nat.le_refl _), List.take_of_length_le h]
theorem cut_mid (xs : List V) (j k : Nat) : cutV xs (some (j : Int)) (some (k : Int)) = (xs.drop j).take (k - j) := by
  unfold cutV
  rw [HT.sIx_nat, HT.sIx_nat]
  rcases Nat.le_total j xs.length with h | h
  · rw [Nat.min_eq_left h]
    rcases Nat.le_total k xs.length with h2 | h2
    · rw [Nat.min_eq_left h2]
    · rw [Nat.min_eq_right h2, List.take_of_length_le (by rw [List.length_drop]; omega), List.take_of_length_le (by rw [List.length_drop]; omega)]
  · rw [Nat.min_eq_right h, List.drop_eq_nil_of_le (Nat.le_refl _), List.drop_eq_nil_of_le h]
    simp
theorem iv_drop (ns : List Int) (k : Nat) : (iv ns).drop k = iv (ns.drop k) := by simp
theorem iv_take (ns : List Int) (k : Nat) : (iv ns).take k = iv (ns.take k) := by simp
/-! ## a op b op c op d -/
def tChain3 (r r' r'' : R2) (ta tb tc td : TE) : TE := fun σ H Q => ta σ H fun x H1 => tb σ H1 fun y H2 => r x y H2 fun z H3 => ∃ k, z = .bl k ∧
  (if k = true then tc σ H3 fun v H4 => r' y v H4 fun z' H5 => ∃ k', z' = .bl k' ∧ (if k' = true then td σ H5 fun u H6 => r'' v u H6 Q else Q (.bl false) H5) else Q (.bl false) H3)
section
variable {X : Cx} {a b c d : Expr} {ta tb tc td : TE} {pos : Pos} {op op' op'' : CmpOp} {r r' r'' : R2}
theorem pt_chain3 (h1 : OpR X (compareOp op) r) (h2 : OpR X (compareOp op') r') (h3 : OpR X (compareOp op'') r'') (ha : PE X a ta) (hb : PE X b tb) (hc : PE X c tc) (hd : PE X d td)
    (hm : lastMarks [op, op', op''] [b, c, d] = false := by with_unfolding_all rfl) : PT X (.Compare a [op, op', op''] [b, c, d] pos) (tTest (tChain3 r r' r'' ta tb tc td)) := by
  refine ⟨fun pins s σ H Q I h => isTrue_chain (thn (ha.run pins s σ H _ I h) fun v s1 ⟨x, H1, I1, r1, q1⟩ => test_link (thn (hb.run pins s1 σ H1 _ I1 q1) fun u s2 ⟨y, H2, I2, r2, q2⟩ =>
    thn (h1 pins s2 σ H2 x y v u _ I2 r1 r2 q2) fun e s3 ⟨z, H3, I3, r3, k, ez, q3⟩ => ?_)) hm⟩
  subst ez
  cases r3
  refine wpAny_truthy_bool ?_
  cases k with
  | false =>
    obtain ⟨k2, e2, q2⟩ := q3
    cases e2
    exact ite_ff ⟨H3, I3, q2⟩
  | true =>
    refine ite_tt (test_link (thn (hc.run pins s3 σ H3 _ I3 q3) fun w4 s4 ⟨y4, H4, I4, r4, q4⟩ => thn (h2 pins s4 σ H4 y y4 u w4 _ I4 r2 r4 q4) fun e5 s5 ⟨z5, H5, I5, r5, k5, e5', q5⟩ => ?_))
    subst e5'
    cases r5
    refine wpAny_truthy_bool ?_
    cases k5 with
    | false =>
      obtain ⟨k2, e2, q2⟩ := q5
      cases e2
      exact ite_ff ⟨H5, I5, q2⟩
    | true =>
      refine ite_tt (test_last (thn (hd.run pins s5 σ H5 _ I5 q5) fun w6 s6 ⟨y6, H6, I6, r6, q6⟩ => thn (h3 pins s6 σ H6 y4 y6 w4 w6 _ I6 r4 r6 q6) fun e7 s7 ⟨z7, H7, I7, r7, k7, e7', q7⟩ => ?_))
      subst e7'
      cases r7
      exact wpAny_truthy_bool ⟨H7, I7, q7⟩
end
end Sq


set_option Elab.async false
set_option maxRecDepth 100000
set_option maxHeartbeats 4000000
namespace Sq
open PySem PySem.Spec PyProof.Rows L2
/-! ## an own exception's __init__(self, value): super().__init__(text); self.value = value -/
section
open PySem.W PySem.Calls
variable {prog : Program} {w : World} {A : Around} {E : Value → Shared → Prop} {h : Heap} {g : Array GenState} {d : Drawn} {t : Nat} {os : OsState}
variable {nm q : Str} {C N : Addr} {bs bm : List Value} {hdct : Bool} {sn : List Str} {sub : List Value} {ab : Bool} {col : Option Bool} {dd : Option Addr} {k0 k1 k2 k3 k5 : Option Value}
/-- ValueError.__init__, bound to e, called -/
theorem call_vw {u e t0 : Addr} {rest : List Value} {Q : Value → Shared → Prop}
    (hC : h.get? C = some (excClassObj nm q C N bs bm hdct sn sub ab col dd k0 k1 k2 k3 k5 "ValueError.__new__")) (he : h.get? e = some (HandSPX.excO C t0)) (hu : h.get? u = some (kxs_mw "ValueError.__init__" e)) (hrest : rest.length ≤ sizeLine)
    (hq : ∀ h' t1, (∀ b o, b ≠ e → h.get? b = some o → h'.get? b = some o) → h'.get? e = some (HandSPX.excO C t1) → Q .none ⟨h', g, d, t, os⟩) :
    wpAny (model prog w) A (call (.ref u) rest) Q E ⟨h, g, d, t, os⟩ := by
  refine wpAny_call (codeAny_of_tree ?_)
  show wpAny _ A.in1 (callAny (.ref u) ⟨rest, []⟩) _ _ _
  simp only [callAny]
  refine wpAny_bind (wpAny_load hu ?_)
  simp only [kxs_mw, show (Value.type "method-wrapper" == Value.type "method" || Value.type "method-wrapper" == Value.type "builtin_function_or_method" || Value.type "method-wrapper" == Value.type "method-wrapper") = true by decide, if_true]
  refine W.KFB.if_so (by decide) ?_
  refine wpAny_bind (check_bound_init F.excBase_ValueError.toExcCallFacts hC he rfl ?_)
  refine wpAny_bind (wpAny_pure (wpAny_pure ⟨Code.quiet_builtin _ (by decide +kernel), codeAny_builtin F.excBase_ValueError.initEntry ?_⟩))
  exact exc_init_tree (cls := .ref C) (t0 := t0) (dv := none) (c2 := .none) (c3 := .none) (b4 := .bool false) he hrest fun h' k e' _ => hq h' h.objs.size k e'
end

def spXI (C : Addr) : Sp := fun vs H Q _ => ∃ (a : Addr) (v : V), vs = [.ref a, v] ∧ H a = some (exo a C none) ∧ ∀ dx, H dx = none → dx ≠ a → Q .non (upd (upd H dx (exd dx [("value", v)])) a (exo a C (some dx)))
/-- what the written part says of such an __init__ -/
structure XIn (P : Program) (K : PySem.W.Frag) (C f cc cda : Addr) (qual file : Str) : Prop where
  code : PySem.W.codeIn K (.ref cda) qual = true
  cell : ∃ cl cld csl, K.lookup cc = some ⟨cl, cld, .cell (some (.ref C)), csl⟩
  rec_ : ∃ ccl cdd vs ccs tf, K.lookup cda = some ⟨ccl, cdd, .fields vs, ccs⟩ ∧ vs[2]? = some (.str file tf)
  file : ((P.main.file : Str) == file) = true
  top : (P.main.scope.names.lookup ("super" : Str)).isSome = false
  opq : PySem.W.nsIn K PySem.cStatics "thirdparty.any" = some none
  sup : PySem.W.ks_superIn K C C "__init__" = some (some (.builtin "ValueError.__init__"))
  veb : PySem.W.subIn K (.ref C) (.type "ValueError") = some true
  self : PySem.W.mroIn K C (.ref C) = some true
  val : PySem.W.findIn K (.ref C) "value" = some none
abbrev xiScope : Scope := ⟨.function, [("self", .local), ("value", .local), ("__class__", .free), ("super", .globalImplicit)], false, false, []⟩
abbrev xiArgs (q0 q1 : Pos) : Arguments := { posonlyargs := [], args := [{ arg := "self", annotation := none, pos := q0 }, { arg := "value", annotation := none, pos := q1 }], vararg := none, kwonlyargs := [], kw_defaults := [], kwarg := none, defaults := [] }
abbrev xiBody (m : Str) (p0 p1 p2 p3 p4 p5 p6 p7 p8 p9 : Pos) : List Stmt := [.Expr (.Call (.Attribute (.Call (.Name "super" p0) [] [] p1) "__init__" p2) [.Constant (.str m) 0 p3] [] p4) p5, .Assign [.Attribute (.Name "self" p6) "value" p7] (.Name "value" p8) p9]
theorem xi_S : NdefX.NScope ["self", "value", "__class__"] ["self", "value"] ["__class__"] xiScope := NdefX.nscope_by (by decide +kernel)
/-- how the call of super().__init__ begins (by rfl, once the places are known) -/
def XiCall (qual : Str) (f cc cda : Addr) (m : Str) (p0 p1 p2 p3 p4 : Pos) : Prop := ∀ L : Addr, eval (.Call (.Attribute (.Call (.Name "super" p0) [] [] p1) "__init__" p2) [.Constant (.str m) 0 p3] [] p4) (PySem.W.ksEnv qual xiScope L f (.ref cda) cc) = (do
  let ov ← attributeBase (.Call (.Name "super" p0) [] [] p1) "__init__" (PySem.W.ksEnv qual xiScope L f (.ref cda) cc) (eval (.Call (.Name "super" p0) [] [] p1) (PySem.W.ksEnv qual xiScope L f (.ref cda) cc))
  standAt p2.atName
  let (g, first) ← holding [ov] (getMethod ov "__init__" (do return (← importBound (.Call (.Name "super" p0) [] [] p1) (PySem.W.ksEnv qual xiScope L f (.ref cda) cc)).getD true))
  callWith p4 g first (backTo p4 (starEach [.Constant (.str m) 0 p3] (PySem.W.ksEnv qual xiScope L f (.ref cda) cc))) [])
theorem ok_xi {P : Program} {w : World} {K : PySem.W.Frag} {mg : Str → Option Value} {base : Heap} {CX : CXT} {k : Nat} {C f cc cda : Addr} {qual file : Str} {kV doc pm ct oc : Value} {an od : Option Addr} {osl : Array (Option Value)}
    {p0 p1 p2 p3 p4 p5 p6 p7 p8 p9 q0 q1 : Pos} {m : Str} (T : OexC K C) (XI : XIn P K C f cc cda qual file)
    (lk : K.lookup f = some ⟨oc, od, .func (PySem.W.ksFn "__init__" qual (xiArgs q0 q1) (xiBody m p0 p1 p2 p3 p4 p5 p6 p7 p8 p9) xiScope .none kV doc pm an (.ref cda) ct cc), osl⟩) (hms : mg "super" = none) (he : XiCall qual f cc cda m p0 p1 p2 p3 p4) :
    FnOk P w K mg base CX (k + 1) f (PySem.W.ksFn "__init__" qual (xiArgs q0 q1) (xiBody m p0 p1 p2 p3 p4 p5 p6 p7 p8 p9) xiScope .none kV doc pm an (.ref cda) ct cc) ["self", "value"] (spXI C) := by
  refine ⟨fun vs H Q E h => by obtain ⟨a, v, rfl, _⟩ := h; rfl, fun A outer s H args us vs Q E hr e0 hbind r hsp => ?_⟩
  obtain ⟨a, v, rfl, ha, hq⟩ := hsp
  have KX : K.In s.heap := e0.mod.kin.keeps fun b o e => (e0.bs b o e).1
  have lim : s.heap.NoLimit := e0.mod.nolimit.keeps fun b o e => (e0.bs b o e).1
  obtain ⟨cl, cld, csl, hcell⟩ := XI.cell
  obtain ⟨ccl, cdd, cvs, ccs, tf, hcode, hvs⟩ := XI.rec_
  refine PySem.ks_codeAny_call_defAt (binds := (["self", "value"] : List Str).zip us) hr.depth (KX _ _ lk) rfl lim (PySem.W.codeRec_of KX XI.code) rfl hbind xi_S.nocell (fun ⟨n, _⟩ hy => xi_S.par n (List.of_mem_zip hy).1) (fun h1 hns kp => ?_) xi_S.co xi_S.gen xi_S.kind
  have S := xi_S
  let F : NdefX.NF := ⟨"__init__", qual, xiArgs q0 q1, xiBody m p0 p1 p2 p3 p4 p5 p6 p7 p8 p9, xiScope, [("__class__", cc)], cda⟩
  have cells : NdefX.CellsAt F.cl ["__class__"] [none] s.heap H := by
    have one : ∀ y c, F.cl.lookup y = some c → y = ("__class__" : Str) ∧ c = cc := fun y c e => by
      have e' : ([("__class__", cc)] : List (Str × Addr)).lookup y = some c := e
      by_cases z : y = ("__class__" : Str)
      · subst z
        simp [List.lookup] at e'
        exact ⟨rfl, e'.symm⟩
      · have z2 : (y == ("__class__" : Str)) = false := by simpa using z
        simp [List.lookup, z2] at e'
    refine ⟨rfl, fun y c e => ?_, fun x y c e1 e2 => ?_, fun i y e => ?_⟩
    · rw [(one y c e).2]
      exact ⟨(e0.bs _ _ (e0.mod.kin _ _ hcell)).2, _, ⟨_, KX _ _ hcell, rfl⟩⟩
    · rw [(one x c e1).1, (one y c e2).1]
    · cases i with
      | zero =>
        obtain rfl : ("__class__" : Str) = y := by simpa using e
        exact ⟨cc, by simp [F, List.lookup], fun v h => by simp at h⟩
      | succ i => simp at e
  have I : Inv (NdefX.ncx CX P w K mg base ["self", "value", "__class__"] F f A outer s H E) [] (NdefX.startF ["self", "value", "__class__"] [.ref a, v] [none]) H { s with heap := h1, toks := s.toks + ((["self", "value"] : List Str).zip us).length } :=
    NdefX.inv_startN (F := F) S hr.hd e0 rfl r cells hns kp
  have K1 : K.In h1 := KX.keeps kp
  show PySem.wpAt (model P w) (A.deeper (PySem.W.ksEnv qual xiScope s.heap.objs.size f (.ref cda) cc)) (.func (xiBody m p0 p1 p2 p3 p4 p5 p6 p7 p8 p9) (PySem.W.ksEnv qual xiScope s.heap.objs.size f (.ref cda) cc)) (execs (xiBody m p0 p1 p2 p3 p4 p5 p6 p7 p8 p9) (PySem.W.ksEnv qual xiScope s.heap.objs.size f (.ref cda) cc)) _ _ _
  refine ks_wpAt_execs_cons (ks_wpAt_Expr_any (ks_wpAt_MethodCall ?_ (he _)))
  refine ks_wpAt_super_base (env := NdefX.envF F f s.heap.objs.size) rfl rfl (by decide) rfl (K1 _ _ lk) rfl rfl rfl (K1 _ _ hcode) rfl hvs XI.file XI.top ?_
  obtain ⟨nm, q, N, bs, bm, sn, sub, ab, col, dd, k0, k1, k2, k3, k5, hC, hbm⟩ := T.cls
  have hcl : PySem.W.clsIn K C = some { name := nm, bases := bs, mro := .ref C :: bm, ns := N, qualname := q, hasDict := true, slotNames := sn, subclasses := sub, abstract := ab, collection := col, hasDel := false } := by unfold PySem.W.clsIn; rw [hC] <;> rfl
  obtain ⟨mb, hb1, hb2⟩ := I.mod.blt
  obtain ⟨t1, hoe⟩ := exo_at I.hok ha
  have hself : (((["self", "value"] : List Str).zip us).reverse.lookup ("self" : Str)) = some (Value.ref a) := by
    cases r with
    | cons r1 r => cases r with
      | cons r2 r =>
        cases r
        obtain rfl := r1
        rfl
  refine PySem.W.ks_loadName_global rfl rfl (Calls.loadGlobal_builtin (I.mod.glob.keeps I.bk) hms (hb1.keeps I.bk) ((hb2 _ (by decide)).trans PyProof.Rows.Boot.«super») ⟨rfl, ?_⟩)
  refine wpAny_loadName_free rfl rfl rfl ⟨_, K1 _ _ hcell, rfl⟩ ?_
  refine wpAny_loadName_local rfl rfl hns hself ?_
  refine ks_wpAny_isType_cls (K1 _ _ hC) rfl ⟨rfl, ?_⟩
  refine ks_wpAny_call_super (K1 _ _ hC) rfl hoe rfl (fun c e => by cases e) (PySem.W.looks_mroIn K1 XI.self) (fun h2 e2 kp2 => ?_)
  have I2 := I.kept (t' := s.toks + ((["self", "value"] : List Str).zip us).length) kp2
  have K2 : K.In h2 := K1.keeps kp2
  obtain ⟨t2, hoe2⟩ := exo_at I2.hok ha
  have at2 : PySem.W.InstAt h2 a { cls := .ref C, dict := none, data := .fields #[.ref t2, .none, .none, .none, .bool false, .none] } C none := ⟨hoe2, rfl, rfl, trivial⟩
  have hsup : PySem.W.alongIn K "__init__" (((.ref C :: bm).dropWhile (· != Value.ref C)).drop 1) = some (some (.builtin "ValueError.__init__")) := by
    have z := XI.sup
    unfold PySem.W.ks_superIn at z
    rw [hcl] at z
    exact z
  refine PySem.W.kxs_getMethod PySem.W.kxs_ValueError e2 (PySem.W.looks_opaque K2 XI.opq) (l₀ := .ref C :: bm) ((PySem.W.looks_clsIn K2 hcl).andThen .now) rfl K2 hsup (at2.type.andThen (PySem.W.looks_subIn K2 XI.veb)) (PySem.W.ks_ne K2 at2 hcl) (by decide) ?_
  have I3 := I2.kept (h' := h2.push (PySem.W.kxs_mw "ValueError.__init__" a)) (t' := s.toks + ((["self", "value"] : List Str).zip us).length + 1) fun b o e => Heap.get?_push_of_some _ e
  refine PySem.W.kxs_callWith (i := "ValueError.__init__") (x := a) rfl (Calls.evalArgs_plain (Calls.spliced_cons (Calls.Constant_str (pos := p3) (k := 0) (Calls.spliced_nil ⟨Heap.get?_push_at rfl rfl, ?_⟩))))
  have I4 := I3.tok (s.toks + ((["self", "value"] : List Str).zip us).length + 1 + 1)
  obtain ⟨t4, hoe4⟩ := exo_at I4.hok ha
  refine call_vw (t0 := t4) (Heap.get?_push_of_some _ (K2 _ _ hC)) hoe4 (Heap.get?_push_at rfl rfl) (by simp [sizeLine_eq]) fun h5 t5 k5 e5 => ?_
  have J0 := I4.write (h' := h5) (t' := s.toks + ((["self", "value"] : List Str).zip us).length + 1 + 1) (x := a) (e := a) (o := exo a C none) (by rw [ha]; exact True.intro) (.inl rfl) k5 ⟨_, e5⟩ (exo_ok e5)
  have eu : upd H a (exo a C none) = H := by
    funext b
    by_cases hb : b = a
    · rw [hb, upd_same, ha]
    · rw [upd_ne hb]
  rw [eu] at J0
  show PySem.wpAt _ _ _ (execs [.Assign [.Attribute (.Name "self" p6) "value" p7] (.Name "value" p8) p9] _) _ _ _
  refine wpAt_of_wpAny ?_
  have pst : PSs (NdefX.ncx CX P w K mg base ["self", "value", "__class__"] F f A outer s H E) [.Assign [.Attribute (.Name "self" p6) "value" p7] (.Name "value" p8) p9] (tOst K "value" (tVar 0) (tVar 1)) := pss_one (ps_ost (pv 0) (pv 1) rfl)
  refine wpAny_mono (pst.run [] _ _ H { nx := fun _ H' => Q .non H', rt := Q } J0 ⟨v, rfl, .ref a, rfl, a, C, rfl, T, XI.val, .inl ⟨ha, fun dx n ne => hq dx n ne⟩⟩) (fun fl s' hs => ?_) fun e s' hs => hs
  cases fl with
  | ret u =>
    obtain ⟨v, σ', H', J, rv, q⟩ := hs
    exact ⟨v, H', J.os, J.bare, J.base, J.hok, rv, q⟩
  | next =>
    obtain ⟨σ', H', J, q⟩ := hs
    exact ⟨.non, H', J.os, J.bare, J.base, J.hok, rfl, q⟩
  | brk =>
    obtain ⟨_, _, _, q⟩ := hs
    exact False.elim q
  | cont =>
    obtain ⟨_, _, _, q⟩ := hs
    exact False.elim q
end Sq


set_option Elab.async false
set_option maxRecDepth 100000
set_option maxHeartbeats 4000000
namespace Sq
open PySem PySem.Spec PyProof.Rows L2
/-! ## an exception that has been caught and is kept -/
/-- at a: an exception of the class cls with the dict d, at rest -/
def Xo (a : Addr) (cls : Value) (d : Option Addr) : HO := .ext fun h => ∃ (oe : Obj) (vs : Array Value), h.get? a = some oe ∧ Zc cls d oe ∧ oe.data = .fields vs
theorem xo_ok {P : Program} {w : World} {H : Hp} {h : Heap} {a : Addr} {cls : Value} {d : Option Addr} {oe : Obj} {vs : Array Value} (e : h.get? a = some oe) (z : Zc cls d oe) (f : oe.data = .fields vs) : ObjOk P w H h a (Xo a cls d) :=
  ⟨⟨oe, vs, e, z, f⟩, ⟨_, e⟩, fun _ _ ⟨o2, v2, e2, z2, f2⟩ k => ⟨o2, v2, k _ e2, z2, f2⟩⟩
theorem xo_at {P : Program} {w : World} {H : Hp} {h : Heap} {a : Addr} {cls : Value} {d : Option Addr} (hok : HOk P w H h) (e : H a = some (Xo a cls d)) : ∃ (oe : Obj) (vs : Array Value), h.get? a = some oe ∧ Zc cls d oe ∧ oe.data = .fields vs := by
  have x : ObjOk P w H h a (.ext fun h => ∃ (oe : Obj) (vs : Array Value), h.get? a = some oe ∧ Zc cls d oe ∧ oe.data = .fields vs) := hok a _ e
  exact x.1
section
variable {X : Cx} {pins : List (Addr × Obj)} {σ : L2.St} {H : Hp} {s : Shared} {a : Addr} {cls : Value} {d : Option Addr} {oe : Obj} {vs : Array Value}
/-- an object that is younger than the entry and that nothing holds is kept from now on -/
theorem track (J : Inv X pins σ H s) (e : s.heap.get? a = some oe) (na : H a = none) (nL : a ≠ X.env.locals) (np : ∀ p ∈ X.pn ++ pins, p.1 ≠ a) (young : X.s_0.heap.get? a = none) (z : Zc cls d oe) (f : oe.data = .fields vs) : Inv X pins σ (upd H a (Xo a cls d)) s := by
  have old : ∀ {b : Addr} {o : Obj}, X.s_0.heap.get? b = some o → b ≠ a := fun {b o} q c => by
    rw [c, young] at q
    cases q
  have set : ∀ {b : Addr} {o : HO}, H b = some o → b ≠ a := fun {b o} q c => by
    rw [c, na] at q
    cases q
  refine ⟨J.ok, J.os, J.bare, ⟨J.base.keep, J.base.slot, fun b o q n x => ?_, J.base.there, fun b xs q => ?_, fun b o v q => ?_, fun b ps q => ?_⟩, J.loc, J.cell, ?_, fun y c q => ?_, fun p hp => ?_, fun b o q => ?_, J.len⟩
  · rw [upd_ne (old q)]
    exact J.base.free b o q n x
  · have z := J.base.tups b xs q
    rw [upd_ne (set z)]
    exact z
  · have z := J.base.frzs b o v q
    rw [upd_ne (set z)]
    exact z
  · obtain ⟨more, z⟩ := J.base.tbls b ps q
    exact ⟨more, by rw [upd_ne (set z)]; exact z⟩
  · rw [upd_ne (Ne.symm nL)]
    exact J.free
  · have nc : c ≠ a := fun h => by
      obtain ⟨w, o, e2, d2⟩ := J.cell y c q
      rw [h, e] at e2
      cases e2
      rw [f] at d2
      cases d2
    rw [upd_ne nc]
    exact J.freeC y c q
  · obtain ⟨e1, n1, r1⟩ := J.pin p hp
    exact ⟨e1, by rw [upd_ne (np p hp)]; exact n1, r1⟩
  · by_cases hb : b = a
    · subst hb
      rw [upd_same] at q
      cases q
      exact xo_ok e z f
    · rw [upd_ne hb] at q
      have own : ∀ c, H c = some (.own b) → c ≠ a := fun c hc h => by
        rw [h, na] at hc
        cases hc
      exact (J.hok b o q).stay (fun c v _ k => k) (fun c hc => by rw [upd_ne (own c hc)]; exact hc) fun c xs hc => by rw [upd_ne fun h => by rw [h, na] at hc; cases hc]; exact hc
end

/-- what is wished behind the suite of 'except x as n' -/
def keepD (D : Ends) (i : Nat) : Ends where
  nx := fun τ G => D.nx (τ.set i none) G
  rt := D.rt
  bk := fun τ G => D.bk (τ.set i none) G
  ct := fun τ G => D.ct (τ.set i none) G
def wKeep (K : PySem.W.Frag) (c : Value) (i : Nat) (ts : Addr → Value → Option Addr → TS) (Wout : WX) (D : Ends) : WX := fun cls d σ H => ∃ b, PySem.W.exmOne K cls c = some b ∧
  (b = true → ∀ a, H a = none → ts a cls d (keepD D i) (σ.set i (some (.ref a))) (upd H a (Xo a cls d))) ∧ (b = false → Wout cls d σ H)
/-- into the suite and out of it -/
theorem suite_in {X : Cx} {pins : List (Addr × Obj)} {σ : L2.St} {H : Hp} {s : Shared} {a : Addr} (I : Inv X pins σ H s) : Inv (X.suite a (X.pn ++ pins)) [] σ H s :=
  ⟨I.ok.suite _ _, I.os, I.bare, I.base, I.loc, I.cell, I.free, I.freeC, fun p hp => I.pin p (by rw [List.append_nil] at hp; exact hp), I.hok, I.len⟩
theorem suite_out {X : Cx} {pins : List (Addr × Obj)} {σ : L2.St} {H : Hp} {s : Shared} {a : Addr} (I : Inv (X.suite a (X.pn ++ pins)) [] σ H s) (ok : X.Ok) : Inv X pins σ H s :=
  ⟨ok, I.os, I.bare, I.base, I.loc, I.cell, I.free, I.freeC, fun p hp => I.pin p (by rw [List.append_nil]; exact hp), I.hok, I.len⟩
section
variable {X : Cx} {x n : Str} {c : Value} {i : Nat} {body rest : List Stmt} {st : Stmt} {np pos pos2 : Pos} {tb : WX → TS} {ts : Addr → Value → Option Addr → TS} {Wout : WX}
/-- as ps_try_as; the exception stays behind the suite -/
theorem ps_try_keep (hs : X.stack = X.env :: X.outer) (hf : X.env.frame = some X.env.locals) (hN : X.N.Nodup) (hi : X.N[i]? = some n) (hln : X.env.kindOf n = some .local) (hex : X.ex = []) (hc : Names X x c) (tk : Takes X Wout)
    (hb : ∀ (W : WX) (pn : List (Addr × Obj)) (xe : Value → Shared → Prop), Takes (X.tr pn xe) W → PassesOwn (model X.prog X.w) X.A X.env xe → PSs (X.tr pn xe) body (tb W))
    (hsu : ∀ (a : Addr) (cls : Value) (d : Option Addr) (pn : List (Addr × Obj)), PSs (X.suite a pn) (st :: rest) (ts a cls d)) :
    PS X (.Try body [.ExceptHandler (some (.Name x np)) (some n) (st :: rest) pos2] [] [] pos) (fun D σ H => tb (wKeep X.K c i ts Wout D) D σ H) := by
  refine ⟨fun pins s σ H D I h => wpAny_Try_except ?_⟩
  have ok := I.ok
  have hfr : X.A.frames = some (X.env :: X.outer) := by rw [ok.frames, hs]
  have hlc : Loc X.env.scope n := .inl hln
  have seen : ∀ {C : Heap} {h : Heap} {q : Addr} {o : Obj} {vs : Array Value}, h.FunFrames C (X.env :: X.outer) → h.get? q = some o → o.data = .fields vs → q ∉ frs (X.env :: X.outer) := fun {C h q o vs} ff e dd hm => by
    obtain ⟨_, o2, e2, nn⟩ := ff.mem hm
    rw [e] at e2
    cases e2
    exact nn _ dd
  refine wpAny_mono ((hb (wKeep X.K c i ts Wout D) (X.pn ++ pins) _ (fun u s2 air => ?_) PassesOwn.looking).run [] s σ H D (I.toTry _) h) (fun fl s2 q => ?_) fun _ _ z => z
  · obtain ⟨a, G, sI, pins2, τ, H2, cls, d, rfl, J2, nb, up, sky, na, os, ag, b, hb1, yes, no⟩ := air
    have J : Inv X pins τ H2 sI := J2.ofTry ok
    rw [hs] at sky
    refine Sky.land Zc.steady hfr hf sky fun h3 l3 up3 => ?_
    have J3 : Inv X pins τ H2 { s2 with heap := h3 } := J.landed nb l3.1 (up.trans up3) os ag
    obtain ⟨o3, v3, e3, z3, d3⟩ := l3.there
    have out := seen l3.2.2.1 e3 d3
    have nL : a ≠ X.env.locals := fun z => out (List.mem_filterMap.mpr ⟨X.env, List.mem_cons_self, by rw [hf, z]⟩)
    have nF : a ∉ X.fs := fun hm => by
      obtain ⟨e, he, q⟩ := List.mem_filterMap.mp hm
      exact out (List.mem_filterMap.mpr ⟨e, List.mem_cons_of_mem _ he, q⟩)
    have young : sI.heap.get? a = none := by
      cases q : sI.heap.get? a with
      | none => rfl
      | some o =>
        have z := nb a o q (by rw [hs]; exact out)
        rw [l3.2.1] at z
        cases z
    have young0 : X.s_0.heap.get? a = none := by
      cases q : X.s_0.heap.get? a with
      | none => rfl
      | some o =>
        obtain ⟨o2, z⟩ := J.base.there a o q (by rw [hex]; simp)
        rw [young] at z
        cases z
    have off : ∀ p ∈ X.pn ++ pins, p.1 ≠ a := fun p hp z => by
      have y := (J.pin p hp).1
      rw [z, young] at y
      cases y
    have S3 := J3.suite e3 d3 na nL nF
    have LT : PySem.W.Looks (model X.prog X.w) h3 (typeOf (.ref a)) cls := fun _ _ _ s k q => wpAny_typeOf_ref (k _ _ e3) (by rw [z3.1]; exact q)
    have LM := PySem.W.exm_one (M := model X.prog X.w) J3.kIn LT hb1
    have ask : ∀ {Q2 : Value → Shared → Prop} {E2 : Value → Shared → Prop}, Q2 c { s2 with heap := h3 } → wpAny (model X.prog X.w) (X.A.mark (some (.ref a))) (eval (.Name x np) X.env) Q2 E2 { s2 with heap := h3 } := fun {Q2 E2} q => by
      obtain ⟨hg, hdb, hm | ⟨hm, hv, hnn⟩⟩ := hc
      · exact ld_glob (X := X.suite a ((a, o3) :: (X.pn ++ pins))) S3 hg hm q hdb
      · exact ld_blt (X := X.suite a ((a, o3) :: (X.pn ++ pins))) S3 hg hm hv q hnn hdb
    refine wpAny_handleBy_cons (codeAny_handlers_test (ask (LM.here ?_))) (by intro q; cases q)
    cases b with
    | true =>
      refine codeAny_handlers_suite_as (HandSPX.lands_againZ l3 fun h4 l4 up4 => ?_)
      have J4 : Inv X pins τ H2 { s2 with heap := h4 } := J.landed nb l4.1 ((up.trans up3).trans up4) os ag
      obtain ⟨o4, v4, e4, z4, d4⟩ := l4.there
      have S4 : Inv (X.suite a (X.pn ++ pins)) [] τ (upd H2 a (Xo a cls d)) { s2 with heap := h4 } := suite_in (track J4 e4 na nL off young0 z4 d4)
      refine store_ok (X := X.suite a (X.pn ++ pins)) (v := .ref a) S4 hN hi hlc rfl (fun s5 S5 => ?_) (.inr hln)
      refine wpAny_mono ((hsu a cls d (X.pn ++ pins)).run [] s5 _ _ _ S5 (yes rfl a na)) (fun fl s6 hsp => ?_) fun _ _ z => z.elim
      have fin : ∀ {σ6 : L2.St} {H6 : Hp} {Q2 : Shared → Prop}, Inv (X.suite a (X.pn ++ pins)) [] σ6 H6 s6 → (∀ s7, Inv X pins (σ6.set i none) H6 s7 → Q2 s7) →
          wpAny (model X.prog X.w) X.A (do bindName X.env n .none; unbindBehindTheSuite X.env n pos2) (fun _ s7 => Q2 s7) X.xe s6 := fun {σ6 H6 Q2} S6 hq =>
        gone_ok (X := X.suite a (X.pn ++ pins)) S6 hN hi hln fun s7 S7 => hq s7 (suite_out S7 ok)
      cases fl with
      | next =>
        obtain ⟨σ6, H6, S6, q6⟩ := hsp
        exact fin S6 fun s7 J7 => ⟨_, _, J7, q6⟩
      | brk =>
        obtain ⟨σ6, H6, S6, q6⟩ := hsp
        exact fin S6 fun s7 J7 => ⟨_, _, J7, q6⟩
      | cont =>
        obtain ⟨σ6, H6, S6, q6⟩ := hsp
        exact fin S6 fun s7 J7 => ⟨_, _, J7, q6⟩
      | ret u =>
        obtain ⟨v6, σ6, H6, S6, r6, q6⟩ := hsp
        exact fin S6 fun s7 J7 => ⟨_, _, _, J7, r6, q6⟩
    | false =>
      refine wpAny_handleBy_nil ?_
      obtain ⟨_, _, _, oe, vs, T, _, _, he, _, hd, h1, _⟩ := id l3
      unfold PySem.passOn
      refine wpAny_bind (wpAny_field he hd h1 ?_)
      rw [if_neg (show ¬ ((Value.ref T == Value.none) = true) from by simp)]
      have go : wpAny (model X.prog X.w) X.A (setFlight (.ref a) X.env.frame) (fun _ s4 => wpAny (model X.prog X.w) X.A (throw (.ref a) : Sem Flow) (SP X pins D) X.xe s4) X.xe { s2 with heap := h3 } := by
        rw [hf]
        exact HandSPX.setFlight_upZ l3 fun h4 g4 up4 => wpAny_throw (tk _ _ ⟨a, G, sI, pins, τ, H2, cls, d, rfl, J, nb, (up.trans up3).trans up4, .inr (.inr (by rw [hs]; exact g4)), na, os, ag, no rfl⟩)
      first
        | exact wpAny_bind (wpAny_pure (wpAny_bind go))
        | exact wpAny_bind go
  · cases fl with
    | next =>
      obtain ⟨τ, H2, J, q⟩ := q
      exact wpAny_execs_nil ⟨τ, H2, J.ofTry ok, q⟩
    | brk =>
      obtain ⟨τ, H2, J, q⟩ := q
      exact ⟨τ, H2, J.ofTry ok, q⟩
    | cont =>
      obtain ⟨τ, H2, J, q⟩ := q
      exact ⟨τ, H2, J.ofTry ok, q⟩
    | ret u =>
      obtain ⟨v, τ, H2, J, r, q⟩ := q
      exact ⟨v, τ, H2, J.ofTry ok, r, q⟩
end

/-! ## a kept exception looked at -/
/-- at a: a kept exception of the own class C with the attributes fs -/
def Kept (H : Hp) (a C : Addr) (fs : List (Str × V)) : Prop := ∃ d, (H a = some (Xo a (.ref C) (some d)) ∧ H d = some (.xd fs)) ∨ (H a = some (exo a C (some d)) ∧ H d = some (exd d fs))
theorem kept_at {X : Cx} {pins : List (Addr × Obj)} {σ : L2.St} {H : Hp} {s : Shared} {a C : Addr} {fs : List (Str × V)} (I : Inv X pins σ H s) (k : Kept H a C fs) :
    ∃ (oe od : Obj) (d : Addr) (mA : Str → Option Value), PySem.W.InstAt s.heap a oe C (some od) ∧ s.heap.get? d = some od ∧ s.heap.Ns1 d mA ∧ ∀ f, RelO (fs.lookup f) (mA f) := by
  obtain ⟨d, ⟨h1, h2⟩ | ⟨h1, h2⟩⟩ := k
  · obtain ⟨oe, vs, e, z, f⟩ := xo_at I.hok h1
    have hx : ObjOk X.prog X.w H s.heap d (.xd fs) := I.hok d _ h2
    obtain ⟨mA, hns, hr⟩ := hx
    obtain ⟨od, ho, _⟩ := lookIn_ns hns
    exact ⟨oe, od, d, mA, ⟨e, z.1, by unfold PySem.W.notCls; rw [f] <;> rfl, by rw [z.2]; exact ho⟩, ho, hns, hr⟩
  · obtain ⟨t1, e⟩ := exo_at I.hok h1
    obtain ⟨mA, hns, hr⟩ := exd_at I.hok h2
    obtain ⟨od, ho, _⟩ := lookIn_ns hns
    exact ⟨_, od, d, mA, ⟨e, rfl, rfl, ho⟩, ho, hns, hr⟩
def rIsX (K : PySem.W.Frag) : List V → Hp → VK → Prop := fun xs H Q => ∃ (a C : Addr) (fs : List (Str × V)) (c : V) (cv : Value) (b : Bool), xs = [.ref a, c] ∧ Kept H a C fs ∧ ExcC K C ∧ ClsV c cv ∧ PySem.W.kitOne K (.ref C) cv = some b ∧ Q (.bl b) H
theorem call_isX {X : Cx} {K : PySem.W.Frag} (h : X.K = K := by rfl) : CallR X (.builtin "isinstance") (rIsX K) := by
  subst h
  intro pins s σ H xs us Q I r h
  obtain ⟨a, C, fs, c, cv, b, rfl, k, EC, hc, e, q⟩ := h
  obtain ⟨oe, od, d, mA, J, _⟩ := kept_at I k
  cases r with
  | @cons _ u0 _ ur rx rr =>
    cases rr with
    | @cons _ u1 _ _ rt rr =>
      cases rr
      cases rx
      have ec : u1 = cv := by
        cases hc <;> exact rt
      subst ec
      obtain ⟨cd, hcd, _⟩ := PySem.W.any_some EC.hd
      exact PySem.W.kia_one (PySem.W.kitx_exc (by rw [hcd]; rfl) EC.hg EC.hk EC.hs EC.ha EC.hn EC.ht EC.hm) I.kIn J e (fun z => nomatch z) fun tk => ⟨.bl b, H, I.kept (t' := tk) fun _ _ z => z, rfl, q⟩
def tXv (K : PySem.W.Frag) (te : TE) (f : Str) : TE := fun σ H Q => te σ H fun x H1 => ∃ (a C : Addr) (fs : List (Str × V)) (v : V), x = .ref a ∧ Kept H1 a C fs ∧ XfC K C ∧ PySem.W.findIn K (.ref C) f = some none ∧ fs.lookup f = some v ∧ Q v H1
theorem pe_xv {X : Cx} {K : PySem.W.Frag} {e : Expr} {te : TE} {f : Str} {pos : Pos} (he : PE X e te) (hb : attributeBase e f X.env (eval e X.env) = eval e X.env := by rfl) (h : X.K = K := by rfl) : PE X (.Attribute e f pos) (tXv K te f) := by
  subst h
  refine ⟨fun pins s σ H Q I h => attr_of hb (thn (he.run pins s σ H _ I h) fun u s1 hh => ?_)⟩
  obtain ⟨x, H1, I1, rx, a, C, fs, v, rfl, k, T, hno, l, q⟩ := hh
  obtain rfl : u = Value.ref a := rx
  obtain ⟨oe, od, d, mA, J, ho, hns, hr⟩ := kept_at I1 k
  obtain ⟨od2, ho2, hl⟩ := lookIn_ns hns
  rw [ho] at ho2
  cases ho2
  obtain ⟨u, hu, ru⟩ := RelO.some_of (v := v) (o := mA f) (by rw [← l]; exact hr f)
  exact HandSPX.exc_get I1.kIn J T.ga T.gg T.exC (PySem.W.findObj_own T.hdC hno rfl (by rw [hl, hu])) (handed_of ru) ⟨v, H1, I1.tok _, ru, q⟩
end Sq


set_option Elab.async false
set_option maxRecDepth 100000
set_option maxHeartbeats 4000000
namespace Sq
open PySem PySem.Spec PyProof.Rows L2
/-! ## raise C(e), C an own class with the __init__ of MExc -/
structure Rai (P : Program) (w : World) (K : PySem.W.Frag) (mg : Str → Option Value) (base : Heap) (k : Nat) (x : Str) (C : Addr) : Prop where
  ex : ∃ (f : Addr) (fd : FuncData), OexC K C ∧ PySem.W.findIn K (.ref C) "__init__" = some (some (.ref f)) ∧ PySem.W.typeIn K (.ref f) = some (.type "function") ∧ FnOk P w K mg base CX0 k f fd ["self", "value"] (spXI C) ∧ mg x = some (.ref C) ∧ L2.Binds K fd ["self", "value"] []
def tRx (W : WX) (C : Addr) (te : TE) : TS := fun _ σ H => te σ H fun v H1 => ∀ d, H1 d = none → W (.ref C) (some d) σ (upd H1 d (.xd [("value", v)]))
theorem heap_rx {H : Hp} {a d : Addr} {u z o : HO} (na : H a = none) (n : d ≠ a) : upd (del (upd (upd (upd H a u) d z) a o) a) d (.xd [("value", v)]) = upd H d (.xd [("value", v)]) := by
  funext b
  by_cases h1 : b = d
  · rw [h1, upd_same, upd_same]
  · rw [upd_ne h1, upd_ne h1]
    by_cases h2 : b = a
    · rw [h2, del_same, na]
    · rw [del_ne h2, upd_ne h2, upd_ne h1, upd_ne h2]
/-- a reading that may be weakened -/
def tWk (te : TE) : TE := fun σ H Q => ∃ R : VK, te σ H R ∧ ∀ v G, R v G → Q v G
theorem pe_wk {X : Cx} {e : Expr} {te : TE} (h : PE X e te) : PE X e (tWk te) := ⟨fun pins s σ H Q I ⟨R, q, k⟩ => wpAny_mono (h.run pins s σ H R I q) (fun u s1 ⟨x, G, J, r, z⟩ => ⟨x, G, J, r, k _ _ z⟩) fun _ _ z => z⟩
section
variable {X : Cx} {W : WX} {k j : Nat} {C : Addr} {x : Str} {p pos pos2 : Pos} {e : Expr} {te : TE}
theorem ps_rx (c : Rai X.prog X.w X.K X.mg X.base k x C) (hr : Room j X.A) (hk : k + 1 ≤ j) (hg : Gl X x) (tk : Takes X W) (ha : PE X e te) (hc : X.calm = true := by rfl)
    (hdb : (x == ("__debug__" : Str)) = false := by decide) (he : starEach [e] X.env = (false, eval e X.env) :: starEach [] X.env := by rfl) (hpl : (backTo pos (starEach [] X.env)).any (·.1) = false := by rfl) : PS X (.Raise (some (.Call (.Name x p) [e] [] pos)) none pos2) (tRx W C te) := by
  obtain ⟨f, fd, T, iC, tI, F, hm, b⟩ := c.ex
  have mk := pmk_oex (pos := pos) (p := p) T iC tI F (hr.mono hk) b .nil pass0 hg hm (pa_cons (pe_wk ha) pa_nil he) hdb he hpl
  have r := ps_raise (pos := pos2) hc tk mk
  refine ⟨fun pins s σ H D I h => r.run pins s σ H D I ⟨_, h, fun v G q => ⟨Nat.le_of_ble_eq_true rfl, fun a na => ⟨a, v, rfl, upd_same, fun dx nd ne => ?_⟩⟩⟩⟩
  have nd' : G dx = none := by
    rw [upd_ne ne] at nd
    exact nd
  refine ⟨rfl, dx, _, upd_same, by rw [upd_ne ne, upd_same], nd', ?_⟩
  rw [heap_rx na ne]
  exact q dx nd'
end

/-! ## defs that may raise -/
structure CalX (P : Program) (w : World) (K : PySem.W.Frag) (mg : Str → Option Value) (base : Heap) (k : Nat) (x : Str) (sp : Sp) : Prop where
  ex : ∃ (f : Addr) (fd : FuncData) (ps : List Str), FnOk P w K mg base (L2.CX P w) k f fd ps sp ∧ mg x = some (.ref f) ∧ PySem.W.keepIn K (.ref f) = true ∧ L2.Binds K fd ps []
section
variable {P : Program} {w : World} {K : PySem.W.Frag} {mg : Str → Option Value} {base : Heap}
theorem DefAt.calX {x : Str} {st : Stmt} {ps N : List Str} {k : Nat} {sp : Sp} (D : DefAt K mg x st ps) (S : FnScope N ps (defScope st)) (len : ∀ vs H Q E, sp vs H Q E → vs.length = ps.length)
    (hb : ∀ (f : Addr) (cdv : Value) (A : Around) (outer : List Env) (s : Shared) (H : Hp) (vs : List V) (Q : VK) (E : XK), Room k (A.deeper (envOfC x (defScope st) s.heap.objs.size f cdv)) → sp vs H Q E →
      (Takes (cxOf (L2.CX P w) P w K mg base N x (defScope st) f cdv A outer s H E) fun cls d _ G => E cls d G) →
      ∃ t, PSs (cxOf (L2.CX P w) P w K mg base N x (defScope st) f cdv A outer s H E) (defBody st) t ∧ t { nx := fun _ H' => Q .non H', rt := Q } (start N vs) H) : CalX P w K mg base (k + 1) x sp := by
  obtain ⟨f, fd, F, hm, b⟩ := D.ex
  exact ⟨f, fd, ps, F.okX S len fun cdv A outer s H vs Q E hr hsp => hb f cdv A outer s H vs Q E hr hsp (takes_of rfl rfl rfl rfl), hm, F.kp, b⟩
/-- where it raises nothing it is a plain def -/
theorem fn_calm {k : Nat} {f : Addr} {fd : FuncData} {ps : List Str} {sp sp' : Sp} (F : FnOk P w K mg base (L2.CX P w) k f fd ps sp) (h : ∀ vs H Q E, sp' vs H Q E → sp vs H Q E0) : FnOk P w K mg base CX0 k f fd ps sp' := by
  refine ⟨fun vs H Q E q => F.len _ _ _ _ (h _ _ _ _ q), fun A outer s H args us vs Q E hr e0 b r q => codeAny_mono (F.run A outer s H args us vs Q E0 hr e0 b r (h _ _ _ _ q)) fun res s' z => ?_⟩
  cases res with
  | ok fl => cases fl <;> exact z
  | error e =>
    obtain ⟨_, _, _, _, _, _, _, _, _, _, _, _, no⟩ := z
    exact no.elim
theorem CalX.calm {x : Str} {k : Nat} {sp sp' : Sp} (c : CalX P w K mg base k x sp) (h : ∀ vs H Q E, sp' vs H Q E → sp vs H Q E0) : Cal P w K mg base k x sp' [] := by
  obtain ⟨f, fd, ps, F, hm, kp, b⟩ := c.ex
  exact ⟨f, fd, ps, [], fn_calm F h, hm, kp, b, .nil⟩
theorem CalX.imp {x : Str} {k j : Nat} {sp sp' : Sp} (c : CalX P w K mg base k x sp) (hk : k ≤ j) (h : ∀ vs H Q E, sp' vs H Q E → sp vs H Q E) : CalX P w K mg base j x sp' := by
  obtain ⟨f, fd, ps, F, hm, kp, b⟩ := c.ex
  exact ⟨f, fd, ps, (F.mono hk).imp h, hm, kp, b⟩
end
section
variable {X : Cx} {W : WX} {k j : Nat} {x : Str} {sp : Sp} {p pos : Pos} {e : Expr} {es : List Expr} {t : TA}
/-- a call that may raise, where W is wished of what is raised -/
theorem pe_cx (c : CalX X.prog X.w X.K X.mg X.base k x sp) (hr : Room j X.A) (hk : k ≤ j) (tk : Takes X W) (hg : Gl X x) (ha : PA X (e :: es) t)
    (hdb : (x == ("__debug__" : Str)) = false := by decide) (he : starEach (e :: es) X.env = (false, eval e X.env) :: starEach es X.env := by rfl) (hpl : (backTo pos (starEach es X.env)).any (·.1) = false := by rfl) :
    PE X (.Call (.Name x p) (e :: es) [] pos) (tCallS sp (WE W) t) := by
  obtain ⟨f, fd, ps, F, hm, kp, b⟩ := c.ex
  exact pe_callS F (hr.mono hk) hg hm kp b (passAt tk) ha hdb he hpl
/-- a call of such a def that raises nothing -/
theorem pe_cx0 (c : CalX X.prog X.w X.K X.mg X.base k x sp) (hr : Room j X.A) (hk : k ≤ j) (hg : Gl X x) (ha : PA X (e :: es) t)
    (hdb : (x == ("__debug__" : Str)) = false := by decide) (he : starEach (e :: es) X.env = (false, eval e X.env) :: starEach es X.env := by rfl) (hpl : (backTo pos (starEach es X.env)).any (·.1) = false := by rfl) :
    PE X (.Call (.Name x p) (e :: es) [] pos) (tCall sp [] E0 t) := by
  obtain ⟨f, fd, ps, F, hm, kp, b⟩ := c.ex
  exact L2.pe_call F (hr.mono hk) hg hm kp b .nil passL ha hdb he hpl
end

/-! ## methods and new objects that may raise -/
structure MetX (P : Program) (w : World) (K : PySem.W.Frag) (mg : Str → Option Value) (base : Heap) (k : Nat) (C : Addr) (m : Str) (sp : Sp) : Prop where
  ex : ∃ (f : Addr) (fd : FuncData) (ps : List Str), Cls K C ∧ Meth K C m f ∧ FnOk P w K mg base (L2.CX P w) k f fd ps sp ∧ L2.Binds K fd ps []
structure MakX (P : Program) (w : World) (K : PySem.W.Frag) (mg : Str → Option Value) (base : Heap) (k : Nat) (x : Str) (C : Addr) (sp : Sp) : Prop where
  ex : ∃ (f : Addr) (fd : FuncData) (ps : List Str), Mk K C f ∧ FnOk P w K mg base (L2.CX P w) k f fd ps sp ∧ mg x = some (.ref C) ∧ L2.Binds K fd ps []
section
variable {P : Program} {w : World} {K : PySem.W.Frag} {mg : Str → Option Value} {base : Heap} {C : Addr} {m x qual : Str} {st : Stmt} {ps N : List Str} {k : Nat} {sp : Sp}
theorem MetAt.metX (D : MetAt K C m qual st ps) (cl : Cls K C) (S : FnScope N ps (defScope st)) (len : ∀ vs H Q E, sp vs H Q E → vs.length = ps.length)
    (hb : ∀ (f : Addr) (cdv : Value) (A : Around) (outer : List Env) (s : Shared) (H : Hp) (vs : List V) (Q : VK) (E : XK), Room k (A.deeper (envOfC qual (defScope st) s.heap.objs.size f cdv)) → sp vs H Q E →
      (Takes (cxOf (L2.CX P w) P w K mg base N qual (defScope st) f cdv A outer s H E) fun cls d _ G => E cls d G) →
      ∃ t, PSs (cxOf (L2.CX P w) P w K mg base N qual (defScope st) f cdv A outer s H E) (defBody st) t ∧ t { nx := fun _ H' => Q .non H', rt := Q } (start N vs) H) : MetX P w K mg base (k + 1) C m sp := by
  obtain ⟨f, fd, F, hm, b⟩ := D.ex
  exact ⟨f, fd, ps, cl, hm, F.okX S len fun cdv A outer s H vs Q E hr hsp => hb f cdv A outer s H vs Q E hr hsp (takes_of rfl rfl rfl rfl), b⟩
theorem IniAt.makX (D : IniAt K mg C x qual st ps) (S : FnScope N ps (defScope st)) (len : ∀ vs H Q E, sp vs H Q E → vs.length = ps.length)
    (hb : ∀ (f : Addr) (cdv : Value) (A : Around) (outer : List Env) (s : Shared) (H : Hp) (vs : List V) (Q : VK) (E : XK), Room k (A.deeper (envOfC qual (defScope st) s.heap.objs.size f cdv)) → sp vs H Q E →
      (Takes (cxOf (L2.CX P w) P w K mg base N qual (defScope st) f cdv A outer s H E) fun cls d _ G => E cls d G) →
      ∃ t, PSs (cxOf (L2.CX P w) P w K mg base N qual (defScope st) f cdv A outer s H E) (defBody st) t ∧ t { nx := fun _ H' => Q .non H', rt := Q } (start N vs) H) : MakX P w K mg base (k + 1) x C sp := by
  obtain ⟨f, fd, F, hm, hg, b⟩ := D.ex
  exact ⟨f, fd, ps, hm, F.okX S len fun cdv A outer s H vs Q E hr hsp => hb f cdv A outer s H vs Q E hr hsp (takes_of rfl rfl rfl rfl), hg, b⟩
end
theorem MetX.calm {P : Program} {w : World} {K : PySem.W.Frag} {mg : Str → Option Value} {base : Heap} {C : Addr} {m : Str} {k : Nat} {sp sp' : Sp} (c : MetX P w K mg base k C m sp) (h : ∀ vs H Q E, sp' vs H Q E → sp vs H Q E0) : Met P w K mg base k C m sp' := by
  obtain ⟨f, fd, ps, c1, c2, F, b⟩ := c.ex
  exact ⟨f, fd, ps, c1, c2, fn_calm F h, b⟩
theorem MakX.calm {P : Program} {w : World} {K : PySem.W.Frag} {mg : Str → Option Value} {base : Heap} {C : Addr} {x : Str} {k : Nat} {sp sp' : Sp} (c : MakX P w K mg base k x C sp) (h : ∀ vs H Q E, sp' vs H Q E → sp vs H Q E0) : Mak P w K mg base k x C sp' := by
  obtain ⟨f, fd, ps, M, F, hm, b⟩ := c.ex
  exact ⟨f, fd, ps, M, fn_calm F h, hm, b⟩
def tMethS (C : Addr) (m : Str) (sp : Sp) (E : L2.St → XK) (ta : TE) (t : TA) : TE := fun σ H Q => ta σ H fun x H1 => ∃ a dx fs, x = .ref a ∧ H1 a = some (.ins C dx fs) ∧ fs.lookup m = none ∧ t σ H1 fun vs H2 => sp (x :: vs) H2 Q (E σ)
def tMakeS (C : Addr) (sp : Sp) (E : L2.St → XK) (t : TA) : TE := fun σ H Q => t σ H fun vs H1 => ∀ x dx, H1 x = none → H1 dx = none → dx ≠ x →
  sp (.ref x :: vs) (upd (upd H1 dx (.own x)) x (.ins C dx [])) (fun v H2 => v = .non ∧ Q (.ref x) H2) (E σ)
section
variable {X : Cx} {W : WX} {k j : Nat} {C : Addr} {x m : Str} {sp : Sp} {p pos apos : Pos} {e o : Expr} {es : List Expr} {ta : TE} {t : TA}
theorem pe_mx {pl : Sem Bool} (c : MetX X.prog X.w X.K X.mg X.base k C m sp) (hr : Room j X.A) (hk : k ≤ j) (tk : Takes X W) (he : PE X o ta) (ha : PA X (e :: es) t)
    (ht : eval (.Call (.Attribute o m apos) (e :: es) [] pos) X.env = (do
      let ov ← eval o X.env
      standAt apos.atName
      let (f, first) ← holding [ov] (getMethod ov m pl)
      callWith pos f first (backTo pos (starEach (e :: es) X.env)) (backToKw pos (keywordEach [] X.env))) := by rfl)
    (hst : starEach (e :: es) X.env = (false, eval e X.env) :: starEach es X.env := by rfl) (hpl : (backTo pos (starEach es X.env)).any (·.1) = false := by rfl) : PE X (.Call (.Attribute o m apos) (e :: es) [] pos) (tMethS C m sp (WE W) ta t) := by
  obtain ⟨f, fd, ps, cl, hm, F, b⟩ := c.ex
  refine ⟨fun pins s σ H Q I h => PySem.W.methodCall_KW (pl := pl) (thn (he.run pins s σ H _ I h) fun u s1 hh => ?_) ht⟩
  obtain ⟨x, H1, I1, rx, a, dx, fs, rfl, ea, l, q⟩ := hh
  obtain rfl : u = Value.ref a := rx
  refine getmeth_ok I1 ea cl hm l (PySem.W.callWith_K (first := [.ref a]) (h₀ := X.base) I.ok.mod.kin hm.kp (thn (ha.run pos pins s1 σ H1 _ I1 q) fun us s2 hh => ?_) hst hpl)
  obtain ⟨vs, H2, I2, r, q2⟩ := hh
  exact ⟨I2.kIn, run_fnS (us := .ref a :: us) (vs := .ref a :: vs) F (hr.mono hk) b (passAt tk σ) I2 (.cons rfl r) q2⟩
theorem pe_mkx (c : MakX X.prog X.w X.K X.mg X.base k x C sp) (hr : Room j X.A) (hk : k + 1 ≤ j) (tk : Takes X W) (hg : Gl X x) (ha : PA X (e :: es) t)
    (hdb : (x == ("__debug__" : Str)) = false := by decide) (he : starEach (e :: es) X.env = (false, eval e X.env) :: starEach es X.env := by rfl) (hpl : (backTo pos (starEach es X.env)).any (·.1) = false := by rfl) :
    PE X (.Call (.Name x p) (e :: es) [] pos) (tMakeS C sp (WE W) t) := by
  obtain ⟨f, fd, ps, M, F, hm, b⟩ := c.ex
  refine ⟨fun pins s σ H Q I h => wpAny_Call_Name_kw (ld_glob I hg hm ?_ hdb)⟩
  refine PySem.W.callWith_K (h₀ := X.base) I.ok.mod.kin M.kp (thn (ha.run pos pins s σ H _ I h) fun us s1 hh => ?_) he hpl
  obtain ⟨vs, H1, I1, r, q⟩ := hh
  refine ⟨I1.kIn, ?_⟩
  have hq := q (s1.heap.objs.size + 1) s1.heap.objs.size (I1.hok.fresh (Nat.le_succ _)) (I1.hok.fresh (Nat.le_refl _)) (Nat.ne_of_lt (Nat.lt_succ_self _))
  have I2 := Inv.made (C := C) I1
  have r2 : Vals (V.ref (s1.heap.objs.size + 1) :: vs) (Value.ref (s1.heap.objs.size + 1) :: us) := .cons rfl r
  have ln : (Value.ref (s1.heap.objs.size + 1) :: us).length = ps.length := by
    rw [← r2.length]
    exact F.len _ _ _ _ hq
  have bb := b _ (Value.ref (s1.heap.objs.size + 1) :: us) I2.kIn (by rw [List.append_nil]; exact ln)
  rw [List.append_nil] at bb
  show wpAny _ _ (call (.ref C) us) _ _ _
  refine wpAny_call (make_map (f := f) I1.kIn M.makes M.init (beq_iff_eq.mp M.fn) (codeAny_mono (F.run _ X.stack _ _ ⟨Value.ref (s1.heap.objs.size + 1) :: us, []⟩ _ _ _ (WE W σ) ((hr.mono hk).make C us []) (I2.env0.make C us []) bb r2 hq) fun r s' hq2 => ?_))
  cases r with
  | error er => exact passAt tk σ pins _ _ er s' I2 hq2
  | ok fl =>
    cases fl with
    | ret u =>
      obtain ⟨v, H', I3, rv, ev, q3⟩ := I2.after hq2
      subst ev
      exact ⟨rv, ⟨V.ref (s1.heap.objs.size + 1), H', I3, rfl, q3⟩⟩
    | next => exact False.elim hq2
    | brk => exact False.elim hq2
    | cont => exact False.elim hq2
theorem pe_mx0 {pl : Sem Bool} (c : MetX X.prog X.w X.K X.mg X.base k C m sp) (hr : Room j X.A) (hk : k ≤ j) (he : PE X o ta) (ha : PA X (e :: es) t)
    (ht : eval (.Call (.Attribute o m apos) (e :: es) [] pos) X.env = (do
      let ov ← eval o X.env
      standAt apos.atName
      let (f, first) ← holding [ov] (getMethod ov m pl)
      callWith pos f first (backTo pos (starEach (e :: es) X.env)) (backToKw pos (keywordEach [] X.env))) := by rfl)
    (hst : starEach (e :: es) X.env = (false, eval e X.env) :: starEach es X.env := by rfl) (hpl : (backTo pos (starEach es X.env)).any (·.1) = false := by rfl) : PE X (.Call (.Attribute o m apos) (e :: es) [] pos) (tMeth C m sp [] E0 ta t) := by
  obtain ⟨f, fd, ps, c1, c2, F, b⟩ := c.ex
  exact L2.pe_meth (pl := pl) he c1 c2 F (hr.mono hk) b .nil passL ha hst hpl ht
theorem pe_mkx0 (c : MakX X.prog X.w X.K X.mg X.base k x C sp) (hr : Room j X.A) (hk : k + 1 ≤ j) (hg : Gl X x) (ha : PA X (e :: es) t)
    (hdb : (x == ("__debug__" : Str)) = false := by decide) (he : starEach (e :: es) X.env = (false, eval e X.env) :: starEach es X.env := by rfl) (hpl : (backTo pos (starEach es X.env)).any (·.1) = false := by rfl) :
    PE X (.Call (.Name x p) (e :: es) [] pos) (tMake C sp [] E0 t) := by
  obtain ⟨f, fd, ps, M, F, hm, b⟩ := c.ex
  exact L2.pe_make M F (hr.mono hk) hg hm b .nil passL ha hdb he hpl
end

/-! ## an exception class of the text, out of what the top has written -/
theorem rai_mk {P : Program} {w : World} {K : PySem.W.Frag} {h base : Heap} {mg : Str → Option Value} {x : Str} {C f cc cda N : Addr} {nm q qual m file : Str} {bs bm sub : List Value} {sn : List Str} {ab : Bool} {col : Option Bool} {dd cld cdd od an : Option Addr} {k0 k1 k2 k3 k5 : Option Value}
    {cl ccl oc kV doc pm ct : Value} {csl ccs osl : Array (Option Value)} {cvs : Array Value} {tf : Tok} {p0 p1 p2 p3 p4 p5 p6 p7 p8 p9 q0 q1 : Pos} (X : K.In h) (G : h.Ns mainGlobals mg) (hm : mg x = some (.ref C))
    (lC : K.lookup C = some (excClassObj nm q C N bs bm true sn sub ab col dd k0 k1 k2 k3 k5 "ValueError.__new__")) (rC : PySem.HandSPX.refsVE bm = true) (sa : PySem.W.findIn K (.ref C) "__setattr__" = some (some (.builtin "object.__setattr__")))
    (ex : PySem.W.subIn K (.ref C) (.type "BaseException") = some true) (ty : PySem.W.typeIn K (.ref C) = some (.type "type")) (kc : PySem.W.keepIn K (.ref C) = true)
    (ini : PySem.W.findIn K (.ref C) "__init__" = some (some (.ref f))) (tyf : PySem.W.typeIn K (.ref f) = some (.type "function"))
    (l : K.lookup f = some ⟨oc, od, .func (PySem.W.ksFn "__init__" qual (xiArgs q0 q1) (xiBody m p0 p1 p2 p3 p4 p5 p6 p7 p8 p9) xiScope .none kV doc pm an (.ref cda) ct cc), osl⟩)
    (co : PySem.W.codeIn K (.ref cda) qual = true) (cell : K.lookup cc = some ⟨cl, cld, .cell (some (.ref C)), csl⟩) (rec_ : K.lookup cda = some ⟨ccl, cdd, .fields cvs, ccs⟩) (v2 : cvs[2]? = some (.str file tf)) (fl : ((P.main.file : Str) == file) = true)
    (top : (P.main.scope.names.lookup ("super" : Str)).isSome = false) (opq : PySem.W.nsIn K PySem.cStatics "thirdparty.any" = some none) (sup : PySem.W.ks_superIn K C C "__init__" = some (some (.builtin "ValueError.__init__"))) (veb : PySem.W.subIn K (.ref C) (.type "ValueError") = some true)
    (slf : PySem.W.mroIn K C (.ref C) = some true) (val : PySem.W.findIn K (.ref C) "value" = some none) (ms : PySem.W.nsIn K mainGlobals "super" = some none) (he : XiCall qual f cc cda m p0 p1 p2 p3 p4)
    (hb : ∀ us : List Value, us.length = 2 → bindArgs (PySem.W.ksFn "__init__" qual (xiArgs q0 q1) (xiBody m p0 p1 p2 p3 p4 p5 p6 p7 p8 p9) xiScope .none kV doc pm an (.ref cda) ct cc) ⟨us, []⟩ = pure ((["self", "value"] : List Str).zip us)) : Rai P w K mg base 1 x C :=
  ⟨f, _, ⟨⟨nm, q, N, bs, bm, sn, sub, ab, col, dd, k0, k1, k2, k3, k5, lC, rC⟩, sa, ex, ty, kc⟩, ini, tyf,
    ok_xi ⟨⟨nm, q, N, bs, bm, sn, sub, ab, col, dd, k0, k1, k2, k3, k5, lC, rC⟩, sa, ex, ty, kc⟩ ⟨co, ⟨cl, cld, csl, cell⟩, ⟨ccl, cdd, cvs, ccs, tf, rec_, v2⟩, fl, top, opq, sup, veb, slf, val⟩ l (PySem.W.mg_none_of X G ms) he, hm, L2.Binds.all hb⟩
end Sq


set_option Elab.async false
set_option maxRecDepth 100000
set_option maxHeartbeats 4000000
namespace Sq
open PySem PySem.Spec PyProof.Rows L2
/-! ## methods called by keywords alone -/
structure MetKX (P : Program) (w : World) (K : PySem.W.Frag) (mg : Str → Option Value) (base : Heap) (k : Nat) (C : Addr) (m : Str) (ks : List Str) (sp : Sp) : Prop where
  ex : ∃ (f : Addr) (fd : FuncData) (ps : List Str) (spf : Sp) (g : List Value → List Value → List Value) (gV : List V → List V → List V),
    Cls K C ∧ Meth K C m f ∧ FnOk P w K mg base (L2.CX P w) k f fd ps spf ∧ KBn K fd ps 1 ks g gV ∧ ∀ x zs H Q E, sp (x :: zs) H Q E → zs.length = ks.length ∧ spf (gV [x] zs) H Q E
def tMetK (C : Addr) (m : Str) (sp : Sp) (E : L2.St → XK) (ta : TE) (tk : TA) : TE := fun σ H Q => ta σ H fun x H1 => ∃ a dx fs, x = .ref a ∧ H1 a = some (.ins C dx fs) ∧ fs.lookup m = none ∧ tk σ H1 fun zs H2 => sp (x :: zs) H2 Q (E σ)
section
variable {X : Cx} {W : WX} {k j : Nat} {C : Addr} {m : Str} {ks : List Str} {sp : Sp} {pos apos : Pos} {o : Expr} {kws : List Keyword} {ta : TE} {t : TA}
theorem pe_mkwx {pl : Sem Bool} (c : MetKX X.prog X.w X.K X.mg X.base k C m ks sp) (hr : Room j X.A) (hk : k ≤ j) (tk : Takes X W) (he : PE X o ta) (ha : PK X kws t)
    (ht : eval (.Call (.Attribute o m apos) [] kws pos) X.env = (do
      let ov ← eval o X.env
      standAt apos.atName
      let (f, first) ← holding [ov] (getMethod ov m pl)
      callWith pos f first (backTo pos (starEach [] X.env)) (backToKw pos (keywordEach kws X.env))) := by rfl)
    (hall : (backToKw pos (keywordEach kws X.env)).all (·.1.isSome) = true := by rfl) (hks : (backToKw pos (keywordEach kws X.env)).filterMap (·.1) = ks := by rfl)
    (hpl : ((backTo pos (starEach [] X.env)).any (·.1) || (backToKw pos (keywordEach kws X.env)).any (·.1.isNone)) = false := by rfl) : PE X (.Call (.Attribute o m apos) [] kws pos) (tMetK C m sp (WE W) ta t) := by
  obtain ⟨f, fd, ps, spf, g, gV, cl, hm, F, hb, hs⟩ := c.ex
  refine ⟨fun pins s σ H Q I h => PySem.W.methodCall_KW (pl := pl) (thn (he.run pins s σ H _ I h) fun u s1 hh => ?_) ht⟩
  obtain ⟨x, H1, I1, rx, a, dx, fs, rfl, ea, l, q⟩ := hh
  obtain rfl : u = Value.ref a := rx
  refine getmeth_ok I1 ea cl hm l (PySem.W.callWith_KW0 (first := [.ref a]) (h₀ := X.base) I.ok.mod.kin hm.kp hall (thn (ha.run pos pins s1 σ H1 _ I1 q) fun ws s2 hh => ?_) hpl)
  obtain ⟨zs, H2, I2, rz, q2⟩ := hh
  obtain ⟨lz, q3⟩ := hs _ _ _ _ _ q2
  refine ⟨I2.kIn, ?_⟩
  rw [hks]
  have r1 : Vals [V.ref a] [Value.ref a] := .cons rfl .nil
  refine wpAny_call (codeAny_mono (F.run X.A X.stack s2 H2 ⟨[.ref a], ks.zip ws⟩ (g [.ref a] ws) (gV [.ref a] zs) Q (WE W σ) (hr.mono hk) I2.env0 (hb.to s2 [.ref a] ws I2.kIn rfl (rz.length.symm.trans lz)) (hb.rel r1 rz) q3) fun r s3 hq => ?_)
  cases r with
  | error er => exact passAt tk σ pins H2 s2 er s3 I2 hq
  | ok fl =>
    cases fl with
    | ret u => exact I2.after hq
    | next => exact False.elim hq
    | brk => exact False.elim hq
    | cont => exact False.elim hq
end
/-! ## new objects made by keywords alone -/
structure MakK (P : Program) (w : World) (K : PySem.W.Frag) (mg : Str → Option Value) (base : Heap) (k : Nat) (x : Str) (C : Addr) (ks : List Str) (sp : Sp) : Prop where
  ex : ∃ (f : Addr) (fd : FuncData) (ps : List Str) (spf : Sp) (g : List Value → List Value → List Value) (gV : List V → List V → List V),
    Mk K C f ∧ FnOk P w K mg base CX0 k f fd ps spf ∧ mg x = some (.ref C) ∧ KBn K fd ps 1 ks g gV ∧ ∀ x zs H Q E, sp (x :: zs) H Q E → zs.length = ks.length ∧ spf (gV [x] zs) H Q E
def tMakK (C : Addr) (sp : Sp) (tk : TA) : TE := fun σ H Q => tk σ H fun zs H1 => ∀ x dx, H1 x = none → H1 dx = none → dx ≠ x → sp (.ref x :: zs) (upd (upd H1 dx (.own x)) x (.ins C dx [])) (fun v H3 => v = .non ∧ Q (.ref x) H3) E0
section
variable {X : Cx} {k j : Nat} {C : Addr} {x : Str} {ks : List Str} {sp : Sp} {p pos : Pos} {kws : List Keyword} {t : TA}
theorem pe_mkk (c : MakK X.prog X.w X.K X.mg X.base k x C ks sp) (hr : Room j X.A) (hk : k + 1 ≤ j) (hg : Gl X x) (ha : PK X kws t)
    (hall : (backToKw pos (keywordEach kws X.env)).all (·.1.isSome) = true := by rfl) (hks : (backToKw pos (keywordEach kws X.env)).filterMap (·.1) = ks := by rfl) (hdb : (x == ("__debug__" : Str)) = false := by decide)
    (hpl : ((backTo pos (starEach [] X.env)).any (·.1) || (backToKw pos (keywordEach kws X.env)).any (·.1.isNone)) = false := by rfl) : PE X (.Call (.Name x p) [] kws pos) (tMakK C sp t) := by
  obtain ⟨f, fd, ps, spf, g, gV, M, F, hm, hb, hs⟩ := c.ex
  refine ⟨fun pins s σ H Q I h => wpAny_Call_Name_kw (ld_glob I hg hm (PySem.W.callWith_KW0 (h₀ := X.base) I.ok.mod.kin M.kp hall (thn (ha.run pos pins s σ H _ I h) fun ws s2 hh => ?_) hpl) hdb)⟩
  obtain ⟨zs, H2, I2, rz, q2⟩ := hh
  refine ⟨I2.kIn, ?_⟩
  rw [hks]
  have lz : zs.length = ks.length := (hs _ _ _ _ _ (q2 (s2.heap.objs.size + 1) s2.heap.objs.size (I2.hok.fresh (Nat.le_succ _)) (I2.hok.fresh (Nat.le_refl _)) (Nat.ne_of_lt (Nat.lt_succ_self _)))).1
  exact run_makeK (us := []) (vs := []) M F (hr.mono hk) hb pass0 I2 .nil rz rfl lz fun x dx n1 n2 n3 => (hs _ _ _ _ _ (q2 x dx n1 n2 n3)).2
end
/-! ## list.count of plain values -/
def rCntF (K : PySem.W.Frag) : V → List V → Hp → VK → Prop := fun x xs H Q => ∃ (a : Addr) (ys : List V) (y : V), x = .ref a ∧ xs = [y] ∧ SqL K H a ys ∧ flatV y = true ∧ ys.all flatV = true ∧ Q (.int ((ys.countP fun z => eqV z y : Nat) : Int)) H
theorem count_flat {y : V} : ∀ {ys : List V} {us : List Value}, Vals ys us → ys.all flatV = true → us.countP (eqU y) = ys.countP fun z => eqV z y
  | _, _, .nil, _ => rfl
  | _, _, .cons (a := z) (b := u) r t, f => by
    rw [List.all_cons, Bool.and_eq_true] at f
    rw [List.countP_cons, List.countP_cons, count_flat t f.2, eqU_of r f.1]
theorem mt_countF {X : Cx} : MtR X "list.count" (rCntF X.K) := by
  intro pins s σ H x xs v us Q I rx rxs h
  obtain ⟨a, ys, y, rfl, rfl, hs, fy, fys, q⟩ := h
  cases rx
  obtain ⟨uy, rfl, ry⟩ := rxs.one
  obtain ⟨its, rv, ⟨⟨cls, dd, data, sl⟩, n, ho, hc, hdn, hd⟩, hlen⟩ := I.list hs
  simp only at hc hd
  subst hc hd
  refine call_meets PySem.F.slot_list_count ⟨_, ho, rfl⟩ PySem.F.entry_list_count (PySem.F.args_list_count_2 _ _) (SeqAt.list_countAt a its.toArray n dd sl uy (eqU y)) ⟨ho, fun u2 hu2 => mem_eqAt ry fy rv fys u2 (by simpa using hu2), ?_⟩
  refine ⟨.int ((ys.countP fun z => eqV z y : Nat) : Int), H, I.tok _, ⟨s.toks, ?_⟩, q⟩
  show Value.int ((its.toArray.toList.countP (eqU y) : Nat) : Int) s.toks = _
  rw [List.toList_toArray, count_flat rv fys]
/-! ## a method, an __init__ called by place and by keywords -/
theorem kbn_self {K : PySem.W.Frag} {x qual : Str} {st : Stmt} {f : Addr} {fd : FuncData} {ps ks : List Str} (F : Fun K x qual st f fd) (g : {α : Type} → α → List α → List α) (hg : ∀ {v : V} {u : Value} {vs : List V} {us : List Value}, RelV v u → Vals vs us → Vals (g v vs) (g u us))
    (h : ∀ (kV doc pm : Value) (an : Option Addr) (cdv ct u : Value) (ws : List Value), ws.length = ks.length →
      bindArgs (PySem.W.fnOf x qual (defArgs st) (defBody st) (defScope st) .none kV doc pm an cdv ct) ⟨[u], ks.zip ws⟩ = pure (ps.zip (g u ws))) : KBn K fd ps 1 ks (fun us ws => match us with | [u] => g u ws | _ => ws) (fun us ws => match us with | [u] => g u ws | _ => ws) := by
  obtain ⟨oc, od, kV, doc, pm, an, cdv, ct, osl, rfl, lk, hcd⟩ := F.ex
  refine ⟨fun s us ws X l1 l2 => ?_, fun r1 r2 => ?_⟩
  · match us, l1 with
    | [u], _ => exact .of_eq (h kV doc pm an cdv ct u ws l2)
  · cases r1 with
    | nil => exact r2
    | cons a r => cases r with
      | nil => exact hg a r2
      | cons b r => exact r2
section
variable {P : Program} {w : World} {K : PySem.W.Frag} {mg : Str → Option Value} {base : Heap} {C : Addr} {m x qual : Str} {st : Stmt} {ps ks N : List Str} {k : Nat} {sp spk : Sp}
theorem MetAt.metKX (D : MetAt K C m qual st ps) (cl : Cls K C) (S : FnScope N ps (defScope st)) (len : ∀ vs H Q E, sp vs H Q E → vs.length = ps.length)
    (hb : ∀ (f : Addr) (cdv : Value) (A : Around) (outer : List Env) (s : Shared) (H : Hp) (vs : List V) (Q : VK) (E : XK), Room k (A.deeper (envOfC qual (defScope st) s.heap.objs.size f cdv)) → sp vs H Q E →
      (Takes (cxOf (L2.CX P w) P w K mg base N qual (defScope st) f cdv A outer s H E) fun cls d _ G => E cls d G) →
      ∃ t, PSs (cxOf (L2.CX P w) P w K mg base N qual (defScope st) f cdv A outer s H E) (defBody st) t ∧ t { nx := fun _ H' => Q .non H', rt := Q } (start N vs) H)
    (g : {α : Type} → α → List α → List α) (hg : ∀ {v : V} {u : Value} {vs : List V} {us : List Value}, RelV v u → Vals vs us → Vals (g v vs) (g u us))
    (h : ∀ (kV doc pm : Value) (an : Option Addr) (cdv ct u : Value) (ws : List Value), ws.length = ks.length →
      bindArgs (PySem.W.fnOf m qual (defArgs st) (defBody st) (defScope st) .none kV doc pm an cdv ct) ⟨[u], ks.zip ws⟩ = pure (ps.zip (g u ws)))
    (hs : ∀ x zs H Q E, spk (x :: zs) H Q E → zs.length = ks.length ∧ sp (g x zs) H Q E) : MetX P w K mg base (k + 1) C m sp ∧ MetKX P w K mg base (k + 1) C m ks spk := by
  obtain ⟨f, fd, F, hm, b⟩ := D.ex
  have ok := F.okX S len fun cdv A outer s H vs Q E hr hsp => hb f cdv A outer s H vs Q E hr hsp (takes_of rfl rfl rfl rfl)
  exact ⟨⟨f, fd, ps, cl, hm, ok, b⟩, ⟨f, fd, ps, sp, _, _, cl, hm, ok, kbn_self F g hg h, hs⟩⟩
theorem IniAt.makK (D : IniAt K mg C x qual st ps) (S : FnScope N ps (defScope st)) (len : ∀ vs H Q E, sp vs H Q E → vs.length = ps.length)
    (hb : ∀ (f : Addr) (cdv : Value) (A : Around) (outer : List Env) (s : Shared) (H : Hp) (vs : List V) (Q : VK) (E : XK), Room k (A.deeper (envOfC qual (defScope st) s.heap.objs.size f cdv)) → sp vs H Q E →
      (Takes (cxOf (L2.CX P w) P w K mg base N qual (defScope st) f cdv A outer s H E) fun cls d _ G => E cls d G) →
      ∃ t, PSs (cxOf (L2.CX P w) P w K mg base N qual (defScope st) f cdv A outer s H E) (defBody st) t ∧ t { nx := fun _ H' => Q .non H', rt := Q } (start N vs) H)
    (g : {α : Type} → α → List α → List α) (hg : ∀ {v : V} {u : Value} {vs : List V} {us : List Value}, RelV v u → Vals vs us → Vals (g v vs) (g u us))
    (h : ∀ (kV doc pm : Value) (an : Option Addr) (cdv ct u : Value) (ws : List Value), ws.length = ks.length →
      bindArgs (PySem.W.fnOf "__init__" qual (defArgs st) (defBody st) (defScope st) .none kV doc pm an cdv ct) ⟨[u], ks.zip ws⟩ = pure (ps.zip (g u ws)))
    (hs : ∀ x zs H Q E, spk (x :: zs) H Q E → zs.length = ks.length ∧ sp (g x zs) H Q E0) : MakX P w K mg base (k + 1) x C sp ∧ MakK P w K mg base (k + 1) x C ks spk := by
  obtain ⟨f, fd, F, hm, hg2, b⟩ := D.ex
  have ok := F.okX S len fun cdv A outer s H vs Q E hr hsp => hb f cdv A outer s H vs Q E hr hsp (takes_of rfl rfl rfl rfl)
  have ok0 : FnOk P w K mg base CX0 (k + 1) f fd ps (fun vs H Q _ => sp vs H Q E0) := fn_calm ok fun vs H Q E z => z
  exact ⟨⟨f, fd, ps, hm, ok, hg2, b⟩, ⟨f, fd, ps, _, _, _, hm, ok0, hg2, kbn_self F g hg h, hs⟩⟩
end
/-! ## [.. for i, x in enumerate(xs) ..] -/
theorem lc_enum {K : PySem.W.Frag} {a : Addr} {xs : List V} {g : TG} {tt : TT} {te : TE} {vs : List Nat} {σ : L2.St} {H1 : Hp} {D : Addr} {Qd : Hp → Prop} (Pv : Nat → Hp → Prop) (h0 : Pv 0 (upd H1 D (.lst []))) (hq : ∀ i H, Pv i H → SqL K H a xs)
    (hs : ∀ (i : Nat) (x : V) (T : Addr) (H : Hp), xs[i]? = some x → Pv i H → H T = none → g (.ref T) (wipe σ vs) (upd H T (.tup [.int (i : Nat), x])) fun σ2 H2 => wipe σ2 vs = wipe σ vs ∧ tt σ2 H2 fun b H3 =>
      if b = true then te σ2 H3 fun y H4 => ∃ acc, H4 D = some (.lst acc) ∧ acc.length < sizeLine ∧ Pv (i + 1) (upd H4 D (.lst (acc ++ [y]))) else Pv (i + 1) H3) (hd : ∀ H, Pv xs.length H → Qd H) :
    ∃ W : Nat → Nat → Hp → Prop, (∃ m, W 0 m (upd H1 D (.lst []))) ∧ ∀ i m H, W i m H →
      ((Ite K a).stop i H ∧ Qd H) ∨ ((Ite K a).go i H ∧ ∃ Nx : Hp → Prop, (∀ H', Nx H' → ∃ m', m' < m ∧ W (i + 1) m' H') ∧ ∀ x H', (Ite K a).yld i H x H' → g x (wipe σ vs) H' fun σ2 H2 => wipe σ2 vs = wipe σ vs ∧ tt σ2 H2 fun b H3 =>
        if b = true then te σ2 H3 fun y H4 => ∃ acc, H4 D = some (.lst acc) ∧ acc.length < sizeLine ∧ Nx (upd H4 D (.lst (acc ++ [y]))) else Nx H3) := by
  refine ⟨fun i m H => m + i = xs.length ∧ Pv i H, ⟨xs.length, rfl, h0⟩, fun i m H hW => ?_⟩
  obtain ⟨em, p⟩ := hW
  have q := hq i H p
  by_cases lt : i < xs.length
  · have ex : xs[i]? = some xs[i] := List.getElem?_eq_getElem lt
    refine .inr ⟨⟨xs, _, q, ex⟩, Pv (i + 1), fun H' p' => ⟨m - 1, by omega, by omega, p'⟩, fun v H' hy => ?_⟩
    obtain ⟨T, x, rfl, nT, rfl, f⟩ := hy
    exact hs i x T H (f xs q) p nT
  · have ei : i = xs.length := by omega
    subst ei
    exact .inl ⟨⟨xs, q, Nat.le_refl _⟩, hd H p⟩
/-! ## a kept exception stays -/
theorem Kept.same {H H' : Hp} {a C : Addr} {fs : List (Str × V)} (k : Kept H a C fs) (s : Same H H') : Kept H' a C fs := by
  obtain ⟨d, ⟨h1, h2⟩ | ⟨h1, h2⟩⟩ := k
  · exact ⟨d, .inl ⟨s _ _ h1, s _ _ h2⟩⟩
  · exact ⟨d, .inr ⟨s _ _ h1, s _ _ h2⟩⟩
theorem kept_new {H : Hp} {a C d : Addr} {fs : List (Str × V)} (na : H a = none) (hd : H d = some (.xd fs)) : Kept (upd H a (Xo a (.ref C) (some d))) a C fs := ⟨d, .inl ⟨upd_same, upd_keep na hd⟩⟩
theorem But.same {o : Addr} {H H1 H' : Hp} (b : But o H1 H') (s : Same H H1) (n : H o = none) : Same H H' := fun c u e => b c u (fun z => by
  rw [z, n] at e
  cases e) (s c u e)
theorem exm_mk {K : PySem.W.Frag} {C S : Addr} {b : Bool} (h1 : PySem.W.subIn K (.ref S) (.type "BaseException") = some true) (h2 : PySem.W.isClsIn K S = true) (h3 : PySem.W.typeIn K (.ref S) = some (.type "type")) (h4 : PySem.W.subIn K (.ref C) (.ref S) = some b) : PySem.W.exmOne K (.ref C) (.ref S) = some b := by
  have e1 : (PySem.W.subIn K (.ref S) (.type "BaseException") == some true) = true := by rw [h1] <;> rfl
  have e2 : ((PySem.W.clsIn K S).isSome && PySem.W.typeIn K (.ref S) == some (.type "type")) = true := by
    have h2' : (PySem.W.clsIn K S).isSome = true := h2
    rw [h2', h3] <;> rfl
  show (if (PySem.W.subIn K (.ref S) (.type "BaseException") == some true) = true then (if ((PySem.W.clsIn K S).isSome && PySem.W.typeIn K (.ref S) == some (.type "type")) = true then PySem.W.subIn K (.ref C) (.ref S) else none) else none) = some b
  rw [if_pos e1, if_pos e2]
  exact h4
end Sq


set_option Elab.async false
set_option maxRecDepth 100000
set_option maxHeartbeats 4000000
namespace Sq
open PySem PySem.Spec PyProof.Rows L2
/-! ## a, *b = a list -/
theorem star_list {prog : Program} {w : World} {A : Around} {E : Value → Shared → Prop} {s : Shared} {l : Addr} {items : Array Value} {n i : Nat} {Q : List Value → Shared → Prop} (hl : s.heap.IsList l items) (hh : A.handled = none) (hi : i < n) (hn : n ≤ items.size + 1) (hz : items.size ≤ 16384)
    (h : ∀ (h₂ : Heap) (tk : Nat), (∀ b o, s.heap.get? b = some o → h₂.get? b = some o) → Q (items.toList.take i ++ [.ref h₂.objs.size] ++ (items.toList.drop i).drop (items.size + 1 - n)) { s with heap := h₂.push { cls := .type "list", data := .seq ((items.toList.drop i).take (items.size + 1 - n)).toArray }, toks := tk }) :
    wpAny (model prog w) A (unpackItems (.ref l) n (some i)) Q E s := by
  have hlt : l ≠ s.heap.objs.size := by obtain ⟨o, ho, _⟩ := hl; exact Nat.ne_of_lt (Heap.lt_size ho)
  have hll : l < s.heap.objs.size := by obtain ⟨o, ho, _⟩ := hl; exact Heap.lt_size ho
  unfold unpackItems
  refine wpAny_bind ?_
  unfold notIterableAtAll
  refine wpAny_bind (wpAny_specialOf hl.typeIs PySem.F.slot_list_iter.lookup ?_)
  refine wpAny_pure ?_
  simp only [Bool.false_eq_true, if_false]
  refine wpAny_bind (wpAny_holding (wpAny_pyIter_list hl ?_))
  refine wpAny_bind (wpAny_holding (PySem.W.kun_draw hlt i 0 _ _ ⟨_, Heap.get?_push_size _ rfl, rfl, rfl⟩ (hl.push _) (by omega) fun h₁ hit₁ hs₁ => ?_))
  have hl₁ : h₁.IsList l items := (hl.push _).extBut hs₁.extBut hlt
  rw [Nat.zero_add] at hit₁
  have hit₁' := hit₁
  obtain ⟨oi, hoi, _⟩ := hit₁'
  have hl₁' := hl₁
  obtain ⟨ol, hol, _⟩ := hl₁'
  rw [List.drop_zero]
  have hfl : (items.toList.take i).length = i := by rw [List.length_take, Array.length_toList]; omega
  rw [if_neg (show ¬ ((items.toList.take i).length < i) by rw [hfl]; omega)]
  refine wpAny_bind (wpAny_holding (PySem.W.kun_collect (s := { s with heap := h₁ }) (T := "list_iterator") (.inr (.inr (.inl rfl))) (Walks.list (A := A.in1) hh s.heap.objs.size l hlt items) (fun j u st => st.1.typeIs) (k := i) (by omega) ⟨hit₁, hl₁⟩ (Heap.lt_size hoi) (Heap.lt_size hol) (fun h₂ tk hk => ?_) (by rw [sizeLine_eq]; omega)))
  have hrl : (items.toList.drop i).length = items.size - i := by rw [List.length_drop, Array.length_toList]
  have hmid : (items.toList.drop i).length - (n - 1 - i) = items.size + 1 - n := by rw [hrl]; omega
  show wpAny _ _ (if (items.toList.drop i).length < n - 1 - i then _ else _) _ _ _
  rw [if_neg (by rw [hrl]; omega)]
  show wpAny _ _ (newList ((items.toList.drop i).take ((items.toList.drop i).length - (n - 1 - i))) >>= fun d => pure (items.toList.take i ++ [d] ++ (items.toList.drop i).drop ((items.toList.drop i).length - (n - 1 - i)))) _ _ _
  rw [hmid]
  have he : ∀ b o, s.heap.get? b = some o → h₂.get? b = some o := fun b o e => hk b o (Nat.ne_of_lt (Heap.lt_size e)) (hs₁.extBut b o (Nat.ne_of_lt (Heap.lt_size e)) (Heap.get?_push_of_some _ e))
  exact wpAny_bind (wpAny_newList (wpAny_pure (h h₂ tk he)) (by rw [List.length_take, hrl, sizeLine_eq]; omega))
def gStar (K : PySem.W.Frag) (t : TGs) : TG := fun v σ H Q => ∃ a x xs, v = .ref a ∧ SqL K H a (x :: xs) ∧ xs.length ≤ 16000 ∧ ∀ D, H D = none → t [x, .ref D] σ (upd H D (.lst xs)) Q
section
variable {X : Cx} {K : PySem.W.Frag} {e : Expr} {es : List Expr} {t : TG} {u ts : TGs} {p pos : Pos} {k : Nat}
theorem pgs_star (h1 : PG X e t) (h2 : PGs X es u) (hs : (assignEach (.Starred e p :: es) X.env).map (·.2) = assign e X.env :: (assignEach es X.env).map (·.2) := by rfl) : PGs X (.Starred e p :: es) (gCons t u) := by
  refine ⟨fun pins s σ H vs us Q I r h => ?_⟩
  obtain ⟨v, vr, e1, h⟩ := h
  subst e1
  cases r with
  | cons r rr =>
    rw [hs]
    refine assignInOrder_cons (thn (h1.run pins s σ H _ _ _ I r h) fun _ s1 ⟨σ1, H1, I1, q1⟩ => ?_)
    exact h2.run pins s1 σ1 H1 _ _ Q I1 rr q1
/-- a, *b = a list -/
theorem pg_star (hc : X.calm = true) (h : PGs X es ts) (hn : (assignEach es X.env).length = 2 := by rfl) (hst : (assignEach es X.env).findIdx? (·.1) = some 1 := by rfl) (hK : X.K = K := by rfl) : PG X (.Tuple es k pos) (gStar K ts) := by
  subst hK
  refine ⟨fun pins s σ H v u Q I r hw => ?_⟩
  obtain ⟨a, x, xs, e1, hq, hl, hw⟩ := hw
  subst e1
  cases r
  obtain ⟨its, rv, pl, hz⟩ := I.list hq
  have hl' : s.heap.IsList a its.toArray := by
    obtain ⟨o, m, e, c, d, q⟩ := pl
    exact ⟨o, e, c, m, q⟩
  rw [PyProof.Rows.assign_Tuple]
  refine wpAny_bind (wpAny_standAt ?_)
  unfold unpack
  rw [hn, hst]
  cases rv with
  | @cons _ v0 _ vs0 r0 rr =>
    have hlen : vs0.length = xs.length := rr.length.symm
    refine wpAny_bind (wpAny_holding (star_list hl' (I.ok.hd hc) (by decide) (by rw [List.size_toArray, List.length_cons]; omega) (by rw [List.size_toArray, List.length_cons]; omega) fun h₂ tk kp => ?_))
    have I1 : Inv X pins σ H { s with heap := h₂, toks := tk } := I.kept kp
    have em : (((v0 :: vs0).toArray.toList.drop 1).take ((v0 :: vs0).toArray.size + 1 - 2)) = vs0 := by
      rw [List.toList_toArray, List.size_toArray, List.length_cons, List.drop_one, List.tail_cons]
      exact List.take_of_length_le (by omega)
    have el : (((v0 :: vs0).toArray.toList.drop 1).drop ((v0 :: vs0).toArray.size + 1 - 2)) = [] := by
      rw [List.toList_toArray, List.size_toArray, List.length_cons, List.drop_one, List.tail_cons]
      exact List.drop_eq_nil_of_le (by omega)
    have hf := I1.hok.fresh (Nat.le_refl _)
    have I2 : Inv X pins σ (upd H h₂.objs.size (.lst xs)) { s with heap := h₂.push { cls := .type "list", data := .seq vs0.toArray }, toks := tk } :=
      I1.laid (t' := tk) (fun b u q => Heap.get?_push_of_some _ q) (Nat.le_refl _) ⟨by rw [sizeLine_eq]; omega, vs0, _, rr, Heap.get?_push_size _ rfl⟩
    rw [em, el]
    exact h.run pins _ σ _ [x, .ref h₂.objs.size] [v0, .ref h₂.objs.size] Q I2 (.cons r0 (.cons rfl .nil)) (hw _ hf)
end
def tStarL (K : PySem.W.Frag) (te : TE) (t : TA) : TA := fun σ H Q => te σ H fun x H1 => ∃ (p : Addr) (xs : List V), x = V.ref p ∧ SqL K H1 p xs ∧ t σ H1 fun ys H2 => Q (xs ++ ys) H2
/-- *e in a display, e a list -/
theorem pa_starK {X : Cx} {K : PySem.W.Frag} {e : Expr} {es : List Expr} {te : TE} {t : TA} {p : Pos} (he : PE X e te) (hr : PA X es t) (hs : starEach (.Starred e p :: es) X.env = (true, eval e X.env) :: starEach es X.env := by rfl) (hK : X.K = K := by rfl) : PA X (.Starred e p :: es) (tStarL K te t) := by
  subst hK
  have z := StX.pa_star (pe_wk he) hr hs
  refine ⟨fun pos pins s σ H Q I h => z.run pos pins s σ H Q I ⟨_, h, fun v G q => ?_⟩⟩
  obtain ⟨a, xs, e, hq, q⟩ := q
  exact ⟨a, xs, e, .inr hq, q⟩
theorem pe_gc {X : Cx} {x : Str} {v : V} {pos : Pos} (hg : Gl X x) (h : ∃ u, X.mg x = some u ∧ RelV v u) (hdb : (x == ("__debug__" : Str)) = false := by decide) : PE X (.Name x pos) (tC v) := by
  obtain ⟨u, a, b⟩ := h
  exact pe_glob hg a b hdb
/-! ## texts of lists, sign by sign -/
def dig (c : Nat) : Bool := decide (48 ≤ c) && decide (c ≤ 57)
def wrd (n t : Nat) : List Nat := if 1 < t then TL.numL n ++ 94 :: TL.numL t else TL.numL n
/-- equal neighbours, and how often -/
def grpS (acc : List (Int × Nat)) (k : Int) : List (Int × Nat) := match acc.getLast? with
  | some (a, c) => if a = k then acc.dropLast ++ [(a, c + 1)] else acc ++ [(k, 1)]
  | none => [(k, 1)]
def grp (ns : List Int) : List (Int × Nat) := ns.foldl grpS []
def ungrp (ps : List (Int × Nat)) : List Int := ps.flatMap fun p => List.replicate p.2 p.1
theorem ungrp_app (a b : List (Int × Nat)) : ungrp (a ++ b) = ungrp a ++ ungrp b := List.flatMap_append
theorem last_split {α : Type} {l : List α} {x : α} (h : l.getLast? = some x) : l = l.dropLast ++ [x] := by
  have ne : l ≠ [] := fun e => by
    rw [e] at h
    cases h
  rw [List.getLast?_eq_some_getLast ne] at h
  have e := List.dropLast_concat_getLast ne
  rw [Option.some.inj h] at e
  exact e.symm
theorem ungrp_step (acc : List (Int × Nat)) (k : Int) : ungrp (grpS acc k) = ungrp acc ++ [k] := by
  unfold grpS
  cases h : acc.getLast? with
  | none =>
    have e : acc = [] := by
      cases acc with
      | nil => rfl
      | cons a t => simp at h
    subst e
    simp [ungrp]
  | some p =>
    obtain ⟨a, c⟩ := p
    have e := last_split h
    simp only
    split
    · rename_i z
      subst z
      rw [ungrp_app]
      conv => rhs; rw [e, ungrp_app]
      simp [ungrp, List.replicate_succ']
    · rw [ungrp_app]
      simp [ungrp]
theorem ungrp_fold : ∀ (ns : List Int) (acc : List (Int × Nat)), ungrp (ns.foldl grpS acc) = ungrp acc ++ ns
  | [], acc => by simp
  | k :: r, acc => by
    rw [List.foldl_cons, ungrp_fold r, ungrp_step, List.append_assoc]
    rfl
theorem ungrp_grp (ns : List Int) : ungrp (grp ns) = ns := by
  unfold grp
  rw [ungrp_fold]
  simp [ungrp]
/-- the counts are at least 1; what stands there stands in the list -/
def GrpOk (b : Int → Prop) (N : Nat) (ps : List (Int × Nat)) : Prop := ∀ p ∈ ps, b p.1 ∧ 1 ≤ p.2 ∧ p.2 ≤ N
theorem grp_step {b : Int → Prop} {N : Nat} {acc : List (Int × Nat)} {k : Int} (h : GrpOk b N acc) (hk : b k) : GrpOk b (N + 1) (grpS acc k) := by
  have up : ∀ p ∈ acc, b p.1 ∧ 1 ≤ p.2 ∧ p.2 ≤ N + 1 := fun p hp => ⟨(h p hp).1, (h p hp).2.1, Nat.le_succ_of_le (h p hp).2.2⟩
  unfold grpS
  cases e : acc.getLast? with
  | none =>
    intro p hp
    rw [List.mem_singleton.mp hp]
    exact ⟨hk, Nat.le_refl _, by simp⟩
  | some q =>
    obtain ⟨a, c⟩ := q
    have es := last_split e
    have hq := h (a, c) (by rw [es]; simp)
    simp only
    split
    · intro p hp
      rcases List.mem_append.mp hp with z | z
      · exact up p (List.dropLast_subset _ z)
      · rw [List.mem_singleton.mp z]
        exact ⟨hq.1, by simp, by have := hq.2.2; simp only at this ⊢; omega⟩
    · intro p hp
      rcases List.mem_append.mp hp with z | z
      · exact up p z
      · rw [List.mem_singleton.mp z]
        exact ⟨hk, Nat.le_refl _, by simp⟩
theorem grp_fold {b : Int → Prop} : ∀ (ns : List Int) (N : Nat) (acc : List (Int × Nat)), GrpOk b N acc → (∀ k ∈ ns, b k) → GrpOk b (N + ns.length) (ns.foldl grpS acc)
  | [], N, acc, h, _ => h
  | k :: r, N, acc, h, hk => by
    have := grp_fold r (N + 1) (grpS acc k) (grp_step h (hk k (List.mem_cons_self ..))) fun j hj => hk j (List.mem_cons_of_mem _ hj)
    rw [List.foldl_cons, List.length_cons, show N + (r.length + 1) = N + 1 + r.length by omega]
    exact this
theorem grp_ok {b : Int → Prop} {ns : List Int} (h : ∀ k ∈ ns, b k) : GrpOk b ns.length (grp ns) := by
  have := grp_fold ns 0 [] (fun p z => nomatch z) h
  rw [Nat.zero_add] at this
  exact this
theorem grp_snoc (ns : List Int) (k : Int) : grp (ns ++ [k]) = grpS (grp ns) k := by
  unfold grp
  rw [List.foldl_append]
  rfl
theorem grpS_len (acc : List (Int × Nat)) (k : Int) : (grpS acc k).length ≤ acc.length + 1 ∧ 0 < (grpS acc k).length := by
  unfold grpS
  cases e : acc.getLast? with
  | none => simp
  | some q =>
    obtain ⟨a, c⟩ := q
    have es := congrArg List.length (last_split e)
    simp only [List.length_append, List.length_singleton] at es
    simp only
    split <;> simp <;> omega
theorem grp_len (ns : List Int) : (grp ns).length ≤ ns.length := by
  have : ∀ (ns : List Int) (acc : List (Int × Nat)), (ns.foldl grpS acc).length ≤ acc.length + ns.length := by
    intro ns
    induction ns with
    | nil => intro acc; simp
    | cons k r ih =>
      intro acc
      have a := ih (grpS acc k)
      have b := (grpS_len acc k).1
      rw [List.foldl_cons, List.length_cons]
      omega
  have a := this ns []
  simpa [grp] using a
theorem grp_nil {ns : List Int} : grp ns = [] ↔ ns = [] := by
  constructor
  · intro h
    have e := ungrp_grp ns
    rw [h] at e
    exact e.symm
  · rintro rfl
    rfl
def noneL : List Nat := [110, 111, 110, 101]
def wrds (ns : List Int) : List (List Nat) := (grp ns).map fun p => wrd p.1.toNat p.2
def showL (ns : List Int) : List Nat := if ns = [] then noneL else TL.joinL [44, 32] (wrds ns)
/-! ## and read back -/
def numIn (w : List Nat) : Option Nat := if 1 ≤ w.length ∧ w.length ≤ 200 ∧ w.all dig = true then some (NumText.digitsVal w) else none
def numsIn (w : List Nat) : Option (List Int) := match TL.spl [94] 0 [] w with
  | [] => none
  | f :: o => match numIn f, (match o with | [] => some 1 | t :: _ => numIn t) with
    | some n, some t => if 1 < o.length ∨ n < 2 then none else some (List.replicate t (n : Int))
    | _, _ => none
theorem dig_num (n : Nat) : (TL.numL n).all dig = true := by
  rw [List.all_eq_true]
  intro c hc
  have := TL.numL_digits n c hc
  unfold dig
  rw [Bool.and_eq_true, decide_eq_true_eq, decide_eq_true_eq]
  exact this
theorem numIn_num {n : Nat} (h : (TL.numL n).length ≤ 200) : numIn (TL.numL n) = some n := by
  unfold numIn
  have l : 1 ≤ (TL.numL n).length := by
    cases e : TL.numL n with
    | nil => exact absurd e (TL.numL_ne n)
    | cons a t => simp
  rw [if_pos ⟨l, h, dig_num n⟩, TL.numL_val]
theorem free94 (n : Nat) : 94 ∉ TL.numL n := TL.numL_free (.inr (by decide))
theorem free44 (n t : Nat) : 44 ∉ wrd n t := by
  unfold wrd
  have a : ∀ m, 44 ∉ TL.numL m := fun m => TL.numL_free (.inl (by decide))
  split
  · simp only [List.mem_append, List.mem_cons, not_or]
    exact ⟨a n, by decide, a t⟩
  · exact a n
theorem spl_wrd (n t : Nat) : TL.spl [94] 0 [] (wrd n t) = if 1 < t then [TL.numL n, TL.numL t] else [TL.numL n] := by
  unfold wrd
  split
  · have e := TL.spl_part1 (s := 94) (S := []) (p := TL.numL n) (rest := TL.numL t) (acc := []) (free94 n)
    rw [show TL.numL n ++ 94 :: TL.numL t = TL.numL n ++ ([94] ++ TL.numL t) from rfl, e, TL.spl_last1 (free94 t)]
    rfl
  · rw [TL.spl_last1 (free94 n)]
    rfl
theorem nums_wrd {n t : Nat} (hn : (TL.numL n).length ≤ 200) (ht : (TL.numL t).length ≤ 200) (h2 : 2 ≤ n) (h1 : 1 ≤ t) : numsIn (wrd n t) = some (List.replicate t (n : Int)) := by
  unfold numsIn
  rw [spl_wrd]
  by_cases h : 1 < t
  · rw [if_pos h]
    simp only [numIn_num hn, numIn_num ht]
    rw [if_neg (by simp; omega)]
  · rw [if_neg h]
    simp only [numIn_num hn]
    rw [if_neg (by simp; omega), show t = 1 by omega]
theorem free110 (n t : Nat) : 110 ∉ wrd n t := by
  unfold wrd
  have a : ∀ m, 110 ∉ TL.numL m := fun m => TL.numL_free (.inr (by decide))
  split
  · simp only [List.mem_append, List.mem_cons, not_or]
    exact ⟨a n, by decide, a t⟩
  · exact a n
theorem wrds_ne {ns : List Int} (h : ns ≠ []) : wrds ns ≠ [] := fun e => h (grp_nil.mp (List.map_eq_nil_iff.mp e))
theorem spl_show {ns : List Int} (h : ns ≠ []) : TL.spl [44, 32] 0 [] (showL ns) = wrds ns := by
  unfold showL
  rw [if_neg h]
  refine TL.spl_join (wrds_ne h) fun p hp => ?_
  obtain ⟨q, _, rfl⟩ := List.mem_map.mp hp
  exact free44 _ _
theorem show_ne {ns : List Int} (h : ns ≠ []) : showL ns ≠ noneL := fun e => by
  have a := spl_show h
  rw [e, TL.spl_last1 (show 44 ∉ noneL by decide)] at a
  have m : noneL ∈ wrds ns := by
    rw [← a]
    simp
  obtain ⟨q, _, eq⟩ := List.mem_map.mp m
  have : 110 ∈ noneL := by decide
  rw [← eq] at this
  exact free110 _ _ this
theorem show_inj_nil {ns : List Int} : showL ns = noneL ↔ ns = [] := ⟨fun e => Classical.byContradiction fun h => show_ne h e, fun e => by
  subst e
  rfl⟩
/-- lists that are shown and read here -/
def Nice (ns : List Int) : Prop := (∀ k ∈ ns, 2 ≤ k ∧ k < 10 ^ 200) ∧ ns.length ≤ 5000
theorem num_len {k : Int} (h0 : 0 ≤ k) (h : k < 10 ^ 200) : (TL.numL k.toNat).length ≤ 200 := by
  have e : ((10 : Int) ^ 200) = ((10 ^ 200 : Nat) : Int) := by norm_cast
  refine TL.numL_len (by decide) ?_
  rw [e] at h
  omega
theorem lt5 {n : Nat} (h : n ≤ 5000) : n < sizeLine := by
  rw [sizeLine_eq]
  omega
theorem num_len3 {t : Nat} (h : t ≤ 5000) : (TL.numL t).length ≤ 4 := TL.numL_len (by decide) (by omega)
theorem Nice.grp {ns : List Int} (h : Nice ns) : GrpOk (fun k => 2 ≤ k ∧ k < 10 ^ 200) 5000 (grp ns) := fun p hp => by
  have := grp_ok h.1 p hp
  have l := h.2
  exact ⟨this.1, this.2.1, by omega⟩
theorem wrd_len {k : Int} {t : Nat} (h0 : 0 ≤ k) (h : k < 10 ^ 200) (ht : t ≤ 5000) : (wrd k.toNat t).length ≤ 205 := by
  have a := num_len h0 h
  have b := num_len3 ht
  unfold wrd
  split
  · rw [List.length_append, List.length_cons]
    omega
  · omega
theorem join_len (s : List Nat) : ∀ ws : List (List Nat), (TL.joinL s ws).length ≤ (ws.map (·.length)).sum + ws.length * s.length
  | [] => by simp [TL.joinL]
  | [p] => by simp [TL.joinL]
  | p :: q :: r => by
    have ih := join_len s (q :: r)
    simp only [TL.joinL, List.length_append, List.map_cons, List.sum_cons, List.length_cons] at ih ⊢
    have : (r.length + 1 + 1) * s.length = (r.length + 1) * s.length + s.length := by rw [Nat.add_mul (r.length + 1) 1]; omega
    omega
theorem sum_le {b : Nat} : ∀ {ws : List (List Nat)}, (∀ w ∈ ws, w.length ≤ b) → (ws.map (·.length)).sum ≤ ws.length * b
  | [], _ => by simp
  | w :: r, h => by
    have a := h w (List.mem_cons_self ..)
    have c := sum_le (ws := r) fun x hx => h x (List.mem_cons_of_mem _ hx)
    rw [List.map_cons, List.sum_cons, List.length_cons, Nat.add_mul]
    omega
theorem Nice.words {ns : List Int} (h : Nice ns) : (∀ w ∈ wrds ns, w.length ≤ 205) ∧ (wrds ns).length ≤ 5000 := by
  refine ⟨fun w hw => ?_, ?_⟩
  · obtain ⟨p, hp, rfl⟩ := List.mem_map.mp hw
    obtain ⟨a, b, c⟩ := h.grp p hp
    exact wrd_len (by omega) a.2 c
  · unfold wrds
    rw [List.length_map]
    exact Nat.le_trans (grp_len ns) h.2
theorem Nice.len {ns : List Int} (h : Nice ns) : (showL ns).length ≤ 1050000 := by
  obtain ⟨a, b⟩ := h.words
  unfold showL
  split
  · decide
  · have c := join_len [44, 32] (wrds ns)
    have d := sum_le a
    have e := Nat.mul_le_mul_right 205 b
    have f : (wrds ns).length * ([44, 32] : List Nat).length ≤ 5000 * 2 := Nat.mul_le_mul_right 2 b
    omega
theorem wrds_get {ns : List Int} {i : Nat} {w : List Nat} (h : (wrds ns)[i]? = some w) : ∃ p, (grp ns)[i]? = some p ∧ w = wrd p.1.toNat p.2 := by
  unfold wrds at h
  rw [List.getElem?_map] at h
  cases e : (grp ns)[i]? with
  | none =>
    rw [e] at h
    cases h
  | some p =>
    rw [e] at h
    exact ⟨p, rfl, (Option.some.inj h).symm⟩
theorem ungrp_take {ps : List (Int × Nat)} {i : Nat} {p : Int × Nat} (h : ps[i]? = some p) : ungrp (ps.take (i + 1)) = ungrp (ps.take i) ++ List.replicate p.2 p.1 := by
  rw [List.take_add_one, h, ungrp_app]
  simp [ungrp]
/-! ## the pairs in the heap -/
def Prs (H : Hp) (l : Addr) (ps : List (Int × Nat)) : Prop := ∃ ts : List Addr, H l = some (.lst (ts.map V.ref)) ∧ ts.length = ps.length ∧ ∀ (i : Nat) (t : Addr) (p : Int × Nat), ts[i]? = some t → ps[i]? = some p → H t = some (.tup [.int p.1, .int ((p.2 : Nat) : Int)])
theorem Prs.same {H H' : Hp} {l : Addr} {ps : List (Int × Nat)} (h : Prs H l ps) (s : Same H H') : Prs H' l ps := by
  obtain ⟨ts, a, b, c⟩ := h
  exact ⟨ts, s _ _ a, b, fun i t p h1 h2 => s _ _ (c i t p h1 h2)⟩
def dPs (ps : List (Int × Nat)) : PyData := .list (ps.map fun p => .tuple [.int p.1, .int ((p.2 : Nat) : Int)])
theorem dpall_prs {K : PySem.W.Frag} {H : Hp} : ∀ (ts : List Addr) (ps : List (Int × Nat)), ts.length = ps.length → (∀ (i : Nat) (t : Addr) (p : Int × Nat), ts[i]? = some t → ps[i]? = some p → H t = some (.tup [.int p.1, .int ((p.2 : Nat) : Int)])) →
    DpAll K H (ts.map V.ref) (ps.map fun p => .tuple [.int p.1, .int ((p.2 : Nat) : Int)])
  | [], [], _, _ => .nil
  | [], _ :: _, h, _ => by simp at h
  | _ :: _, [], h, _ => by simp at h
  | t :: ts, p :: ps, h, c => .cons (.tup (SqT.of (c 0 t p rfl rfl)) (.cons (.int _) (.cons (.int _) .nil))) (dpall_prs ts ps (by simpa using h) fun i t' p' h1 h2 => c (i + 1) t' p' (by simpa using h1) (by simpa using h2))
theorem dp_prs {K : PySem.W.Frag} {H : Hp} {l : Addr} {ps : List (Int × Nat)} (h : Prs H l ps) : Dp K H (.ref l) (dPs ps) := by
  obtain ⟨ts, a, b, c⟩ := h
  exact .lst (seqL_of a) (dpall_prs ts ps b c)
theorem can_prs : ∀ ps : List (Int × Nat), PyData.canLayAll0 (ps.map fun p => .tuple [.int p.1, .int ((p.2 : Nat) : Int)]) = true
  | [] => by simp [PyData.canLayAll0]
  | p :: r => by simp [PyData.canLayAll0, PyData.canLay0, can_prs r]
theorem dep_prs : ∀ ps : List (Int × Nat), PyData.depthAll (ps.map fun p => .tuple [.int p.1, .int ((p.2 : Nat) : Int)]) ≤ 1
  | [] => by simp [PyData.depthAll]
  | p :: r => by
    have := dep_prs r
    simp only [List.map_cons, PyData.depthAll, PyData.depth]
    omega
theorem shaped_prs (ps : List (Int × Nat)) : SeqAt.shaped (dPs ps) = true := by
  have := dep_prs ps
  unfold SeqAt.shaped dPs
  rw [Bool.and_eq_true, decide_eq_true_eq]
  refine ⟨by simp only [PyData.canLay0, can_prs], ?_⟩
  show PyData.depth _ ≤ 64
  rw [PyData.depth]
  omega
theorem eqv_prs0 (ps : List (Int × Nat)) : PyData.eqv (dPs ps) (dI []) = decide (ps = []) := by
  unfold dPs dI
  cases ps with
  | nil => simp [PyData.eqv, PyData.eqvAll]
  | cons a r => simp [PyData.eqv, PyData.eqvAll]
/-- found != [] -/
theorem r_nePs {K : PySem.W.Frag} {H : Hp} {l b : Addr} {ps : List (Int × Nat)} {Q : VK} (h1 : Prs H l ps) (h2 : SqL K H b (iv [])) (q : Q (.bl (!decide (ps = []))) H) : rNeQ K (.ref l) (.ref b) H Q :=
  rNeQ_of ⟨dPs ps, dI [], dp_prs h1, dp_iv h2, shaped_prs ps, shaped_dI [], by rw [eqv_prs0]; exact q⟩
theorem Prs.last {H : Hp} {l : Addr} {ps : List (Int × Nat)} {a : Int} {c : Nat} (h : Prs H l ps) (e : ps.getLast? = some (a, c)) :
    ∃ (ts : List Addr) (t : Addr) (j : Nat), H l = some (.lst (ts.map V.ref)) ∧ ixN (ts.map V.ref).length (-1) = some j ∧ atI (ts.map V.ref) (-1) = some (.ref t) ∧ H t = some (.tup [.int a, .int ((c : Nat) : Int)]) ∧
      ∀ (T : Addr) (k : Int) (H' : Hp), (∀ b o, b ≠ l → H b = some o → H' b = some o) → H' T = some (.tup [.int k, .int (((c + 1 : Nat) : Nat) : Int)]) → H' l = some (.lst ((ts.map V.ref).set j (.ref T))) → Prs H' l (ps.dropLast ++ [(k, c + 1)]) := by
  obtain ⟨ts, h1, h2, h3⟩ := h
  have ep := last_split e
  have lp := congrArg List.length ep
  simp only [List.length_append, List.length_singleton, List.length_dropLast] at lp
  have hpos : 0 < ts.length := by omega
  have lt : ts.length - 1 < ts.length := by omega
  have ix : ixN (ts.map V.ref).length (-1) = some (ts.length - 1) := by
    rw [List.length_map]
    unfold ixN
    rw [if_neg (by omega)]
    rw [if_pos (by omega)]
    congr 1
    omega
  have eg : ps[ts.length - 1]? = some (a, c) := by
    rw [h2, ep]
    simp
  refine ⟨ts, ts[ts.length - 1], ts.length - 1, h1, ix, ?_, h3 _ _ _ (List.getElem?_eq_getElem lt) eg, fun T k H' keep hT hl => ?_⟩
  · unfold atI
    rw [ix]
    show (ts.map V.ref)[ts.length - 1]? = _
    rw [List.getElem?_map, List.getElem?_eq_getElem lt]
    rfl
  · refine ⟨ts.set (ts.length - 1) T, by rw [hl, List.map_set], by rw [List.length_set, List.length_append, List.length_dropLast, List.length_singleton]; omega, fun i t p ht hp => ?_⟩
    have li : i < ts.length := by
      have := (List.getElem?_eq_some_iff.mp ht).1
      rw [List.length_set] at this
      exact this
    by_cases z : i = ts.length - 1
    · subst z
      rw [List.getElem?_set_self lt] at ht
      have et : T = t := Option.some.inj ht
      rw [List.getElem?_append_right (by rw [List.length_dropLast]; omega), List.length_dropLast, show ts.length - 1 - (ps.length - 1) = 0 by omega] at hp
      have epp : (k, c + 1) = p := by simpa using hp
      rw [← et, ← epp]
      exact hT
    · rw [List.getElem?_set_ne (by omega)] at ht
      rw [List.getElem?_append_left (by rw [List.length_dropLast]; omega), List.getElem?_dropLast, if_pos (by omega)] at hp
      have old := h3 i t p ht hp
      refine keep t _ (fun e => ?_) old
      rw [e, h1] at old
      cases old
theorem Prs.snoc {H H' : Hp} {l : Addr} {ps : List (Int × Nat)} {k : Int} (h : Prs H l ps) : ∃ ts : List Addr, H l = some (.lst (ts.map V.ref)) ∧ ts.length = ps.length ∧
    ∀ (T : Addr) (H' : Hp), (∀ b o, b ≠ l → H b = some o → H' b = some o) → H' T = some (.tup [.int k, .int ((1 : Nat) : Int)]) → H' l = some (.lst (ts.map V.ref ++ [.ref T])) → Prs H' l (ps ++ [(k, 1)]) := by
  obtain ⟨ts, h1, h2, h3⟩ := h
  refine ⟨ts, h1, h2, fun T H' keep hT hl => ⟨ts ++ [T], by rw [hl]; simp, by simp [h2], fun i t p ht hp => ?_⟩⟩
  by_cases z : i < ts.length
  · rw [List.getElem?_append_left z] at ht
    rw [List.getElem?_append_left (by omega)] at hp
    have old := h3 i t p ht hp
    refine keep t _ (fun e => ?_) old
    rw [e, h1] at old
    cases old
  · have li : i = ts.length := by
      have := (List.getElem?_eq_some_iff.mp ht).1
      simp at this
      omega
    subst li
    rw [List.getElem?_append_right (Nat.le_refl _), Nat.sub_self] at ht
    rw [h2, List.getElem?_append_right (Nat.le_refl _), Nat.sub_self] at hp
    have et : T = t := by simpa using ht
    have ep : (k, 1) = p := by simpa using hp
    rw [← et, ← ep]
    exact hT
theorem show_short {ns : List Int} (h : Nice ns) {n : Nat} (hn : ns.length ≤ n) : (showL ns).length ≤ n * 207 + 4 := by
  obtain ⟨a, b⟩ := h.words
  unfold showL
  split
  · show 4 ≤ _
    omega
  · have c := join_len [44, 32] (wrds ns)
    have d := sum_le a
    have l : (wrds ns).length ≤ n := by
      unfold wrds
      rw [List.length_map]
      exact Nat.le_trans (grp_len ns) hn
    have e := Nat.mul_le_mul_right 205 l
    have f : (wrds ns).length * ([44, 32] : List Nat).length ≤ n * 2 := Nat.mul_le_mul_right 2 l
    omega
theorem fold_rep (k : Int) : ∀ (c : Nat) (gs : List (Int × Nat)) (t : Nat), (List.replicate c k).foldl grpS (gs ++ [(k, t)]) = gs ++ [(k, t + c)]
  | 0, gs, t => by simp
  | c + 1, gs, t => by
    have e : grpS (gs ++ [(k, t)]) k = gs ++ [(k, t + 1)] := by
      unfold grpS
      simp
    rw [List.replicate_succ, List.foldl_cons, e, fold_rep k c gs (t + 1), show t + 1 + c = t + (c + 1) by omega]
theorem grp_add {ns : List Int} {gs : List (Int × Nat)} {k : Int} {c : Nat} (h : grp ns = gs) (hl : ∀ a t, gs.getLast? = some (a, t) → a ≠ k) (hc : 1 ≤ c) : grp (ns ++ List.replicate c k) = gs ++ [(k, c)] := by
  obtain ⟨c', rfl⟩ : ∃ c', c = c' + 1 := ⟨c - 1, by omega⟩
  unfold grp at h ⊢
  rw [List.foldl_append, h, List.replicate_succ, List.foldl_cons]
  have e : grpS gs k = gs ++ [(k, 1)] := by
    unfold grpS
    cases el : gs.getLast? with
    | none =>
      have : gs = [] := List.getLast?_eq_none_iff.mp el
      subst this
      rfl
    | some q =>
      obtain ⟨a, t⟩ := q
      simp only
      rw [if_neg (hl a t el)]
  rw [e, fold_rep k c' gs 1, show 1 + c' = c' + 1 by omega]
theorem grp_two {o : Int} {m : Nat} (h : 1 ≤ m) : grp ((o + 1) :: List.replicate m o) = [(o + 1, 1), (o, m)] :=
  grp_add (ns := [o + 1]) (gs := [(o + 1, 1)]) rfl (fun a t e => by
    have : a = o + 1 := by
      have := congrArg (Option.map Prod.fst) e
      simpa using this.symm
    omega) h
theorem show_two {o : Int} {m : Nat} (h : 2 ≤ m) : showL ((o + 1) :: List.replicate m o) = TL.numL (o + 1).toNat ++ ([44, 32] ++ (TL.numL o.toNat ++ 94 :: TL.numL m)) := by
  unfold showL wrds
  rw [if_neg (by simp), grp_two (by omega)]
  simp only [List.map_cons, List.map_nil, TL.joinL]
  unfold wrd
  rw [if_neg (by decide), if_pos (by omega)]
end Sq

/-! ## own tactic words (local) -/
local macro_rules | `(tactic| walk_at "sq hp") => `(tactic| first
  | assumption
  | exact L2.upd_same
  | (refine Sq.Sep.get (by assumption) ?_; walk_at "sq hp")
  | (refine Sq.upd_keep (by assumption) ?_; walk_at "sq hp")
  | (refine Sq.Same.get (by assumption) ?_; walk_at "sq hp")
  | (refine Sq.upd_off (by assumption) ?_; walk_at "sq hp")
  | (refine Sq.upd_off (Ne.symm (by assumption)) ?_; walk_at "sq hp"))
local macro_rules | `(tactic| walk_at "sq sql") => `(tactic| first
  | assumption
  | exact Sq.seqL_of (by walk_at "sq hp")
  | exact L2.Same.seq (by assumption) (by assumption)
  | exact L2.Same.seq (Sq.Sep.same (by assumption)) (by assumption))
local macro_rules | `(tactic| walk_at "sq len") => `(tactic| (
  (try simp only [List.length_map, List.length_append, List.length_cons, List.length_nil, List.length_take, List.length_drop, List.length_reverse]); (try rw [PySem.sizeLine_eq]); omega))
local macro_rules | `(tactic| walk_at "sq side") => `(tactic| first
  | exact rfl
  | exact Nat.zero_le _
  | exact Sq.lit_len (Nat.le_of_ble_eq_true rfl)
  | ((with_reducible show L2.SqL _ _ _ _); walk_at "sq sql")
  | ((with_reducible show L2.SqT _ _ _ _); exact L2.SqT.of (by walk_at "sq hp"))
  | (apply Exists.intro; walk_at "sq sql")
  | ((with_reducible show _ = some _); walk_at "sq hp")
  | ((with_reducible show Sq.Sep _ _ _); assumption)
  | ((with_reducible show L2.ClsV _ _); first | exact .ty _ | exact .own _)
  | ((with_reducible show L2.TyX _ _ _ _); first | exact .base .non | exact .base (.bl _) | exact .base (.int _) | exact .base (.str _) | exact Sq.tyx_lst (by walk_at "sq sql") | exact Sq.tyx_tup (by exact L2.SqT.of (by walk_at "sq hp")) | assumption)
  | ((with_reducible show Sq.CPowW _ _); first | assumption | exact ⟨by decide, by decide, by decide⟩)
  | ((with_reducible show L2.CMulW _ _); first | assumption | exact (by decide +kernel))
  | ((with_reducible show L2.CDivW _ _); first | assumption | exact ⟨by decide, by decide⟩)
  | ((with_reducible show L2.tyV _ "list" _ _); exact Or.inl ⟨rfl, _, by walk_at "sq sql"⟩)
  | ((with_reducible show _ < PySem.sizeLine); walk_at "sq len")
  | ((with_reducible show _ ≤ PySem.sizeLine); walk_at "sq len")
  | ((with_reducible show (0 : Int) < _); first | assumption | decide | omega)
  | decide
  | omega)
local macro_rules | `(tactic| walk_at "sq go") => `(tactic| repeat (first
  | exact rfl
  | (fail_if_success (show ∃ W : Nat → Nat → L2.St → L2.Hp → Prop, _)
     fail_if_success (show ∃ W : Nat → Nat → L2.Hp → Prop, _)
     fail_if_success (show ∃ W : Nat → L2.St → L2.Hp → Prop, _)
     fail_if_success (show ∃ W : Nat → Nat → List L2.V → L2.St → L2.Hp → Prop, _)
     apply Exists.intro)
  | (apply And.intro; focus walk_at "sq side")
  | refine L2.iteT ?_
  | refine L2.iteF ?_))
namespace Sq
open PySem PySem.Spec PyProof.Rows L2
def topS (i : Nat) : Stmt := PySem.Challenge.pw_squeezelists_k15_lists_read_back.main.body.getD i (.Pass ⟨0, 0, 0, 0⟩)
structure Bt (mg : Str → Option Value) : Prop where
  «bool» : mg "bool" = none
  «int» : mg "int" = none
  «isinstance» : mg "isinstance" = none
  «len» : mg "len" = none
  «list» : mg "list" = none
  «max» : mg "max" = none
  «min» : mg "min" = none
  «range» : mg "range" = none
  «repr» : mg "repr" = none
  «set» : mg "set" = none
  «sorted» : mg "sorted" = none
  «str» : mg "str" = none
  «sum» : mg "sum" = none
  «tuple» : mg "tuple" = none
section
variable {P : Program} {w : World} {K : PySem.W.Frag} {mg : Str → Option Value} {base : Heap}

/-! ### check_list, of valid lists -/

/-! ### lengths of runs, of valid arguments -/
abbrev s_squeezed_once : Stmt := topS 1
theorem sc_squeezed_once : FnScope ["length", "replacement"] ["length", "replacement"] (defScope s_squeezed_once) := ⟨rfl, rfl, rfl, by decide +kernel, rfl, by decide +kernel, by decide +kernel⟩

def spSqOnce : Sp := fun vs H Q _ => ∃ n k : Int, vs = [.int n, .int k] ∧ Keep (2 ≤ k ∧ k < 2 ^ 240) ∧ Q (.int (once n k)) H
theorem cal_squeezed_once (D : DefAt K mg "squeezed_once" s_squeezed_once ["length", "replacement"]) (B : Bt mg) : Cal P w K mg base 1 "squeezed_once" spSqOnce [] := by
  refine D.cal sc_squeezed_once (fun vs H Q E h => ?_) (fun f cdv A outer s H vs Q E hr h => ?_)
  · obtain ⟨n, k, rfl, _⟩ := h
    rfl
  · obtain ⟨n, k, rfl, ⟨h2, hb⟩, q⟩ := h
    refine ⟨_, (pss_one (ps_ret (pe_op op_add (pe_op op_fdivW (pv 0) (pv 1)) (pe_op op_mod (pv 0) (pv 1))))), ?_⟩
    have c : CDivW n k := div_ok (by omega) hb
    walk_at "sq go"
    exact q

/-! ### a list read back from its runs -/
theorem need_take {r l : Int} {ls : List Int} {i : Nat} (h : ls[i]? = some l) : need r (ls.take (i + 1)) = need r (ls.take i) + (if l + 1 < r then l + 1 else r) := by
  rw [List.take_add_one, h]
  exact need_snoc _ _ _
theorem need_le {r : Int} (h : 1 ≤ r) : ∀ {ls : List Int}, (∀ l ∈ ls, 1 ≤ l) → 0 ≤ need r ls ∧ need r ls ≤ ls.length * r
  | [], _ => by simp [need]
  | l :: t, hl => by
    have ih := need_le h (ls := t) fun j hj => hl j (List.mem_cons_of_mem _ hj)
    have l1 := hl l (List.mem_cons_self ..)
    rw [need_cons, List.length_cons, Int.natCast_add, Int.add_mul]
    split <;> omega
theorem at_neg {xs : List V} {x : V} {n : Int} {j : Nat} (h0 : n < 0) (hj : (xs.length : Int) + n = j) (e : xs[j]? = some x) : atI xs n = some x := by
  have e2 : ixN xs.length n = some j := by
    unfold ixN
    rw [if_neg (by omega), if_pos (by omega), show n + (xs.length : Int) = j by omega]
    rfl
  unfold atI
  rw [e2]
  exact e
abbrev s_is_complete : Stmt := topS 5
theorem sc_is_complete : FnScope ["present", "later", "replacement", "needed", "length"] ["present", "later", "replacement"] (defScope s_is_complete) := ⟨rfl, rfl, rfl, by decide +kernel, rfl, by decide +kernel, by decide +kernel⟩

def spWhole (K : PySem.W.Frag) : Sp := fun vs H Q _ => ∃ (a b : Addr) (r : Int) (u t : List Int) (x y : Int), vs = [.ref a, .ref b, .int r] ∧ SqL K H a (iv (u ++ [x])) ∧ SqL K H b (iv (t ++ [y])) ∧ Keep (1 ≤ r ∧ r < 2 ^ 100 ∧ t.length < 5000 ∧ u.length < 5000 ∧ (∀ l ∈ t ++ [y], 1 ≤ l ∧ l < 2 ^ 100)) ∧
  ∀ v, (v = true ↔ Whole (u ++ [x]) (t ++ [y]) x r) → Q (.bl v) H
theorem cal_whole (D : DefAt K mg "is_complete" s_is_complete ["present", "later", "replacement"]) (B : Bt mg) : Cal P w K mg base 1 "is_complete" (spWhole K) [] := by
  refine D.cal sc_is_complete (fun vs H Q E h => ?_) (fun f cdv A outer s H vs Q E hr h => ?_)
  · obtain ⟨a, b, r, u, t, x, y, rfl, _⟩ := h
    rfl
  · obtain ⟨a, b, r, u, t, x, y, rfl, hA, hB, ⟨r1, rb, lt, lu, hl⟩, q⟩ := h
    refine ⟨_, (pss_cons (ps_set (i := 3) sc_is_complete.nd rfl (Or.inl rfl) pe_int)
  (pss_cons (ps_for PassesOwn.never rfl (pi_listK (K := K) (pv 1)) (pg_name (i := 4) sc_is_complete.nd rfl (Or.inl rfl))
   (pss_one (ps_aug (i := 3) sc_is_complete.nd rfl (Or.inl rfl) (pe_callB (call_min2 rfl) (by rfl) B.min (by decide +kernel) (pa_cons (pv 2) (pa_cons (pe_op op_add (pv 4) pe_int) pa_nil))) ip_add)))
  (pss_one (ps_ret (pe_and (pe_cmpR op_gt (pv 2) pe_int (nomark _)) (pe_and (pe_cmpR op_eq (pv 3) (pe_callB (len_seqK (K := K)) (by rfl) B.len boot_len (pa_cons (pv 0) pa_nil)) (nomark _)) (pe_one (pe_cmpR op_eq (pe_ix (ix_listK (K := K)) (pv 0) (pe_un un_neg pe_int) (fun _ _ => rfl)) (pe_op op_mulW (pe_ix (ix_listK (K := K)) (pv 1) (pe_un un_neg pe_int) (fun _ _ => rfl)) (pv 2)) (nomark _))))))))), ?_⟩
    walk_at "sq go"
    refine for_list (K := K) (a := b) (xs := iv (t ++ [y])) (fun i σ H' => Keep (∃ z, σ = [some (.ref a), some (.ref b), some (.int r), some (.int (need r ((t ++ [y]).take i))), z] ∧ H' = H)) ⟨none, rfl, rfl⟩ (fun i σ H' _ h => ?_) (fun i x σ H' hx h => ?_) (fun σ H' h => ?_)
    · obtain ⟨z, _, rfl⟩ := h.o
      exact hB
    · obtain ⟨z, rfl, rfl⟩ := h.o
      obtain ⟨l, hl, rfl⟩ := iv_get hx
      walk_at "sq go"
      exact ⟨_, by rw [need_take hl]; rfl, rfl⟩
    · obtain ⟨z, rfl, rfl⟩ := h.o
      rw [iv_len, List.take_length]
      have ex : atI (iv (u ++ [x])) (-1) = some (.int x) := at_neg (j := u.length) (by decide) (by rw [iv_len, List.length_append, List.length_singleton]; omega) (by simp)
      have ey : atI (iv (t ++ [y])) (-1) = some (.int y) := at_neg (j := t.length) (by decide) (by rw [iv_len, List.length_append, List.length_singleton]; omega) (by simp)
      have y1 := hl y (by simp)
      have wm : CMulW y r := Sm.wide (a := 100) (b := 100) (by unfold Sm; omega) (by unfold Sm; omega) (by decide) (by decide) (by decide)
      have lx : (iv (u ++ [x])).length = (u ++ [x]).length := iv_len _
      walk_at "sq go"
      refine ifD (fun c1 => ?_) (fun c1 => ?_)
      · walk_at "sq go"
        rw [lx]
        refine ifI (fun c2 => ?_) (fun c2 => ?_)
        · walk_at "sq go"
          refine q _ ?_
          rw [decide_eq_true_iff]
          constructor
          · intro z
            exact ⟨c1, c2, t, y, rfl, V.int.inj z⟩
          · rintro ⟨_, _, t', y', e, z⟩
            have e2 := congrArg List.getLast? e
            rw [List.getLast?_append, List.getLast?_append] at e2
            have e3 : y = y' := by simpa using e2
            rw [e3]
            exact congrArg V.int z
        · exact q false ⟨(fun z => nomatch z), fun ⟨_, z, _⟩ => absurd z c2⟩
      · exact q false (by
          constructor
          · intro z; cases z
          · rintro ⟨z, _⟩; exact absurd z c1)

abbrev s_list_of : Stmt := topS 4
theorem sc_list_of : FnScope ["singles", "present", "found", "replacement", "later", "length"] ["singles"] (defScope s_list_of) := ⟨rfl, rfl, rfl, by decide +kernel, rfl, by decide +kernel, by decide +kernel⟩

/-- runs: all different, at least 1 -/
structure Runs1 (ns : List Int) : Prop where
  nd : ns.Nodup
  pos : ∀ k ∈ ns, 1 ≤ k ∧ k < 2 ^ 90
  len : ns.length < 4000
def spListOf (K : PySem.W.Frag) : Sp := fun vs H Q _ => ∃ (a : Addr) (ns : List Int), vs = [.ref a] ∧ SqL K H a (iv ns) ∧ Keep (Runs1 ns ∧ (∀ p H', p.Perm ns → p.Pairwise (· < ·) → Lof p none → Same H H' → Q .non H') ∧
  ∀ p row l H', p.Perm ns → p.Pairwise (· < ·) → Lof p (some row) → Same H H' → H l = none → H' l = some (.lst (iv row)) → Q (.ref l) H')
theorem same_put {H H' : Hp} {a : Addr} {o : HO} (s : Same H H') (n : H a = none) : Same H (upd H' a o) := fun b u e => by
  by_cases hb : b = a
  · rw [hb, n] at e
    cases e
  · rw [upd_ne hb]
    exact s b u e
theorem ne_newL {H : Hp} {a b : Addr} {u : HO} (e : H a = some u) (n : H b = none) : a ≠ b := fun z => by
  rw [z, n] at e
  cases e
theorem asc_of {p : List Int} (h : p.Pairwise (· ≤ ·)) (nd : p.Nodup) : p.Pairwise (· < ·) := (h.and nd).imp fun ⟨a, b⟩ => by omega
abbrev lofInv (a fa : Addr) (H : Hp) (p0 : List Int) : Nat → L2.St → Hp → Prop := fun k σ H' => Keep (∃ p pp pre z1 z2 z3, σ = [some (.ref a), some (.ref pp), some (.ref fa), z1, z2, z3] ∧ Same H H' ∧ H' pp = some (.lst (iv p)) ∧ H' fa = some (.lst (iv pre)) ∧ pp ≠ fa ∧ p.Pairwise (· < ·) ∧ (∀ n ∈ p, 1 ≤ n ∧ n < 2 ^ 90) ∧ p.length < 4000 ∧ (∀ res, Lof p res → Lof p0 (res.map (pre ++ ·))) ∧ k = (p.getLastD 0).toNat ∧ (p ≠ [] → 2 ^ pre.length * (p.getLastD 0).toNat ≤ 2 ^ 90))
theorem two_parts {p : List Int} (h : 2 ≤ p.length) : ∃ u x y, p = u ++ [x, y] := by
  have n1 : p ≠ [] := fun z => by rw [z] at h; simp at h
  have e1 := drop_last n1
  have n2 : p.dropLast ≠ [] := fun z => by
    rw [z] at e1
    have := congrArg List.length e1
    simp at this
    omega
  have e2 := drop_last n2
  exact ⟨p.dropLast.dropLast, p.dropLast.getLast n2, p.getLast n1, by
    conv => lhs; rw [e1, e2]
    simp⟩
theorem two_listOf (D : DefAt K mg "list_of" s_list_of ["singles"]) (B : Bt mg) (g_SINGLE : ∃ u, mg "SINGLE" = some u ∧ L2.RelV (.int 1) u) (c_squeezed_once : Cal P w K mg base 1 "squeezed_once" spSqOnce []) (c_is_complete : Cal P w K mg base 1 "is_complete" (spWhole K) []) : Def2 P w K mg base 2 "list_of" s_list_of ["singles"] (spListOf K) := by
  refine D.two sc_list_of (fun vs H Q E h => ?_) (fun f cdv A outer s H vs Q E hr h => ?_)
  · obtain ⟨a, ns, rfl, _⟩ := h
    rfl
  · obtain ⟨a, ns, rfl, hA, ⟨rn, q0, q1⟩⟩ := h
    refine ⟨_, (pss_cons (ps_set (i := 1) sc_list_of.nd rfl (Or.inl rfl) (pe_callB (cr_sortedIK (K := K)) (by rfl) B.sorted (by decide +kernel) (pa_cons (pv 0) pa_nil)))
  (pss_cons (ps_set (i := 2) sc_list_of.nd rfl (Or.inl rfl) (pe_lst pa_nil))
  (pss_cons (ps_while PassesOwn.never (pt_cmpR (op_neDK (K := K) hr.units) (pv 1) (pe_lst (pa_cons (pe_gc (by rfl) g_SINGLE) pa_nil)) (nomark _))
   (pss_cons (ps_if (PW.pt (pw_or (pt_cmpR op_lt (pe_callB (len_seqK (K := K)) (by rfl) B.len boot_len (pa_cons (pv 1) pa_nil)) pe_int (nomark _)) (pw_or1 (pt_cmpR op_ne (pe_ix (ix_listK (K := K)) (pv 1) pe_int (fun _ _ => rfl)) (pe_gc (by rfl) g_SINGLE) (nomark _))))) (pss_one (ps_ret pe_non)) pss_nil)
  (pss_cons (ps_set (i := 3) sc_list_of.nd rfl (Or.inr rfl) (pe_op op_add (pe_op op_sub (pe_ix (ix_listK (K := K)) (pv 1) (pe_un un_neg pe_int) (fun _ _ => rfl)) (pe_ix (ix_listK (K := K)) (pv 1) (pe_un un_neg pe_int) (fun _ _ => rfl))) pe_int))
  (pss_cons (ps_set (i := 4) sc_list_of.nd rfl (Or.inl rfl) (pe_callB (cr_sortedOf (w := w) rfl) (by rfl) B.sorted (by decide +kernel) (pa_cons (pe_callTy (cr_setInts (K := K) (w := w) rfl) (by rfl) B.set (by decide +kernel) (pa_cons (pe_lc (own := [("length", 5)]) (g := gName 5) (by rfl) sc_list_of.nd (pi_listK (K := K) (pv 1)) (blkOk_by (own := [("length", 5)]) (N := ["singles", "present", "found", "replacement", "later", "length"]) (sc := defScope s_list_of) (by decide +kernel)) (fun _ _ _ _ _ => (pg_name (i := 5) sc_list_of.nd rfl (Or.inl rfl))) (fun _ _ _ _ _ => pts_nil) (fun _ _ _ _ _ => (pe_c c_squeezed_once hr (by first | decide | omega) (by rfl) (pa_cons (pv 5) (pa_cons (pv 3) pa_nil))))) pa_nil)) pa_nil)))
  (pss_cons (ps_if (pt_not (pt_val (pe_c c_is_complete hr (by first | decide | omega) (by rfl) (pa_cons (pv 1) (pa_cons (pv 4) (pa_cons (pv 3) pa_nil)))))) (pss_one (ps_ret pe_non)) pss_nil)
  (pss_cons (ps_expr (pe_bm PySem.F.plainAttrs_list PySem.F.slot_list_append PySem.F.type_list_append mt_append (pv 2) (pa_cons (pv 3) pa_nil)))
  (pss_one (ps_set (i := 1) sc_list_of.nd rfl (Or.inl rfl) (pv 4)))))))))
  (pss_one (ps_ret (pv 2)))))), ?_⟩
    walk_at "sq go"
    intro p0 pa pm as0 npa
    have asc0 := asc_of as0 (pm.nodup_iff.mpr rn.nd)
    have s1 := same_new (o := .lst (iv p0)) npa
    walk_at "sq go"
    intro fa nfa
    have s2 := s1.trans (same_new (o := .lst []) nfa)
    have nfa0 : H fa = none := s1.free nfa
    have hpa : (upd (upd H pa (.lst (iv p0))) fa (.lst [])) pa = some (.lst (iv p0)) := upd_keep nfa upd_same
    walk_at "sq go"
    refine ⟨lofInv a fa H p0,
      ⟨_, p0, pa, [], none, none, none, rfl, s2, hpa, upd_same, ne_newL upd_same nfa, asc0, fun n hn => rn.pos n (pm.mem_iff.mp hn), by rw [pm.length_eq]; exact rn.len, fun res h => by simpa using h, rfl, fun ne => ?g0⟩, fun k σ H' h => ?_⟩
    case g0 =>
      have := rn.pos (p0.getLast ne) (pm.mem_iff.mp (List.getLast_mem ne))
      rw [List.getLastD_eq_getLast?, List.getLast?_eq_some_getLast ne]
      simp
      omega
    unfold lofInv at h
    obtain ⟨p, pp, pre, z1, z2, z3, rfl, s3, hpp, hfa, npf, asc, pos, lp, lof, rfl, lpre⟩ := h.o
    clear h
    walk_at "sq go"
    intro c1 nc1
    have s4 := s3.trans (same_new (o := .lst [.int 1]) nc1)
    have hpp1 := upd_keep (o := .lst [.int 1]) nc1 hpp
    have hfa1 := upd_keep (o := .lst [.int 1]) nc1 hfa
    refine r_neI (xs := p) (ys := [1]) (seqL_of hpp1) (seqL_of upd_same) ?_
    walk_at "sq go"
    refine ifN (fun np => ?_) (fun ep => ?_)
    · have stop : (p.length < 2 ∨ p.head? ≠ some 1) → Lof p0 none := fun c => lof _ (.bad np c)
      refine ⟨fun σ' H3 => Keep (∃ m', m' < (p.getLastD 0).toNat ∧ lofInv a fa H p0 m' σ' H3), fun σ' H3 h => h.o, ?_⟩
      have lenp : (iv p).length = p.length := iv_len _
      walk_at "sq go"
      rw [lenp]
      refine ifD (fun c => ?_) (fun c => ?_)
      · walk_at "sq go"
        exact q0 p0 _ pm asc0 (stop (.inl (by omega))) s4
      · obtain ⟨u, x, b, ep⟩ := two_parts (p := p) (by omega)
        obtain ⟨h0, r0, er⟩ : ∃ h0 r0, p = h0 :: r0 := by
          cases p with
          | nil => exact absurd ep (by simp)
          | cons h0 r0 => exact ⟨h0, r0, rfl⟩
        have at0 : atI (iv p) 0 = some (.int h0) := atI_nat (j := 0) (by rw [er]; rfl)
        walk_at "sq go"
        refine ifIN (fun c1 => ?_) (fun c1 => ?_)
        · walk_at "sq go"
          exact q0 p0 _ pm asc0 (stop (.inr (by rw [er]; simpa using c1))) s4
        · subst c1
          have atb : atI (iv p) (-1) = some (.int b) := at_neg (j := u.length + 1) (by decide) (by rw [iv_len, ep, List.length_append]; simp; omega) (by rw [ep]; simp)
          have atx : atI (iv p) (-2) = some (.int x) := at_neg (j := u.length) (by decide) (by rw [iv_len, ep, List.length_append]; simp; omega) (by rw [ep]; simp)
          have xb : x < b := by
            rw [ep] at asc
            have := (List.pairwise_append.mp asc).2.1
            simpa using this
          have px := pos x (by rw [ep]; simp)
          have pb := pos b (by rw [ep]; simp)
          walk_at "sq go"
          intro Dl nDl
          generalize hr0 : b - x + 1 = r at *
          have r2 : 2 ≤ r := by omega
          have rb : r < 2 ^ 100 := by omega
          have s5 := s4.trans (same_new (o := .lst []) nDl)
          refine lc_list (K := K) (a := pp) (xs := iv p) (fun i H2 => Keep (Same (upd H' c1 (.lst [.int 1])) H2 ∧ H2 Dl = some (.lst (iv ((p.take i).map fun n => once n r))))) ⟨same_new nDl, upd_same⟩ (fun i H2 _ h => ?_) (fun i v H2 hv h => ?_) (fun H2 h => ?_)
          · obtain ⟨s6, _⟩ := h.o
            exact seqL_of (s6 _ _ hpp1)
          · obtain ⟨s6, hD⟩ := h.o
            obtain ⟨n, hn, rfl⟩ := iv_get hv
            have lD : (iv ((p.take i).map fun n => once n r)).length < sizeLine := by
              rw [iv_len, List.length_map, List.length_take, sizeLine_eq]
              omega
            walk_at "sq go"
            refine ⟨⟨by omega, by omega⟩, ?_⟩
            walk_at "sq go"
            refine ⟨same_put s6 nDl, ?_⟩
            rw [upd_same, iv_app, List.take_add_one, hn, List.map_append, hr0]
            rfl
          · obtain ⟨s6, hD⟩ := h.o
            rw [iv_len, List.take_length] at hD
            have hD2 := seqL_of (K := K) hD
            walk_at "sq go"
            refine ⟨by rw [List.length_map]; exact lp, fun S1 m1 nS1 le1 => ?_⟩
            have le2 : m1 ≤ sizeLine := by
              rw [List.length_map] at le1
              rw [sizeLine_eq]
              omega
            walk_at "sq go"
            intro lt lq asl ml ll nlq
            have n1 : lt ≠ [] := fun z => by
              have := (ml (once 1 r)).mpr (List.mem_map.mpr ⟨1, by rw [er]; simp, rfl⟩)
              rw [z] at this
              cases this
            obtain ⟨t, y, et⟩ : ∃ t y, lt = t ++ [y] := ⟨_, _, drop_last n1⟩
            have ep2 : p = (u ++ [x]) ++ [b] := by rw [ep]; simp
            have posl : ∀ l ∈ lt, 1 ≤ l ∧ l < 2 ^ 90 := fun l hl => by
              obtain ⟨n, hn, rfl⟩ := List.mem_map.mp ((ml l).mp hl)
              have pn := pos n hn
              have h1 := once_pos pn.1 r2
              have h2 := once_le (show 0 ≤ n by omega) r2
              omega
            have s7 : Same (upd H' c1 (.lst [.int 1])) (upd (upd H2 S1 (SetO w S1 (fun j => decide (j ∈ p.map fun n => once n r)) m1)) lq (.lst (iv lt))) := s6.trans ((same_new nS1).trans (same_new nlq))
            have nqf : lq ≠ fa := Ne.symm (ne_newL ((s6.trans (same_new nS1)) _ _ hfa1) nlq)
            generalize hHn : upd (upd H2 S1 (SetO w S1 (fun j => decide (j ∈ p.map fun n => once n r)) m1)) lq (.lst (iv lt)) = Hn at *
            have hq7 : Hn lq = some (.lst (iv lt)) := by rw [← hHn]; exact upd_same
            have hpp7 : SqL K Hn pp (iv ((u ++ [x]) ++ [b])) := seqL_of (by rw [← ep2]; exact s7 _ _ hpp1)
            have hlq7 : SqL K Hn lq (iv (t ++ [y])) := seqL_of (by rw [← et]; exact hq7)
            have hfa7 := s7 _ _ hfa1
            have s8 := s4.trans s7
            have lent : lt.length ≤ p.length := by
              rw [ll]
              rw [List.length_map] at le1
              exact le1
            have gl : p.getLastD 0 = b := by rw [ep]; simp
            have gl2 : lt.getLastD 0 = y := by rw [et]; simp
            have lpre2 : (iv pre).length < sizeLine := by
              rw [iv_len]
              have h1 := lpre (by rw [er]; simp)
              rw [gl] at h1
              have h2 : 2 ^ pre.length * 1 ≤ 2 ^ pre.length * b.toNat := Nat.mul_le_mul_left _ (by omega)
              have h3 := (Nat.pow_le_pow_iff_right (show 1 < 2 by decide)).mp (show 2 ^ pre.length ≤ 2 ^ 90 by omega)
              rw [sizeLine_eq]
              omega
            walk_at "sq go"
            refine ⟨⟨by omega, by omega, by rw [et, List.length_append, List.length_singleton] at lent; omega, by rw [ep2, List.length_append, List.length_singleton] at lp; omega, fun l hl => by
              have := posl l (by rw [et]; exact hl)
              omega⟩, fun v hv => ?_⟩
            rw [← ep2, ← et, hr0] at hv
            cases v with
            | false =>
              walk_at "sq go"
              refine q0 p0 _ pm asc0 (lof _ (.no ep (by rw [er]; rfl) asl (by rw [hr0]; exact ml) fun w => ?_)) s8
              rw [hr0] at w
              cases hv.mpr w
            | true =>
              have wh := hv.mp rfl
              walk_at "sq go"
              have s9 := same_put (o := .lst (iv (pre ++ [b - x + 1]))) s8 nfa0
              have hq9 : upd Hn fa (.lst (iv (pre ++ [b - x + 1]))) lq = some (.lst (iv lt)) := (upd_ne nqf).trans hq7
              walk_at "sq go"
              rw [iv_app]
              refine ⟨(lt.getLastD 0).toNat, ?_, lt, lq, pre ++ [b - x + 1], _, _, _, rfl, s9, hq9, upd_same, nqf, asl, posl, by omega, fun res hres => ?_, rfl, fun _ => ?_⟩
              · rw [gl, gl2]
                obtain ⟨_, _, t', y', e, z⟩ := wh
                have e2 := congrArg List.getLast? e
                rw [et, List.getLast?_append, List.getLast?_append] at e2
                have e3 : y = y' := by simpa using e2
                rw [← e3] at z
                have y1 := posl y (by rw [et]; simp)
                have := Int.mul_le_mul_of_nonneg_left r2 (show 0 ≤ y by omega)
                omega
              · have z := lof _ (Lof.step ep (by rw [er]; rfl) asl (by rw [hr0]; exact ml) (by rw [hr0]; exact wh) hres)
                rw [Option.map_map] at z
                have e9 : ((fun q => pre ++ q) ∘ fun q => (b - x + 1) :: q) = fun q => (pre ++ [b - x + 1]) ++ q := by
                  funext q
                  simp
                rw [e9] at z
                exact z
              · rw [gl2, List.length_append, List.length_singleton, Nat.pow_succ]
                obtain ⟨_, _, t', y', e, z⟩ := wh
                have e2 := congrArg List.getLast? e
                rw [et, List.getLast?_append, List.getLast?_append] at e2
                have e3 : y = y' := by simpa using e2
                rw [← e3] at z
                have y1 := posl y (by rw [et]; simp)
                have h1 := lpre (by rw [er]; simp)
                rw [gl] at h1
                have h2 : 2 * y.toNat ≤ b.toNat := by
                  have := Int.mul_le_mul_of_nonneg_left r2 (show 0 ≤ y by omega)
                  omega
                refine Nat.le_trans ?_ h1
                rw [Nat.mul_assoc]
                exact Nat.mul_le_mul_left _ h2
    · subst ep
      have z := lof _ .one
      rw [Option.map_some, List.append_nil] at z
      walk_at "sq go"
      exact q1 p0 pre fa _ pm asc0 z s4 nfa0 hfa1

/-! ### the source of draws (a list: great cells, the digits left, a mix, a count) -/
def RB (r d : Addr) (N : Int) (ds : List Int) (a mix n : Int) (H : Hp) : Prop :=
  H r = some (.lst [.ref d, .int a, .int mix, .int n]) ∧ H d = some (.lst (iv ds)) ∧ d ≠ r ∧ 0 ≤ mix ∧ mix < 2305843009213693952 ∧ 0 ≤ n ∧ n ≤ N
def rgB (r d : Addr) (N : Int) : Rg where
  I := fun H => ∃ ds a mix n, RB r d N ds a mix n H
  S := fun x => x = r ∨ x = d
  loc := fun H H' e ⟨ds, a, mix, n, h1, h2, h3⟩ => ⟨ds, a, mix, n, (e r (.inl rfl)).trans h1, (e d (.inr rfl)).trans h2, h3⟩
  has := fun H x ⟨ds, a, mix, n, h1, h2, _⟩ hx => by
    rcases hx with rfl | rfl
    · rw [h1]; exact fun z => nomatch z
    · rw [h2]; exact fun z => nomatch z
/-- the source is drawn from: all else stands -/
theorem SepB.redo {r d : Addr} {N N' : Int} {G H H' : Hp} (s : Sep (rgB r d N) G H) (e : ∀ b o, b ≠ r → b ≠ d → H b = some o → H' b = some o) (h : ∃ ds a mix n, RB r d N' ds a mix n H') : Sep (rgB r d N') G H' := by
  refine ⟨h, fun b o q => ?_, s.off⟩
  have nr : b ≠ r := fun z => by
    have := s.off b (.inl z)
    rw [q] at this
    cases this
  have nd : b ≠ d := fun z => by
    have := s.off b (.inr z)
    rw [q] at this
    cases this
  exact e b o nr nd (s.same b o q)
theorem SepB.mono {r d : Addr} {N N' : Int} {G H : Hp} (s : Sep (rgB r d N) G H) (h : N ≤ N') : Sep (rgB r d N') G H := by
  obtain ⟨ds, a, mix, n, h1, h2, h3, h4, h5, h6, h7⟩ := s.inv
  exact SepB.redo s (fun _ _ _ _ z => z) ⟨ds, a, mix, n, h1, h2, h3, h4, h5, h6, by omega⟩
abbrev s_law_source : Stmt := topS 7
theorem sc_law_source : FnScope ["script", "mix", "digits", "cell", "span"] ["script"] (defScope s_law_source) := ⟨rfl, rfl, rfl, by decide +kernel, rfl, by decide +kernel, by decide +kernel⟩

def spSource (K : PySem.W.Frag) : Sp := fun vs H Q _ => ∃ (p : Addr) (ns : List Int), vs = [.ref p] ∧ SqL K H p (iv ns) ∧ ns.length ≤ 63 ∧ ∀ r d H', Same H H' → Sep (rgB r d 0) H H' → Q (.ref r) H'
theorem cal_source (D : DefAt K mg "_law_source" s_law_source ["script"]) (B : Bt mg) : Cal P w K mg base 1 "_law_source" (spSource K) [] := by
  refine D.cal sc_law_source (fun vs H Q E h => ?_) (fun f cdv A outer s H vs Q E hr h => ?_)
  · obtain ⟨p, ns, rfl, _⟩ := h
    rfl
  · obtain ⟨p, ns, rfl, hS, hl, q⟩ := h
    refine ⟨_, (pss_cons (ps_set (i := 1) sc_law_source.nd rfl (Or.inl rfl) pe_int)
  (pss_cons (ps_set (i := 2) sc_law_source.nd rfl (Or.inl rfl) (pe_lst pa_nil))
  (pss_cons (ps_for PassesOwn.never rfl (pi_listK (K := K) (pv 0)) (pg_name (i := 3) sc_law_source.nd rfl (Or.inl rfl))
   (pss_cons (ps_set (i := 1) sc_law_source.nd rfl (Or.inl rfl) (pe_op op_mod (pe_op op_add (pe_op op_mulW (pv 1) pe_int) (pv 3)) (pe_op op_sub (pe_op op_powW pe_int pe_int) pe_int)))
  (pss_cons (ps_set (i := 4) sc_law_source.nd rfl (Or.inl rfl) (pe_callB (call_max2 rfl) (by rfl) B.max (by decide +kernel) (pa_cons (pv 3) (pa_cons (pe_op op_sub pe_int (pv 3)) pa_nil))))
  (pss_one (ps_if (pt_cmpR op_ge (pv 4) (pe_op op_powW pe_int pe_int) (nomark _)) (pss_one (ps_expr (pe_bm PySem.F.plainAttrs_list PySem.F.slot_list_append PySem.F.type_list_append mt_append (pv 2) (pa_cons (pe_op op_sub (pv 4) (pe_op op_powW pe_int pe_int)) pa_nil)))) pss_nil)))))
  (pss_one (ps_ret (pe_lst (pa_cons (pv 2) (pa_cons pe_int (pa_cons (pv 1) (pa_cons pe_int pa_nil)))))))))), ?_⟩
    walk_at "sq go"
    intro d nd
    have s1 : Same H (upd H d (.lst [])) := same_new nd
    have npd : ∀ H' : Hp, Same H H' → SqL K H' p (iv ns) := fun H' s => s.seq hS
    walk_at "sq go"
    refine for_list (K := K) (a := p) (xs := iv ns) (fun i σ H' => Keep (∃ ds mix y z, σ = [some (.ref p), some (.int mix), some (.ref d), y, z] ∧ H' = upd H d (.lst (iv ds)) ∧ ds.length ≤ i ∧ 0 ≤ mix ∧ mix < 2305843009213693952))
      ⟨[], 271828182845904, none, none, rfl, rfl, Nat.le_refl _, by decide, by decide⟩ (fun i σ H' _ h => ?_) (fun i x σ H' hx h => ?_) (fun σ H' h => ?_)
    · obtain ⟨ds, mix, y, z, _, rfl, _⟩ := h.o
      exact npd _ (same_new nd)
    · obtain ⟨ds, mix, y, z, rfl, rfl, hds, h0, h1⟩ := h.o
      obtain ⟨n, hn, rfl⟩ := iv_get hx
      have hi : i < ns.length := (List.getElem?_eq_some_iff.mp hn).1
      have hm : CMulW mix 1000033 := Sm.wide (a := 61) (b := 20) (by unfold Sm; omega) (by unfold Sm; decide) (by decide) (by decide) (by decide)
      have e61 : (2 : Int) ^ (61 : Int).toNat - 1 = 2305843009213693951 := by decide
      walk_at "sq go"
      have m0 := Int.emod_nonneg (mix * 1000033 + n) (show (2 : Int) ^ (61 : Int).toNat - 1 ≠ 0 by rw [e61]; decide)
      have m1 := Int.emod_lt_of_pos (mix * 1000033 + n) (show 0 < (2 : Int) ^ (61 : Int).toNat - 1 by rw [e61]; decide)
      rw [e61] at m1
      refine ifD (fun c => ?_) (fun c => ?_)
      · walk_at "sq go"
        rw [upd_upd, iv_app]
        exact ⟨_, _, _, _, rfl, rfl, by rw [List.length_append, List.length_singleton]; omega, m0, by rw [e61]; omega⟩
      · exact ⟨ds, _, _, _, rfl, rfl, by omega, m0, by rw [e61]; omega⟩
    · obtain ⟨ds, mix, y, z, rfl, rfl, hds, h0, h1⟩ := h.o
      walk_at "sq go"
      intro r nr
      have ndr : d ≠ r := fun e => by
        rw [← e, upd_same] at nr
        cases nr
      have s2 : Same H (upd H d (.lst (iv ds))) := same_new nd
      refine q r d _ (s2.trans (same_new nr)) ⟨⟨ds, 0, mix, 0, upd_same, by rw [upd_ne ndr, upd_same], ndr, h0, by omega, by decide, by decide⟩, s2.trans (same_new nr), fun a ha => ?_⟩
      rcases ha with rfl | rfl
      · exact s2.free nr
      · exact nd

abbrev s_law_draw : Stmt := topS 8
theorem sc_law_draw : FnScope ["source", "many", "drawn", "mixed"] ["source", "many"] (defScope s_law_draw) := ⟨rfl, rfl, rfl, by decide +kernel, rfl, by decide +kernel, by decide +kernel⟩

def spDraw : Sp := fun vs H Q _ => ∃ (r d : Addr) (m N : Int) (G : Hp), vs = [.ref r, .int m] ∧ Sep (rgB r d N) G H ∧ Keep (0 < m ∧ m < 2 ^ 240 ∧ N < 2 ^ 60) ∧ ∀ v H', 0 ≤ v → v < m → Sep (rgB r d (N + 1)) G H' → Q (.int v) H'
theorem cal_draw (D : DefAt K mg "_law_draw" s_law_draw ["source", "many"]) (B : Bt mg) : Cal P w K mg base 1 "_law_draw" spDraw [] := by
  refine D.cal sc_law_draw (fun vs H Q E h => ?_) (fun f cdv A outer s H vs Q E hr h => ?_)
  · obtain ⟨r, d, m, N, G, rfl, _⟩ := h
    rfl
  · obtain ⟨r, d, m, N, G, rfl, hS, ⟨hm, hmb, hN⟩, q⟩ := h
    have hmz : m.natAbs.log2 < 9000 := Nat.lt_trans ((show Sm 240 m by unfold Sm; omega).lg (by decide)) (by decide)
    obtain ⟨ds0, a0, mix, n, hr0, hd0, ndr, h0, h1, n0, n1⟩ := id hS.inv
    refine ⟨_, (pss_cons (ps_while PassesOwn.never (PW.pt (pw_and (pt_cmpR op_lt (pe_ix (ix_listK (K := K)) (pv 0) pe_int (fun _ _ => rfl)) pe_int (nomark _)) (pw_and1 (pt_cmpR (op_neDK (K := K) hr.units) (pe_ix (ix_listK (K := K)) (pv 0) pe_int (fun _ _ => rfl)) (pe_lst pa_nil) (nomark _)))))
   (pss_one (ps_asg (pe_bm PySem.F.plainAttrs_list PySem.F.slot_list_pop PySem.F.type_list_pop mt_popAt (pe_ix (ix_listK (K := K)) (pv 0) pe_int (fun _ _ => rfl)) (pa_cons pe_int pa_nil)) (pg_sub (pv 0) pe_int set_list))))
  (pss_cons (ps_if (pt_cmpR op_ge (pe_ix (ix_listK (K := K)) (pv 0) pe_int (fun _ _ => rfl)) pe_int (nomark _)) (pss_cons (ps_set (i := 2) sc_law_draw.nd rfl (Or.inl rfl) (pe_op op_mod (pe_ix (ix_listK (K := K)) (pv 0) pe_int (fun _ _ => rfl)) (pv 1)))
  (pss_cons (ps_asg (pe_op op_fdivW (pe_ix (ix_listK (K := K)) (pv 0) pe_int (fun _ _ => rfl)) (pv 1)) (pg_sub (pv 0) pe_int set_list))
  (pss_one (ps_ret (pv 2))))) pss_nil)
  (pss_cons (ps_asg (pe_op op_add (pe_ix (ix_listK (K := K)) (pv 0) pe_int (fun _ _ => rfl)) pe_int) (pg_sub (pv 0) pe_int set_list))
  (pss_cons (ps_set (i := 3) sc_law_draw.nd rfl (Or.inl rfl) (pe_op op_mulW (pe_op op_add (pe_ix (ix_listK (K := K)) (pv 0) pe_int (fun _ _ => rfl)) pe_int) (pe_op op_powW (pe_op op_add (pe_ix (ix_listK (K := K)) (pv 0) pe_int (fun _ _ => rfl)) pe_int) pe_int)))
  (pss_cons (ps_set (i := 3) sc_law_draw.nd rfl (Or.inl rfl) (pe_op op_mod (pe_op op_add (pv 3) (pe_op op_mulW pe_int (pe_ix (ix_listK (K := K)) (pv 0) pe_int (fun _ _ => rfl)))) (pe_op op_sub (pe_op op_powW pe_int pe_int) pe_int)))
  (pss_one (ps_ret (pe_op op_mod (pe_op op_fdivW (pe_op op_mod (pe_op op_powW (pv 3) pe_int) (pe_op op_add (pe_op op_powW pe_int pe_int) pe_int)) pe_int) (pv 1))))))))), ?_⟩
    refine ⟨fun k σ H' => Keep (∃ ds a, σ = [some (.ref r), some (.int m), none, none] ∧ k = ds.length ∧ RB r d N ds a mix n H' ∧ ∀ b o, b ≠ r → b ≠ d → H b = some o → H' b = some o), ⟨_, ds0, a0, rfl, rfl, ⟨hr0, hd0, ndr, h0, h1, n0, n1⟩, fun _ _ _ _ z => z⟩, fun k σ H' h => ?_⟩
    obtain ⟨ds, a, rfl, rfl, ⟨gr, gd, _⟩, ge⟩ := h.o
    clear h
    have cm : CDivW a m := ⟨hm, hmz⟩
    have p3 : CPowW (n + 1 + 3) 3 := ⟨by decide, by decide, Nat.lt_trans ((show Sm 61 (n + 1 + 3) by unfold Sm; omega).lg (by decide)) (by decide)⟩
    have m3 : CMulW (mix + 7) ((n + 1 + 3) ^ (3 : Int).toNat) := by
      have e1 : Sm 62 (mix + 7) := by unfold Sm; omega
      have e2 : Sm 61 (n + 1 + 3) := by unfold Sm; omega
      have e3 : (n + 1 + 3) ^ (3 : Int).toNat = (n + 1 + 3) * (n + 1 + 3) * (n + 1 + 3) := by
        show (n + 1 + 3) ^ 3 = _
        rw [Int.pow_succ, Int.pow_succ, Int.pow_succ, Int.pow_zero, Int.one_mul]
      rw [e3]
      exact e1.wide ((e2.mul e2).mul e2) (by decide) (by decide) (by decide)
    have m4 : CMulW 1000081 (n + 1) := Sm.wide (a := 20) (b := 61) (by unfold Sm; decide) (by unfold Sm; omega) (by decide) (by decide) (by decide)
    have e61 : (2 : Int) ^ (61 : Int).toNat - 1 = 2305843009213693951 := by decide
    have p5 : CPowW (((mix + 7) * (n + 1 + 3) ^ (3 : Int).toNat + 1000081 * (n + 1)) % (2 ^ (61 : Int).toNat - 1)) 5 := by
      rw [e61]
      generalize (mix + 7) * (n + 1 + 3) ^ (3 : Int).toNat + 1000081 * (n + 1) = y
      exact ⟨by decide, by decide, Nat.lt_trans ((show Sm 61 (y % 2305843009213693951) by unfold Sm; omega).lg (by decide)) (by decide)⟩
    walk_at "sq go"
    refine ifD (fun c => ?_) (fun c => ?_)
    · walk_at "sq go"
      intro e ne
      refine r_neI (xs := ds) (ys := []) (by walk_at "sq sql") (by walk_at "sq sql") ?_
      walk_at "sq go"
      have ge2 : ∀ b o, b ≠ r → b ≠ d → H b = some o → upd H' e (.lst []) b = some o := fun b o h1 h2 z => upd_keep ne (ge b o h1 h2 z)
      have gr2 := upd_keep (o := .lst []) ne gr
      have gd2 := upd_keep (o := .lst []) ne gd
      generalize upd H' e (.lst []) = H2 at ge2 gr2 gd2
      clear ge gr gd ne
      refine ifN (fun c2 => ?_) (fun c2 => ?_)
      · obtain ⟨x, rest, rfl⟩ : ∃ x rest, ds = x :: rest := by
          cases ds with
          | nil => exact absurd rfl c2
          | cons x rest => exact ⟨x, rest, rfl⟩
        refine ⟨fun σ' H3 => Keep (σ' = [some (.ref r), some (.int m), none, none] ∧ RB r d N rest x mix n H3 ∧ ∀ b o, b ≠ r → b ≠ d → H b = some o → H3 b = some o), fun σ' H3 h3 => ?_, ?_⟩
        · obtain ⟨e1, e2, e3⟩ := h3.o
          exact ⟨rest.length, by rw [List.length_cons]; omega, rest, x, e1, rfl, e2, e3⟩
        · walk_at "sq go"
          refine ⟨seqIx0 (by simp), ?_⟩
          walk_at "sq go"
          exact ⟨rfl, ⟨upd_same, by rw [upd_ne ndr, upd_same]; rfl, ndr, h0, h1, n0, n1⟩, fun b o k1 k2 z => upd_off k1 (upd_off k2 (ge2 b o k1 k2 z))⟩
      · have gd := gd2
        have gr := gr2
        have ge := ge2
        walk_at "sq go"
        refine ifD (fun c4 => ?_) (fun c4 => ?_)
        · walk_at "sq go"
          have v0 := Int.emod_nonneg a (show m ≠ 0 by omega)
          have v1 := Int.emod_lt_of_pos a hm
          refine q _ _ v0 v1 (SepB.redo hS (fun b o k1 k2 z => upd_off k1 (ge b o k1 k2 z)) ⟨ds, a / m, mix, n, upd_same, ?_, ndr, h0, h1, n0, by omega⟩)
          rw [upd_ne ndr]
          exact gd
        · walk_at "sq go"
          have v0 : ∀ y : Int, 0 ≤ y % m := fun y => Int.emod_nonneg y (show m ≠ 0 by omega)
          have v1 : ∀ y : Int, y % m < m := fun y => Int.emod_lt_of_pos y hm
          refine q _ _ (v0 _) (v1 _) ?_
          refine SepB.redo hS (fun b o k1 k2 z => upd_off k1 (ge b o k1 k2 z)) ⟨ds, a, mix, n + 1, upd_same, ?_, ndr, h0, h1, by omega, by omega⟩
          rw [upd_ne ndr]
          exact gd
    · skip
      walk_at "sq go"
      refine ifD (fun c4 => ?_) (fun c4 => ?_)
      · walk_at "sq go"
        have v0 := Int.emod_nonneg a (show m ≠ 0 by omega)
        have v1 := Int.emod_lt_of_pos a hm
        refine q _ _ v0 v1 (SepB.redo hS (fun b o k1 k2 z => upd_off k1 (ge b o k1 k2 z)) ⟨ds, a / m, mix, n, upd_same, ?_, ndr, h0, h1, n0, by omega⟩)
        rw [upd_ne ndr]
        exact gd
      · walk_at "sq go"
        have v0 : ∀ y : Int, 0 ≤ y % m := fun y => Int.emod_nonneg y (show m ≠ 0 by omega)
        have v1 : ∀ y : Int, y % m < m := fun y => Int.emod_lt_of_pos y hm
        refine q _ _ (v0 _) (v1 _) ?_
        refine SepB.redo hS (fun b o k1 k2 z => upd_off k1 (ge b o k1 k2 z)) ⟨ds, a, mix, n + 1, upd_same, ?_, ndr, h0, h1, by omega, by omega⟩
        rw [upd_ne ndr]
        exact gd

abbrev s_law_row : Stmt := topS 12
theorem sc_law_row : FnScope ["source", "many", "wide", "way", "again", "found", "time", "some"] ["source", "many", "wide"] (defScope s_law_row) := ⟨rfl, rfl, rfl, by decide +kernel, rfl, by decide +kernel, by decide +kernel⟩

/-- replacements from 2 to wide -/
def Row (ns : List Int) (wide : Int) : Prop := ∀ k ∈ ns, (2 : Int) ≤ k ∧ k ≤ wide
def spRow : Sp := fun vs H Q _ => ∃ (r d : Addr) (many wide N : Int) (G : Hp), vs = [.ref r, .int many, .int wide] ∧ Sep (rgB r d N) G H ∧ Keep (0 ≤ many ∧ many ≤ 100 ∧ 2 ≤ wide ∧ wide < 2 ^ 100 ∧ N < 2 ^ 59) ∧
  ∀ p ns H', G p = none → ns.length ≤ many.toNat → Row ns wide → Sep (rgB r d (N + 203)) (upd G p (.lst (iv ns))) H' → Q (.ref p) H'
theorem cal_row (D : DefAt K mg "_law_row" s_law_row ["source", "many", "wide"]) (B : Bt mg) (c_law_draw : Cal P w K mg base 1 "_law_draw" spDraw []) : Cal P w K mg base 2 "_law_row" spRow [] := by
  refine D.cal sc_law_row (fun vs H Q E h => ?_) (fun f cdv A outer s H vs Q E hr h => ?_)
  · obtain ⟨r, d, many, wide, N, G, rfl, _⟩ := h
    rfl
  · obtain ⟨r, d, many, wide, N, G, rfl, hS, ⟨m0, m1, w2, wb, hN⟩, q⟩ := h
    refine ⟨_, (pss_cons (ps_par (i := 3) (j := 4) rfl sc_law_row.nd rfl rfl (by decide) rfl rfl (pa_cons (pe_c c_law_draw hr (by first | decide | omega) (by rfl) (pa_cons (pv 0) (pa_cons pe_int pa_nil))) (pa_cons (pe_op op_add pe_int (pe_c c_law_draw hr (by first | decide | omega) (by rfl) (pa_cons (pv 0) (pa_cons (pe_op op_sub (pv 2) pe_int) pa_nil)))) pa_nil)) (by rfl))
  (pss_cons (ps_set (i := 5) sc_law_row.nd rfl (Or.inl rfl) (pe_lst pa_nil))
  (pss_cons (ps_for PassesOwn.never rfl (pi_range1 (by rfl) B.range (pa_cons (pe_c c_law_draw hr (by first | decide | omega) (by rfl) (pa_cons (pv 0) (pa_cons (pe_op op_add (pv 1) pe_int) pa_nil))) pa_nil)) (pg_name (i := 6) sc_law_row.nd rfl (Or.inl rfl))
   (pss_cons (ps_set (i := 7) sc_law_row.nd rfl (Or.inl rfl) (pe_lst (pa_cons (pe_op op_add pe_int (pe_c c_law_draw hr (by first | decide | omega) (by rfl) (pa_cons (pv 0) (pa_cons (pe_op op_sub (pv 2) pe_int) pa_nil)))) (pa_cons (pe_op op_add pe_int (pe_c c_law_draw hr (by first | decide | omega) (by rfl) (pa_cons (pv 0) (pa_cons (pe_callB (call_min2 rfl) (by rfl) B.min (by decide +kernel) (pa_cons pe_int (pa_cons (pe_op op_sub (pv 2) pe_int) pa_nil))) pa_nil)))) (pa_cons (pv 4) pa_nil)))))
  (pss_one (ps_expr (pe_bm PySem.F.plainAttrs_list PySem.F.slot_list_append PySem.F.type_list_append mt_append (pv 5) (pa_cons (pe_ix (ix_listK (K := K)) (pv 7) (pv 3) (fun _ _ => rfl)) pa_nil))))))
  (pss_one (ps_ret (pv 5)))))), ?_⟩
    walk_at "sq go"
    refine ⟨⟨by omega, by omega, by omega⟩, fun way H1 y0 y1 hS1 => ?_⟩
    walk_at "sq go"
    refine ⟨⟨by omega, by omega, by omega⟩, fun ag H2 a0 a1 hS2 => ?_⟩
    walk_at "sq go"
    intro p np
    have gp : G p = none := hS2.free np
    have hS3 := hS2.new np (.lst [])
    walk_at "sq go"
    refine ⟨⟨by omega, by omega, by omega⟩, fun tn H3 t0 t1 hS4 => ?_⟩
    walk_at "sq go"
    refine for_range (lo := 0) (n := tn.toNat) (fun i σ H' => Keep (∃ ns x y, σ = [some (.ref r), some (.int many), some (.int wide), some (.int way), some (.int (2 + ag)), some (.ref p), x, y] ∧ Sep (rgB r d (N + 3 + 2 * i)) (upd G p (.lst (iv ns))) H' ∧ ns.length = i ∧ Row ns wide))
      ⟨[], none, none, rfl, SepB.mono hS4 (by omega), rfl, fun _ z => nomatch z⟩ (fun i σ H' hi h => ?_) (fun σ H' h => ?_)
    · obtain ⟨ns, x, y, rfl, hs, hl, hrow⟩ := h.o
      walk_at "sq go"
      refine ⟨⟨by omega, by omega, by omega⟩, fun b1 K1 b10 b11 hs1 => ?_⟩
      walk_at "sq go"
      refine ⟨⟨by split <;> omega, by split <;> omega, by omega⟩, fun b2 K2 b20 b21 hs2 => ?_⟩
      walk_at "sq go"
      intro e ne
      have hs3 := hs2.on (same_new (o := .lst [.int (2 + b1), .int (2 + b2), .int (2 + ag)]) ne)
      have hb2 : 2 + b2 ≤ wide := by
        split at b21 <;> omega
      have pick : ∃ v, atI [V.int (2 + b1), V.int (2 + b2), V.int (2 + ag)] way = some (.int v) ∧ 2 ≤ v ∧ v ≤ wide := by
        rcases (show way = 0 ∨ way = 1 ∨ way = 2 by omega) with z | z | z <;> rw [z]
        · exact ⟨_, atI_nat (j := 0) rfl, by omega, by omega⟩
        · exact ⟨_, atI_nat (j := 1) rfl, by omega, by omega⟩
        · exact ⟨_, atI_nat (j := 2) rfl, by omega, by omega⟩
      obtain ⟨v, ev, v2, vw⟩ := pick
      have hp : upd K2 e (.lst [.int (2 + b1), .int (2 + b2), .int (2 + ag)]) p = some (.lst (iv ns)) := hs3.get upd_same
      have hs4 := hs3.put upd_same (.lst (iv ns ++ [.int v]))
      rw [upd_upd, iv_app] at hs4
      walk_at "sq go"
      refine ⟨ns ++ [v], _, _, rfl, ?_, by simp [hl], fun k hk => ?_⟩
      · rw [iv_app]
        exact SepB.mono hs4 (by omega)
      · rcases List.mem_append.mp hk with z | z
        · exact hrow k z
        · rw [List.mem_singleton.mp z]
          exact ⟨v2, vw⟩
    · obtain ⟨ns, x, y, rfl, hs, hl, hrow⟩ := h.o
      walk_at "sq go"
      exact q p ns H' gp (by omega) hrow (SepB.mono hs (by omega))

abbrev s_law_same : Stmt := topS 9
theorem sc_law_same : FnScope ["found", "wanted", "k"] ["found", "wanted"] (defScope s_law_same) := ⟨rfl, rfl, rfl, by decide +kernel, rfl, by decide +kernel, by decide +kernel⟩

mutual
def plain : PyData → Bool
  | .none => true
  | .bool _ => true
  | .int _ => true
  | .str x => PyData.canLay0 (.str x)
  | .list xs => decide (xs.length ≤ 1000000) && plainAll xs
  | .tuple _ => false
  | .dict _ => false
def plainAll : List PyData → Bool
  | [] => true
  | x :: xs => plain x && plainAll xs
end
theorem plain_get : ∀ (ds : List PyData) (i : Nat) (d : PyData), plainAll ds = true → ds[i]? = some d → plain d = true
  | [], _, _, _, e => by simp at e
  | x :: r, i, d, h, e => by
    simp only [plainAll, Bool.and_eq_true] at h
    cases i with
    | zero =>
      have z : x = d := by simpa using e
      rw [← z]
      exact h.1
    | succ i => exact plain_get r i d h.2 (by simpa using e)
theorem depth_get : ∀ (ds : List PyData) (i : Nat) (d : PyData), ds[i]? = some d → d.depth ≤ PyData.depthAll ds
  | [], _, _, e => by simp at e
  | x :: r, i, d, e => by
    simp only [PyData.depthAll]
    cases i with
    | zero =>
      have z : x = d := by simpa using e
      rw [← z]
      exact Nat.le_max_left _ _
    | succ i => exact Nat.le_trans (depth_get r i d (by simpa using e)) (Nat.le_max_right _ _)
/-- x and y hold the same data d, of depth n at most -/
def Alike (K : PySem.W.Frag) (H : Hp) (n : Nat) (x y : V) : Prop := ∃ d, Dp K H x d ∧ Dp K H y d ∧ plain d = true ∧ d.depth ≤ n
def spSame (K : PySem.W.Frag) (n : Nat) : Sp := fun vs H Q _ => ∃ x y, vs = [x, y] ∧ Keep (Alike K H n x y) ∧ ∀ H', Same H H' → Q (.bl true) H'
theorem cal_same0 (D : DefAt K mg "_law_same" s_law_same ["found", "wanted"]) : Cal P w K mg base 1 "_law_same" (fun _ _ _ _ => False) [] := by
  refine D.cal sc_law_same (fun vs H Q E h => ?_) (fun f cdv A outer s H vs Q E hr h => ?_)
  · exact h.elim
  · exact h.elim
theorem cal_same1 (D : DefAt K mg "_law_same" s_law_same ["found", "wanted"]) (B : Bt mg) {k n : Nat} {sp : Sp} (c_law_same : Cal P w K mg base k "_law_same" sp [])
    (hsp : ∀ (x y : V) (H : Hp) (Q : VK) (E : XK) (m : Nat), Alike K H m x y → m < n → (∀ H', Same H H' → Q (.bl true) H') → sp [x, y] H Q E) : Cal P w K mg base (k + 1) "_law_same" (spSame K n) [] := by
  refine D.cal sc_law_same (fun vs H Q E h => ?_) (fun f cdv A outer s H vs Q E hr h => ?_)
  · obtain ⟨x, y, rfl, _⟩ := h
    rfl
  · obtain ⟨x, y, rfl, ⟨d, hx, hy, hc, hd⟩, q⟩ := h
    refine ⟨_, (pss_cons (ps_if (pt_cmpR op_isN (pv 1) pe_non (nomark _)) (pss_one (ps_ret (pe_cmpR op_isN (pv 0) pe_non (nomark _)))) pss_nil)
  (pss_cons (ps_if (pt_val (pe_callB (isiK (K := K)) (by rfl) B.isinstance (by decide +kernel) (pa_cons (pv 1) (pa_cons (pe_bltn (v := .ty "bool") (by rfl) B.bool (by decide +kernel) rfl) pa_nil)))) (pss_one (ps_ret (pe_and (pe_callB (isiK (K := K)) (by rfl) B.isinstance (by decide +kernel) (pa_cons (pv 0) (pa_cons (pe_bltn (v := .ty "bool") (by rfl) B.bool (by decide +kernel) rfl) pa_nil))) (pe_one (pe_cmpR (op_eqDK (K := K) hr.units) (pv 0) (pv 1) (nomark _)))))) pss_nil)
  (pss_cons (ps_if (pt_val (pe_callB (isiK (K := K)) (by rfl) B.isinstance (by decide +kernel) (pa_cons (pv 1) (pa_cons (pe_bltn (v := .ty "int") (by rfl) B.int (by decide +kernel) rfl) pa_nil)))) (pss_one (ps_ret (pe_and (pe_callB (isiK (K := K)) (by rfl) B.isinstance (by decide +kernel) (pa_cons (pv 0) (pa_cons (pe_bltn (v := .ty "int") (by rfl) B.int (by decide +kernel) rfl) pa_nil))) (pe_and (pe_not (pe_callB (isiK (K := K)) (by rfl) B.isinstance (by decide +kernel) (pa_cons (pv 0) (pa_cons (pe_bltn (v := .ty "bool") (by rfl) B.bool (by decide +kernel) rfl) pa_nil)))) (pe_one (pe_cmpR (op_eqDK (K := K) hr.units) (pv 0) (pv 1) (nomark _))))))) pss_nil)
  (pss_cons (ps_if (pt_val (pe_callB (isiK (K := K)) (by rfl) B.isinstance (by decide +kernel) (pa_cons (pv 1) (pa_cons (pe_bltn (v := .ty "str") (by rfl) B.str (by decide +kernel) rfl) pa_nil)))) (pss_one (ps_ret (pe_and (pe_callB (isiK (K := K)) (by rfl) B.isinstance (by decide +kernel) (pa_cons (pv 0) (pa_cons (pe_bltn (v := .ty "str") (by rfl) B.str (by decide +kernel) rfl) pa_nil))) (pe_one (pe_cmpR (op_eqDK (K := K) hr.units) (pv 0) (pv 1) (nomark _)))))) pss_nil)
  (pss_cons (ps_if (pt_cmpR op_ne (pe_callB (isiK (K := K)) (by rfl) B.isinstance (by decide +kernel) (pa_cons (pv 0) (pa_cons (pe_bltn (v := .ty "list") (by rfl) B.list (by decide +kernel) rfl) pa_nil))) (pe_callB (isiK (K := K)) (by rfl) B.isinstance (by decide +kernel) (pa_cons (pv 1) (pa_cons (pe_bltn (v := .ty "list") (by rfl) B.list (by decide +kernel) rfl) pa_nil))) (nomark _)) (pss_one (ps_ret pe_bl)) pss_nil)
  (pss_cons (ps_if (PW.pt (pw_or (pt_cmpR op_ne (pe_callB (isiK (K := K)) (by rfl) B.isinstance (by decide +kernel) (pa_cons (pv 0) (pa_cons (pe_bltn (v := .ty "tuple") (by rfl) B.tuple (by decide +kernel) rfl) pa_nil))) (pe_callB (isiK (K := K)) (by rfl) B.isinstance (by decide +kernel) (pa_cons (pv 1) (pa_cons (pe_bltn (v := .ty "tuple") (by rfl) B.tuple (by decide +kernel) rfl) pa_nil))) (nomark _)) (pw_or1 (pt_cmpR op_ne (pe_callB (len_seqK (K := K)) (by rfl) B.len boot_len (pa_cons (pv 0) pa_nil)) (pe_callB (len_seqK (K := K)) (by rfl) B.len boot_len (pa_cons (pv 1) pa_nil)) (nomark _))))) (pss_one (ps_ret pe_bl)) pss_nil)
  (pss_one (ps_ret (pe_cmpR (op_eqDK (K := K) hr.units) (pe_lc (own := [("k", 2)]) (g := gName 2) (by rfl) sc_law_same.nd (pi_range1 (by rfl) B.range (pa_cons (pe_callB (len_seqK (K := K)) (by rfl) B.len boot_len (pa_cons (pv 1) pa_nil)) pa_nil)) (blkOk_by (own := [("k", 2)]) (N := ["found", "wanted", "k"]) (sc := defScope s_law_same) (by decide +kernel)) (fun _ _ _ _ _ => (pg_name (i := 2) sc_law_same.nd rfl (Or.inl rfl))) (fun _ _ _ _ _ => (pts_one (pt_not (pt_val (pe_c c_law_same hr (by first | decide | omega) (by rfl) (pa_cons (pe_ix (ix_listK (K := K)) (pv 0) (pv 2) (fun _ _ => rfl)) (pa_cons (pe_ix (ix_listK (K := K)) (pv 1) (pv 2) (fun _ _ => rfl)) pa_nil))))))) (fun _ _ _ _ _ => (pv 2))) (pe_lst pa_nil) (nomark _)))))))))), ?_⟩
    cases d with
    | none =>
      cases hx; cases hy
      walk_at "sq go"
      exact q H (.refl H)
    | bool v =>
      cases hx; cases hy
      walk_at "sq go"
      refine rEqQ_of ⟨_, _, .bl v, .bl v, by simp [SeqAt.shaped, PyData.canLay0, PyData.depth], by simp [SeqAt.shaped, PyData.canLay0, PyData.depth], ?_⟩
      have e : PyData.eqv (.bool v) (.bool v) = true := by simp [PyData.eqv]
      rw [e]
      exact q H (.refl H)
    | int v =>
      cases hx; cases hy
      walk_at "sq go"
      refine rEqQ_of ⟨_, _, .int v, .int v, by simp [SeqAt.shaped, PyData.canLay0, PyData.depth], by simp [SeqAt.shaped, PyData.canLay0, PyData.depth], ?_⟩
      have e : PyData.eqv (.int v) (.int v) = true := by simp [PyData.eqv]
      rw [e]
      exact q H (.refl H)
    | str v =>
      cases hx; cases hy
      walk_at "sq go"
      have sh : SeqAt.shaped (.str v) = true := by
        simp only [plain, PyData.canLay0] at hc
        simp [SeqAt.shaped, PyData.canLay0, PyData.depth, hc]
      refine rEqQ_of ⟨_, _, .str v, .str v, sh, sh, ?_⟩
      have e : PyData.eqv (.str v) (.str v) = true := by simp [PyData.eqv]
      rw [e]
      exact q H (.refl H)
    | list ds =>
      cases hx with
      | @lst a xs _ ha hxs =>
      cases hy with
      | @lst b ys _ hb hys =>
      have lx := dpall_len _ _ hxs
      have ly := dpall_len _ _ hys
      simp only [plain, Bool.and_eq_true, decide_eq_true_eq] at hc
      simp only [PyData.depth] at hd
      obtain ⟨hlen, hc⟩ := hc
      walk_at "sq go"
      refine ifIN (fun c => absurd (by rw [lx, ly]) c) (fun _ => ?_)
      walk_at "sq go"
      intro D nD
      refine lc_range (lo := 0) (n := ((ys.length : Nat) : Int).toNat) (fun i H' => Keep (Same H H' ∧ H' D = some (.lst []))) ⟨same_new nD, upd_same⟩ (fun i H' hi h => ?_) (fun H' h => ?_)
      · obtain ⟨s1, eD⟩ := h.o
        have hi2 : i < ds.length := by omega
        obtain ⟨x, ex, dx⟩ := dpall_get _ _ hxs i _ (List.getElem?_eq_getElem hi2)
        obtain ⟨y, ey, dy⟩ := dpall_get _ _ hys i _ (List.getElem?_eq_getElem hi2)
        have ax : atI xs (0 + (i : Int)) = some x := by rw [Int.zero_add]; exact atI_nat ex
        have ay : atI ys (0 + (i : Int)) = some y := by rw [Int.zero_add]; exact atI_nat ey
        have ha' := s1.seq ha
        have hb' := s1.seq hb
        walk_at "sq go"
        refine hsp x y H' _ _ _ ⟨_, dp_same s1 _ _ dx, dp_same s1 _ _ dy, plain_get _ i _ hc (List.getElem?_eq_getElem hi2), depth_get _ i _ (List.getElem?_eq_getElem hi2)⟩ (by omega) (fun H2 s2 => ?_)
        walk_at "sq go"
        exact ⟨s1.trans s2, s2 _ _ eD⟩
      · obtain ⟨s1, eD⟩ := h.o
        walk_at "sq go"
        intro e ne
        have s2 := s1.trans (same_new (o := .lst []) ne)
        refine r_eqI (xs := []) (ys := []) (seqL_of (upd_keep ne eD)) (seqL_of upd_same) ?_
        exact q _ s2
    | tuple ds => simp [plain] at hc
    | dict kvs => nomatch hx
theorem Alike.mono {K : PySem.W.Frag} {H : Hp} {m n : Nat} {x y : V} (h : Alike K H m x y) (hm : m ≤ n) : Alike K H n x y := by
  obtain ⟨d, h1, h2, h3, h4⟩ := h
  exact ⟨d, h1, h2, h3, by omega⟩
theorem cal_same (D : DefAt K mg "_law_same" s_law_same ["found", "wanted"]) (B : Bt mg) : ∀ n : Nat, Cal P w K mg base (n + 2) "_law_same" (spSame K n) []
  | 0 => cal_same1 D B (cal_same0 D) fun x y H Q E m h lt q => absurd lt (by omega)
  | n + 1 => cal_same1 D B (cal_same D B n) fun x y H Q E m h lt q => ⟨x, y, rfl, ⟨h.mono (by omega)⟩, q⟩
theorem alike_ints {K : PySem.W.Frag} {H : Hp} {a b : Addr} {ns : List Int} {n : Nat} (h1 : SqL K H a (iv ns)) (h2 : SqL K H b (iv ns)) (hl : ns.length ≤ 1000000) (hn : 1 ≤ n) : Alike K H n (.ref a) (.ref b) := by
  have pl : ∀ ns : List Int, plainAll (ns.map .int) = true := by
    intro ns
    induction ns with
    | nil => simp [plainAll]
    | cons x r ih => simp [plainAll, plain, ih]
  refine ⟨dI ns, dp_iv h1, dp_iv h2, ?_, ?_⟩
  · unfold dI
    simp only [plain, pl, List.length_map, decide_eq_true hl, Bool.and_self]
  · unfold dI
    simp only [PyData.depth, dep_ints]
    omega
theorem alike_int {K : PySem.W.Frag} {H : Hp} {i : Int} {n : Nat} : Alike K H n (.int i) (.int i) := ⟨.int i, .int i, .int i, by simp [plain], by simp [PyData.depth]⟩

abbrev s_law_once : Stmt := topS 10
theorem sc_law_once : FnScope ["run", "one"] ["run", "one"] (defScope s_law_once) := ⟨rfl, rfl, rfl, by decide +kernel, rfl, by decide +kernel, by decide +kernel⟩

def spOnce : Sp := fun vs H Q _ => ∃ n k : Int, vs = [.int n, .int k] ∧ Keep (2 ≤ k ∧ k < 2 ^ 240) ∧ Q (.int (once n k)) H
theorem cal_once (D : DefAt K mg "_law_once" s_law_once ["run", "one"]) (B : Bt mg) : Cal P w K mg base 1 "_law_once" spOnce [] := by
  refine D.cal sc_law_once (fun vs H Q E h => ?_) (fun f cdv A outer s H vs Q E hr h => ?_)
  · obtain ⟨n, k, rfl, _⟩ := h
    rfl
  · obtain ⟨n, k, rfl, ⟨h2, hb⟩, q⟩ := h
    refine ⟨_, (pss_one (ps_ret (pe_op op_add (pe_op op_fdivW (pv 0) (pv 1)) (pe_op op_mod (pv 0) (pv 1))))), ?_⟩
    have c : CDivW n k := div_ok (by omega) hb
    walk_at "sq go"
    exact q
abbrev s_law_squeezed : Stmt := topS 11
theorem sc_law_squeezed : FnScope ["run", "row", "one"] ["run", "row"] (defScope s_law_squeezed) := ⟨rfl, rfl, rfl, by decide +kernel, rfl, by decide +kernel, by decide +kernel⟩

def spSqueezed (K : PySem.W.Frag) : Sp := fun vs H Q _ => ∃ (n : Int) (p : Addr) (ns : List Int), vs = [.int n, .ref p] ∧ SqL K H p (iv ns) ∧ Keep (Mid ns) ∧ Q (.int (sqz n ns)) H
theorem cal_squeezed (D : DefAt K mg "_law_squeezed" s_law_squeezed ["run", "row"]) (B : Bt mg) (c_law_once : Cal P w K mg base 1 "_law_once" spOnce []) : Cal P w K mg base 2 "_law_squeezed" (spSqueezed K) [] := by
  refine D.cal sc_law_squeezed (fun vs H Q E h => ?_) (fun f cdv A outer s H vs Q E hr h => ?_)
  · obtain ⟨n, p, ns, rfl, _⟩ := h
    rfl
  · obtain ⟨n, p, ns, rfl, hS, ⟨hm⟩, q⟩ := h
    refine ⟨_, (pss_cons (ps_for PassesOwn.never rfl (pi_listK (K := K) (pv 1)) (pg_name (i := 2) sc_law_squeezed.nd rfl (Or.inl rfl))
   (pss_one (ps_set (i := 0) sc_law_squeezed.nd rfl (Or.inl rfl) (pe_c c_law_once hr (by first | decide | omega) (by rfl) (pa_cons (pv 0) (pa_cons (pv 2) pa_nil))))))
  (pss_one (ps_ret (pv 0)))), ?_⟩
    walk_at "sq go"
    refine for_list (K := K) (a := p) (xs := iv ns) (fun i σ H' => Keep (∃ x, σ = [some (.int (sqz n (ns.take i))), some (.ref p), x] ∧ H' = H)) ⟨none, rfl, rfl⟩ (fun i σ H' _ h => ?_) (fun i x σ H' hx h => ?_) (fun σ H' h => ?_)
    · obtain ⟨x, _, rfl⟩ := h.o
      exact hS
    · obtain ⟨x, rfl, rfl⟩ := h.o
      obtain ⟨k, hk, rfl⟩ := iv_get hx
      walk_at "sq go"
      refine ⟨⟨hm k (List.mem_of_getElem? hk)⟩, ?_⟩
      exact ⟨_, by rw [sqz_take hk]; rfl, rfl⟩
    · obtain ⟨x, rfl, rfl⟩ := h.o
      have e : (iv ns).length = ns.length := iv_len _
      rw [e, List.take_length]
      walk_at "sq go"
      exact q

/-! ### all lists with a product; single runs; what is due -/
theorem len_prod : ∀ {row : List Int}, Two row → (row.length : Int) ≤ prodL row
  | [], _ => by simp [prodL]
  | k :: r, h => by
    have tr : Two r := fun j hj => h j (List.mem_cons_of_mem _ hj)
    have ih := len_prod tr
    have pr := prodL_pos tr
    have k2 := h k (List.mem_cons_self ..)
    have := Int.mul_le_mul_of_nonneg_right k2 (show 0 ≤ prodL r by omega)
    rw [prodL_cons, List.length_cons]
    omega
theorem drop_lastP {l : List (List Int × Int)} (h : l ≠ []) : l = l.dropLast ++ [((l.getLast h).1, (l.getLast h).2)] := (List.dropLast_concat_getLast h).symm
abbrev s_law_products : Stmt := topS 14
theorem sc_law_products : FnScope ["top", "found", "waiting", "row", "left", "one"] ["top"] (defScope s_law_products) := ⟨rfl, rfl, rfl, by decide +kernel, rfl, by decide +kernel, by decide +kernel⟩

def spProds : Sp := fun vs H Q _ => ∃ top : Int, vs = [.int top] ∧ Keep (1 ≤ top ∧ top ≤ 60) ∧ ∀ F l H', Same H H' → H l = none → AllP top F → F.length ≤ 400 → FL H H' [l] l F → Q (.ref l) H'
abbrev prInv (top : Int) (fa wa : Addr) (H : Hp) : Nat → L2.St → Hp → Prop := fun k σ H' => Keep (∃ F W x3 x4 x5, σ = [some (.int top), some (.ref fa), some (.ref wa), x3, x4, x5] ∧ FL H H' [fa, wa] fa F ∧ TL H H' [fa, wa] wa W ∧ PrInv top F W ∧ k = wgt W ∧ Same H H')
theorem kids_take {row : List Int} {left : Int} (m : Nat) : (((List.range (m + 1)).map fun (i : Nat) => 2 + (i : Int)).filter fun d => decide (left % d = 0)).map (fun d => (row ++ [d], left / d)) =
    (((List.range m).map fun (i : Nat) => 2 + (i : Int)).filter fun d => decide (left % d = 0)).map (fun d => (row ++ [d], left / d)) ++ ([2 + (m : Int)].filter fun d => decide (left % d = 0)).map (fun d => (row ++ [d], left / d)) := by
  rw [List.range_succ, List.map_append, List.filter_append, List.map_append]
  rfl
theorem cal_products (D : DefAt K mg "_law_products" s_law_products ["top"]) (B : Bt mg) : Cal P w K mg base 1 "_law_products" spProds [] := by
  refine D.cal sc_law_products (fun vs H Q E h => ?_) (fun f cdv A outer s H vs Q E hr h => ?_)
  · obtain ⟨top, rfl, _⟩ := h
    rfl
  · obtain ⟨top, rfl, ⟨t1, t60⟩, q⟩ := h
    refine ⟨_, (pss_cons (ps_par (i := 1) (j := 2) rfl sc_law_products.nd rfl rfl (by decide) rfl rfl (pa_cons (pe_lst pa_nil) (pa_cons (pe_lst (pa_cons (pe_tup (pa_cons (pe_lst pa_nil) (pa_cons (pv 0) pa_nil))) pa_nil)) pa_nil)) (by rfl))
  (pss_cons (ps_while PassesOwn.never (pt_cmpR (op_neDK (K := K) hr.units) (pv 2) (pe_lst pa_nil) (nomark _))
   (pss_cons (ps_asg (pe_bm0 PySem.F.plainAttrs_list PySem.F.slot_list_pop PySem.F.type_list_pop mt_pop (pv 2)) (pg_tupK (K := K) (n := 2) rfl (pgs_cons (pg_name (i := 3) sc_law_products.nd rfl (Or.inr rfl)) (pgs_cons (pg_name (i := 4) sc_law_products.nd rfl (Or.inr rfl)) pgs_nil))))
  (pss_cons (ps_if (pt_cmpR op_eq (pv 4) pe_int (nomark _)) (pss_one (ps_expr (pe_bm PySem.F.plainAttrs_list PySem.F.slot_list_append PySem.F.type_list_append mt_append (pv 1) (pa_cons (pv 3) pa_nil)))) pss_nil)
  (pss_one (ps_expr (pe_bm PySem.F.plainAttrs_list PySem.F.slot_list_extend PySem.F.type_list_extend mt_extend (pv 2) (pa_cons (pe_lc (own := [("one", 5)]) (g := gName 5) (by rfl) sc_law_products.nd (pi_range2 (by rfl) B.range (pa_cons pe_int (pa_cons (pe_op op_add (pv 4) pe_int) pa_nil))) (blkOk_by (own := [("one", 5)]) (N := ["top", "found", "waiting", "row", "left", "one"]) (sc := defScope s_law_products) (by decide +kernel)) (fun _ _ _ _ _ => (pg_name (i := 5) sc_law_products.nd rfl (Or.inl rfl))) (fun _ _ _ _ _ => (pts_one (pt_cmpR op_eq (pe_op op_mod (pv 4) (pv 5)) pe_int (nomark _)))) (fun _ _ _ _ _ => (pe_tup (pa_cons (pe_op op_cat (pv 3) (pe_lst (pa_cons (pv 5) pa_nil))) (pa_cons (pe_op op_fdivW (pv 4) (pv 5)) pa_nil))))) pa_nil)))))))
  (pss_one (ps_ret (pv 1))))), ?_⟩
    walk_at "sq go"
    intro fa nfa
    have s1 := same_new (o := .lst []) nfa
    have gfa : upd H fa (.lst []) fa = some (.lst []) := upd_same
    walk_at "sq go"
    intro i1 ni1
    walk_at "sq go"
    intro T nT
    walk_at "sq go"
    intro wa nwa
    have s2 := s1.trans (same_new (o := .lst []) ni1)
    have s3 := s2.trans (same_new (o := .tup [.ref i1, .int top]) nT)
    have s4 := s3.trans (same_new (o := .lst [.ref T]) nwa)
    have nfw : fa ≠ wa := ne_newL (upd_keep (o := .tup [.ref i1, .int top]) nT (upd_keep (o := .lst []) ni1 gfa)) nwa
    have gT := upd_keep (o := .lst [.ref T]) nwa (upd_same (H := upd (upd H fa (.lst [])) i1 (.lst [])) (a := T) (o := .tup [.ref i1, .int top]))
    have gi := upd_keep (o := .lst [.ref T]) nwa (upd_keep (o := .tup [.ref i1, .int top]) nT (upd_same (H := upd H fa (.lst [])) (a := i1) (o := .lst [])))
    have gf := upd_keep (o := .lst [.ref T]) nwa (upd_keep (o := .tup [.ref i1, .int top]) nT (upd_keep (o := .lst []) ni1 gfa))
    have gw : (upd (upd (upd (upd H fa (.lst [])) i1 (.lst [])) T (.tup [.ref i1, .int top])) wa (.lst [.ref T])) wa = some (.lst [.ref T]) := upd_same
    have nif : i1 ≠ fa := (ne_newL gfa ni1).symm
    have niw : i1 ≠ wa := ne_newL (upd_keep (o := .tup [.ref i1, .int top]) nT (upd_same (H := upd H fa (.lst [])) (a := i1) (o := .lst []))) nwa
    have ni1H := s1.free ni1
    have nwaH := s3.free nwa
    generalize upd (upd (upd (upd H fa (.lst [])) i1 (.lst [])) T (.tup [.ref i1, .int top])) wa (.lst [.ref T]) = H1 at *
    walk_at "sq go"
    refine ⟨prInv top fa wa H, ⟨_, [], [([], top)], none, none, none, rfl, FL.nil gf, ⟨[T], gw, rfl, fun i t w h1 h2 => ?_⟩, prinv_start t1, rfl, s4⟩, fun k σ H' h => ?_⟩
    · cases i with
      | zero =>
        have e1 : T = t := by simpa using h1
        have e2 : ([], top) = w := by simpa using h2
        rw [← e1, ← e2]
        exact ⟨i1, gT, gi, by simp [nif, niw], ni1H⟩
      | succ i => simp at h1
    obtain ⟨F, W, x3, x4, x5, rfl, LF, LW, pv, rfl, s5⟩ := h.o
    clear h
    walk_at "sq go"
    intro E1 nE1
    have LF1 := LF.same (same_new (o := .lst []) nE1)
    have LW1 := LW.same (same_new (o := .lst []) nE1)
    have s6 := s5.trans (same_new (o := .lst []) nE1)
    refine LW1.ne_nil upd_same ?_
    walk_at "sq go"
    refine ifD (fun ne => ?_) (fun e0 => ?_)
    · obtain ⟨row, left, V', eW⟩ : ∃ row left V', W = V' ++ [(row, left)] := ⟨_, _, _, drop_lastP ne⟩
      subst eW
      have pv2 := pv.step t60
      obtain ⟨tr, l1, el⟩ := pv.wait (row, left) (by simp)
      have l1 : 1 ≤ left := l1
      have l60 : left ≤ 60 := by
        have pr := prodL_pos (ns := row) tr
        have el : prodL row * left = top := el
        have := Int.mul_le_mul_of_nonneg_right pr (show 0 ≤ left by omega)
        omega
      have g400 := (gF_step (show 0 ≤ top by omega) t60).2
      have room := pv.room
      have room2 := pv2.room
      have wless : wgt (V' ++ kids row left) < wgt (V' ++ [(row, left)]) := by
        rw [wgt_app, wgt_app]
        have := wgt_kids row (show 0 ≤ left by omega) l60
        have : wgt [(row, left)] = gF 8 left := by simp [wgt]
        omega
      obtain ⟨xs, qd, pd, hxs, exl, hqd, hrow, LV⟩ := LW1.pop (by simp)
      refine ⟨fun σ' H3 => Keep (∃ m', m' < wgt (V' ++ [(row, left)]) ∧ prInv top fa wa H m' σ' H3), fun σ' H3 h => h.o, ?_⟩
      have nqw : qd ≠ wa := fun z => by
        rw [z, hxs] at hqd
        cases hqd
      have LF2 := LF1.put (u := .lst xs.dropLast) (q := wa) (by simp) nfw.symm
      have hqd2 : (upd (upd H' E1 (.lst [])) wa (.lst xs.dropLast)) qd = some (.tup [.ref pd, .int left]) := (upd_ne nqw).trans hqd
      have hrow2 := hrow.put (u := .lst xs.dropLast) (show wa ∈ [fa, wa] by simp)
      have s7 := same_put (o := .lst xs.dropLast) s6 nwaH
      walk_at "sq go"
      generalize upd (upd H' E1 (.lst [])) wa (.lst xs.dropLast) = H2 at *
      walk_at "sq go"
      refine ifI (fun c1 => ?_) (fun c1 => ?_)
      · rw [if_pos c1] at pv2 room2
        obtain ⟨ys, hys, lys, LF3⟩ := LF2.snoc (by simp) hrow2
        have lF : ys.length < sizeLine := by
          rw [lys, sizeLine_eq]
          omega
        walk_at "sq go"
        have LV3 := LV.put (u := .lst (ys ++ [.ref pd])) (q := fa) (by simp) hys nfw
        have hrow3 := hrow2.put (u := .lst (ys ++ [.ref pd])) (show fa ∈ [fa, wa] by simp)
        have s8 := same_put (o := .lst (ys ++ [.ref pd])) s7 nfa
        generalize upd H2 fa (.lst (ys ++ [.ref pd])) = H3 at *
        obtain ⟨fs, hfs, _⟩ := LF3.len
        obtain ⟨ws, hws, lws⟩ := LV3.len
        have lwg := wgt_len (V' ++ kids row left)
        have lkk : (kids row left).length ≤ 400 := by
          rw [List.length_append] at lwg
          omega
        walk_at "sq go"
        intro Dl nDl
        have nDf : fa ≠ Dl := ne_newL hfs nDl
        have nDw : wa ≠ Dl := ne_newL hws nDl
        refine lc_range (lo := 2) (n := (left + 1 - 2).toNat) (fun m H4 => Keep (Same H3 H4 ∧ TL H H4 [fa, wa, Dl] Dl ((((List.range m).map fun (i : Nat) => 2 + (i : Int)).filter fun d => decide (left % d = 0)).map fun d => (row ++ [d], left / d)))) ⟨same_new nDl, TL.nil upd_same⟩ (fun m H4 hm h => ?_) (fun H4 h => ?_)
        · obtain ⟨s9, LD⟩ := h.o
          have hrow4 := s9 _ _ hrow3.1
          have wd : CDivW left (2 + (m : Nat)) := div_ok (by omega) (by omega)
          obtain ⟨ds, hds, lds⟩ := LD.len
          walk_at "sq go"
          refine ifI (fun c2 => ?_) (fun c2 => ?_)
          · walk_at "sq go"
            intro e1 ne1
            have hrow5 := upd_keep (o := .lst [.int (2 + (m : Nat))]) ne1 hrow4
            have he5 : upd H4 e1 (.lst [.int (2 + (m : Nat))]) e1 = some (.lst [.int (2 + (m : Nat))]) := upd_same
            have szr : (iv row).length + [V.int (2 + (m : Nat))].length ≤ sizeLine := by
              have := len_prod (row := row) tr
              have el : prodL row * left = top := el
              have pr := prodL_pos (ns := row) tr
              have := Int.mul_le_mul_of_nonneg_left l1 (show 0 ≤ prodL row by omega)
              rw [iv_len, sizeLine_eq]
              simp
              omega
            walk_at "sq go"
            intro c1 nc1
            have sE := s9.trans (same_new (o := .lst [.int (2 + (m : Nat))]) ne1)
            have nc1f : fa ≠ c1 := ne_newL (sE _ _ hfs) nc1
            have nc1w : wa ≠ c1 := ne_newL (sE _ _ hws) nc1
            have nc1D : Dl ≠ c1 := ne_newL (upd_keep (o := .lst [.int (2 + (m : Nat))]) ne1 hds) nc1
            have nc1H := (s8.trans sE).free nc1
            have sF := sE.trans (same_new (o := .lst (iv row ++ [V.int (2 + (m : Nat))])) nc1)
            walk_at "sq go"
            intro T1 nT1
            have sG := sF.trans (same_new (o := .tup [.ref c1, .int (left / (2 + (m : Nat)))]) nT1)
            have sH := ((same_new (o := .lst [.int (2 + (m : Nat))]) ne1).trans (same_new (o := .lst (iv row ++ [V.int (2 + (m : Nat))])) nc1)).trans (same_new (o := .tup [.ref c1, .int (left / (2 + (m : Nat)))]) nT1)
            obtain ⟨acc, hD, lacc, LD3⟩ := (LD.same sH).snoc (p := c1) (q := T1) (w := (row ++ [(2 : Int) + (m : Nat)], left / ((2 : Int) + (m : Nat)))) (by simp) upd_same ⟨(upd_keep nT1 upd_same).trans (by rw [iv_app]), by simp [nc1f.symm, nc1w.symm, nc1D.symm], nc1H⟩
            refine ⟨acc, hD, ?_, same_put sG nDl, ?_⟩
            · rw [lacc, sizeLine_eq]
              refine Nat.lt_of_le_of_lt (Nat.le_trans (Nat.le_of_eq (List.length_map _)) (List.length_filter_le _ _)) ?_
              rw [List.length_map, List.length_range]
              omega
            · rw [kids_take]
              simp only [List.filter_cons, List.filter_nil, decide_eq_true c2, if_true, List.map_cons, List.map_nil]
              exact LD3
          · refine ⟨s9, ?_⟩
            rw [kids_take]
            simp only [List.filter_cons, List.filter_nil, decide_eq_false c2, Bool.false_eq_true, if_false, List.map_nil, List.append_nil]
            exact LD
        · obtain ⟨s9, LD⟩ := h.o
          have LD2 : TL H H4 [fa, wa] Dl (kids row left) := LD.weak (by simp)
          obtain ⟨us, vs, hus, lus, hvs, lvs, LE⟩ := (LV3.same s9).ext (by simp) LD2
          have hvs2 := seqL_of (K := K) hvs
          have szE : us.length + vs.length ≤ sizeLine := by
            rw [lus, lvs, sizeLine_eq]
            rw [List.length_append] at lwg
            omega
          walk_at "sq go"
          exact ⟨_, wless, _, _, _, _, _, rfl, (LF3.same s9).put (by simp) nfw.symm, LE, pv2, rfl, same_put (s8.trans s9) nwaH⟩
      · rw [if_neg c1] at pv2 room2
        have LV3 := LV
        have hrow3 := hrow2
        have s8 := s7
        have LF3 := LF2
        generalize H2 = H3 at *
        walk_at "sq go"
        obtain ⟨fs, hfs, _⟩ := LF3.len
        obtain ⟨ws, hws, lws⟩ := LV3.len
        have lwg := wgt_len (V' ++ kids row left)
        have lkk : (kids row left).length ≤ 400 := by
          rw [List.length_append] at lwg
          omega
        walk_at "sq go"
        intro Dl nDl
        have nDf : fa ≠ Dl := ne_newL hfs nDl
        have nDw : wa ≠ Dl := ne_newL hws nDl
        refine lc_range (lo := 2) (n := (left + 1 - 2).toNat) (fun m H4 => Keep (Same H3 H4 ∧ TL H H4 [fa, wa, Dl] Dl ((((List.range m).map fun (i : Nat) => 2 + (i : Int)).filter fun d => decide (left % d = 0)).map fun d => (row ++ [d], left / d)))) ⟨same_new nDl, TL.nil upd_same⟩ (fun m H4 hm h => ?_) (fun H4 h => ?_)
        · obtain ⟨s9, LD⟩ := h.o
          have hrow4 := s9 _ _ hrow3.1
          have wd : CDivW left (2 + (m : Nat)) := div_ok (by omega) (by omega)
          obtain ⟨ds, hds, lds⟩ := LD.len
          walk_at "sq go"
          refine ifI (fun c2 => ?_) (fun c2 => ?_)
          · walk_at "sq go"
            intro e1 ne1
            have hrow5 := upd_keep (o := .lst [.int (2 + (m : Nat))]) ne1 hrow4
            have he5 : upd H4 e1 (.lst [.int (2 + (m : Nat))]) e1 = some (.lst [.int (2 + (m : Nat))]) := upd_same
            have szr : (iv row).length + [V.int (2 + (m : Nat))].length ≤ sizeLine := by
              have := len_prod (row := row) tr
              have el : prodL row * left = top := el
              have pr := prodL_pos (ns := row) tr
              have := Int.mul_le_mul_of_nonneg_left l1 (show 0 ≤ prodL row by omega)
              rw [iv_len, sizeLine_eq]
              simp
              omega
            walk_at "sq go"
            intro c1 nc1
            have sE := s9.trans (same_new (o := .lst [.int (2 + (m : Nat))]) ne1)
            have nc1f : fa ≠ c1 := ne_newL (sE _ _ hfs) nc1
            have nc1w : wa ≠ c1 := ne_newL (sE _ _ hws) nc1
            have nc1D : Dl ≠ c1 := ne_newL (upd_keep (o := .lst [.int (2 + (m : Nat))]) ne1 hds) nc1
            have nc1H := (s8.trans sE).free nc1
            have sF := sE.trans (same_new (o := .lst (iv row ++ [V.int (2 + (m : Nat))])) nc1)
            walk_at "sq go"
            intro T1 nT1
            have sG := sF.trans (same_new (o := .tup [.ref c1, .int (left / (2 + (m : Nat)))]) nT1)
            have sH := ((same_new (o := .lst [.int (2 + (m : Nat))]) ne1).trans (same_new (o := .lst (iv row ++ [V.int (2 + (m : Nat))])) nc1)).trans (same_new (o := .tup [.ref c1, .int (left / (2 + (m : Nat)))]) nT1)
            obtain ⟨acc, hD, lacc, LD3⟩ := (LD.same sH).snoc (p := c1) (q := T1) (w := (row ++ [(2 : Int) + (m : Nat)], left / ((2 : Int) + (m : Nat)))) (by simp) upd_same ⟨(upd_keep nT1 upd_same).trans (by rw [iv_app]), by simp [nc1f.symm, nc1w.symm, nc1D.symm], nc1H⟩
            refine ⟨acc, hD, ?_, same_put sG nDl, ?_⟩
            · rw [lacc, sizeLine_eq]
              refine Nat.lt_of_le_of_lt (Nat.le_trans (Nat.le_of_eq (List.length_map _)) (List.length_filter_le _ _)) ?_
              rw [List.length_map, List.length_range]
              omega
            · rw [kids_take]
              simp only [List.filter_cons, List.filter_nil, decide_eq_true c2, if_true, List.map_cons, List.map_nil]
              exact LD3
          · refine ⟨s9, ?_⟩
            rw [kids_take]
            simp only [List.filter_cons, List.filter_nil, decide_eq_false c2, Bool.false_eq_true, if_false, List.map_nil, List.append_nil]
            exact LD
        · obtain ⟨s9, LD⟩ := h.o
          have LD2 : TL H H4 [fa, wa] Dl (kids row left) := LD.weak (by simp)
          obtain ⟨us, vs, hus, lus, hvs, lvs, LE⟩ := (LV3.same s9).ext (by simp) LD2
          have hvs2 := seqL_of (K := K) hvs
          have szE : us.length + vs.length ≤ sizeLine := by
            rw [lus, lvs, sizeLine_eq]
            rw [List.length_append] at lwg
            omega
          walk_at "sq go"
          exact ⟨_, wless, _, _, _, _, _, rfl, (LF3.same s9).put (by simp) nfw.symm, LE, pv2, rfl, same_put (s8.trans s9) nwaH⟩
    · have e0 : W = [] := Classical.not_not.mp e0
      subst e0
      walk_at "sq go"
      have z := pv.room
      have := (gF_step (show 0 ≤ top by omega) t60).2
      obtain ⟨ps, a, b, c⟩ := LF1
      exact q F fa _ s6 nfa pv.done (by omega) ⟨ps, a, b, fun i p r h1 h2 => (c i p r h1 h2).weak (by simp)⟩

theorem mem_le_prod : ∀ {row : List Int}, Two row → ∀ k ∈ row, k ≤ prodL row
  | [], _, _, hk => nomatch hk
  | j :: r, h, k, hk => by
    have tr : Two r := fun i hi => h i (List.mem_cons_of_mem _ hi)
    have pr := prodL_pos tr
    have j2 := h j (List.mem_cons_self ..)
    rw [prodL_cons]
    rcases List.mem_cons.mp hk with z | z
    · have := Int.mul_le_mul_of_nonneg_left pr (show 0 ≤ j by omega)
      omega
    · have ih := mem_le_prod tr k z
      have := Int.mul_le_mul_of_nonneg_right (show 1 ≤ j by omega) (show 0 ≤ prodL r by omega)
      omega
theorem asc_range (m : Nat) (f : Int → Bool) : (((List.range m).map fun (i : Nat) => 1 + (i : Int)).filter f).Pairwise (· < ·) := by
  refine List.Pairwise.filter _ (List.Pairwise.map _ ?_ List.pairwise_lt_range)
  intro a b h
  omega
theorem sgl_range {row : List Int} (h : Two row) : Sgl (((List.range (prodL row + 1 - 1).toNat).map fun (i : Nat) => 1 + (i : Int)).filter fun x => decide (sqz x row = 1)) row := fun x => by
  rw [List.mem_filter, decide_eq_true_iff]
  constructor
  · rintro ⟨a, b⟩
    obtain ⟨i, _, rfl⟩ := List.mem_map.mp a
    exact ⟨by omega, b⟩
  · rintro ⟨a, b⟩
    refine ⟨List.mem_map.mpr ⟨(x - 1).toNat, List.mem_range.mpr ?_, by omega⟩, b⟩
    have : x ≤ prodL row := by
      rcases Int.lt_or_le (prodL row) x with z | z
      · have := sqz_far h z
        omega
      · exact z
    omega
abbrev s_law_singles : Stmt := topS 15
theorem sc_law_singles : FnScope ["row", "top", "run"] ["row", "top"] (defScope s_law_singles) := ⟨rfl, rfl, rfl, by decide +kernel, rfl, by decide +kernel, by decide +kernel⟩

def spSingT (K : PySem.W.Frag) : Sp := fun vs H Q _ => ∃ (p : Addr) (row : List Int) (top : Int), vs = [.ref p, .int top] ∧ SqL K H p (iv row) ∧ Keep (Two row ∧ prodL row = top ∧ top ≤ 100000) ∧ ∀ l ns H', Same H H' → H l = none → Sgl ns row → ns.Pairwise (· < ·) → H' l = some (.lst (iv ns)) → Q (.ref l) H'
theorem cal_singT (D : DefAt K mg "_law_singles" s_law_singles ["row", "top"]) (B : Bt mg) (c_law_squeezed : Cal P w K mg base 2 "_law_squeezed" (spSqueezed K) []) : Cal P w K mg base 3 "_law_singles" (spSingT K) [] := by
  refine D.cal sc_law_singles (fun vs H Q E h => ?_) (fun f cdv A outer s H vs Q E hr h => ?_)
  · obtain ⟨p, row, top, rfl, _⟩ := h
    rfl
  · obtain ⟨p, row, top, rfl, hp, ⟨two, rfl, t5⟩, q⟩ := h
    refine ⟨_, (pss_one (ps_ret (pe_lc (own := [("run", 2)]) (g := gName 2) (by rfl) sc_law_singles.nd (pi_range2 (by rfl) B.range (pa_cons pe_int (pa_cons (pe_op op_add (pv 1) pe_int) pa_nil))) (blkOk_by (own := [("run", 2)]) (N := ["row", "top", "run"]) (sc := defScope s_law_singles) (by decide +kernel)) (fun _ _ _ _ _ => (pg_name (i := 2) sc_law_singles.nd rfl (Or.inl rfl))) (fun _ _ _ _ _ => (pts_one (pt_cmpR op_eq (pe_c c_law_squeezed hr (by first | decide | omega) (by rfl) (pa_cons (pv 2) (pa_cons (pv 0) pa_nil))) pe_int (nomark _)))) (fun _ _ _ _ _ => (pv 2))))), ?_⟩
    have p1 := prodL_pos two
    have mid : Mid row := fun k hk => ⟨two k hk, by
      have := mem_le_prod two k hk
      omega⟩
    walk_at "sq go"
    intro Dl nDl
    refine lc_range (lo := 1) (n := (prodL row + 1 - 1).toNat) (fun m H3 => Keep (Same H H3 ∧ H3 Dl = some (.lst (iv (((List.range m).map fun (i : Nat) => 1 + (i : Int)).filter fun x => decide (sqz x row = 1)))))) ⟨same_new nDl, upd_same⟩ (fun m H3 hm h => ?_) (fun H3 h => ?_)
    · obtain ⟨s8, hD⟩ := h.o
      have hp3 := s8.seq hp
      walk_at "sq go"
      refine ⟨⟨mid⟩, ?_⟩
      walk_at "sq go"
      have lD : (iv (((List.range m).map fun (i : Nat) => 1 + (i : Int)).filter fun x => decide (sqz x row = 1))).length < sizeLine := by
        rw [iv_len, sizeLine_eq]
        refine Nat.lt_of_le_of_lt (List.length_filter_le _ _) ?_
        rw [List.length_map, List.length_range]
        omega
      have em : ((List.range (m + 1)).map fun (i : Nat) => 1 + (i : Int)).filter (fun x => decide (sqz x row = 1)) = ((List.range m).map fun (i : Nat) => 1 + (i : Int)).filter (fun x => decide (sqz x row = 1)) ++ [1 + (m : Int)].filter fun x => decide (sqz x row = 1) := by
        rw [List.range_succ, List.map_append, List.filter_append]
        rfl
      refine ifI (fun c => ?_) (fun c => ?_)
      · walk_at "sq go"
        refine ⟨same_put s8 nDl, ?_⟩
        rw [upd_same, iv_app, em]
        simp [c]
      · refine ⟨s8, ?_⟩
        rw [em]
        simp only [List.filter_cons, List.filter_nil, decide_eq_false c, Bool.false_eq_true, if_false, List.append_nil]
        exact hD
    · obtain ⟨s8, hD⟩ := h.o
      walk_at "sq go"
      exact q Dl _ H3 s8 nDl (sgl_range two) (asc_range _ _) hD
/-- lists with the same single runs are one -/
theorem sgl_inj : ∀ {row row2 : List Int}, Two row → Two row2 → (∀ x, 1 ≤ x → (sqz x row = 1 ↔ sqz x row2 = 1)) → row = row2
  | [], [], _, _, _ => rfl
  | [], k :: r, _, h2, e => by
    have p := prodL_pos h2
    have b := mem_le_prod h2 k (List.mem_cons_self ..)
    have k2 := h2 k (List.mem_cons_self ..)
    have z : prodL (k :: r) = 1 := (e (prodL (k :: r)) p).mpr (sqz_prod h2)
    omega
  | k :: r, [], h1, _, e => by
    have p := prodL_pos h1
    have b := mem_le_prod h1 k (List.mem_cons_self ..)
    have k2 := h1 k (List.mem_cons_self ..)
    have z : prodL (k :: r) = 1 := (e (prodL (k :: r)) p).mp (sqz_prod h1)
    omega
  | k :: r, j :: t, h1, h2, e => by
    have p1 := prodL_pos h1
    have p2 := prodL_pos h2
    have b1 := mem_le_prod h1 k (List.mem_cons_self ..)
    have b2 := mem_le_prod h2 j (List.mem_cons_self ..)
    have k2 := h1 k (List.mem_cons_self ..)
    have j2 := h2 j (List.mem_cons_self ..)
    have ep : prodL (k :: r) = prodL (j :: t) := by
      rcases Int.lt_trichotomy (prodL (k :: r)) (prodL (j :: t)) with z | z | z
      · have := sqz_far h1 z
        have := (e _ p2).mpr (sqz_prod h2)
        omega
      · exact z
      · have := sqz_far h2 z
        have := (e _ p1).mp (sqz_prod h1)
        omega
    have ek : k = j := by
      rcases Int.lt_trichotomy k j with z | z | z
      · have m := next_miss h2 k2 z
        rw [← ep] at m
        have := (e _ (by omega)).mp (next_hit h1)
        omega
      · exact z
      · have m := next_miss h1 j2 z
        rw [ep] at m
        have := (e _ (by omega)).mpr (next_hit h2)
        omega
    subst ek
    have t1 : Two r := fun i hi => h1 i (List.mem_cons_of_mem _ hi)
    have t2 : Two t := fun i hi => h2 i (List.mem_cons_of_mem _ hi)
    congr 1
    refine sgl_inj t1 t2 fun x x1 => ?_
    have eo : once (x * k) k = x := by
      have z := once_qr (q := x) (r := 0) (k := k) (by omega) (by omega)
      rw [Int.add_zero, Int.add_zero] at z
      exact z
    have xk := Int.mul_le_mul x1 (show (1 : Int) ≤ k by omega) (by decide) (by omega)
    have z := e (x * k) (by omega)
    rw [sqz_cons, sqz_cons, eo] at z
    exact z
open Classical in
/-- among all lists with the product there is one, or none -/
theorem due_is {top : Int} {F : List (List Int)} {p : List Int} (hF : AllP top F) (ap : p.Pairwise (· < ·)) (ht : top ∈ p) (hm : ∀ x ∈ p, x ≤ top) :
    (∀ row, Two row → Sgl p row → (F.filter fun r => decide (Sgl p r)).length = 1) ∧ ((F.filter fun r => decide (Sgl p r)).length ≠ 1 → ∀ row, Two row → ¬ Sgl p row) := by
  have one : ∀ row, Two row → Sgl p row → (F.filter fun r => decide (Sgl p r)).length = 1 := fun row two sg => by
    obtain ⟨m1, m2⟩ := sgl_top two sg
    have ep : prodL row = top := by
      have := hm _ m1
      have := m2 _ ht
      omega
    have c := hF.2 row two ep
    rw [← List.countP_eq_length_filter, ← c]
    refine List.countP_congr fun r hr => ?_
    simp only [decide_eq_true_iff, beq_iff_eq]
    constructor
    · intro sr
      exact sgl_inj (hF.1 r hr).1 two fun x x1 => by
        have a := sr x
        have b := sg x
        constructor
        · intro z
          exact (b.mp (a.mpr ⟨x1, z⟩)).2
        · intro z
          exact (a.mp (b.mpr ⟨x1, z⟩)).2
    · intro z
      rw [z]
      exact sg
  exact ⟨one, fun n row two sg => n (one row two sg)⟩
abbrev s_law_due : Stmt := topS 17
theorem sc_law_due : FnScope ["some", "top", "found", "row"] ["some"] (defScope s_law_due) := ⟨rfl, rfl, rfl, by decide +kernel, rfl, by decide +kernel, by decide +kernel⟩

/-- what is due for some runs -/
def Due (ns : List Int) (res : Option (List Int)) : Prop := ∀ p, p.Perm ns → p.Pairwise (· < ·) → match res with
  | some row => Two row ∧ Sgl p row
  | none => ∀ row, Two row → ¬ Sgl p row
theorem has_sorted : ∀ ns : List Int, ∃ p : List Int, p.Perm ns ∧ p.Pairwise (· ≤ ·)
  | [] => ⟨[], .refl _, .nil⟩
  | x :: t => by
    obtain ⟨p, h1, h2⟩ := has_sorted t
    have ins : ∀ p : List Int, p.Pairwise (· ≤ ·) → ∃ q : List Int, q.Perm (x :: p) ∧ q.Pairwise (· ≤ ·) := by
      intro p
      induction p with
      | nil => exact fun _ => ⟨[x], .refl _, by simp⟩
      | cons y r ih =>
        intro hp
        obtain ⟨a, b⟩ := List.pairwise_cons.mp hp
        rcases Int.lt_or_le y x with c | c
        · obtain ⟨q, q1, q2⟩ := ih b
          refine ⟨y :: q, (q1.cons y).trans (List.Perm.swap ..), List.pairwise_cons.mpr ⟨fun z hz => ?_, q2⟩⟩
          rcases List.mem_cons.mp (q1.mem_iff.mp hz) with e | e
          · omega
          · exact a z e
        · refine ⟨x :: y :: r, .refl _, List.pairwise_cons.mpr ⟨fun z hz => ?_, hp⟩⟩
          rcases List.mem_cons.mp hz with e | e
          · omega
          · have := a z e
            omega
    obtain ⟨q, q1, q2⟩ := ins p h2
    exact ⟨q, q1.trans (h1.cons x), q2⟩
open Classical in
theorem filter_take {F : List (List Int)} {m : Nat} {row : List Int} (p : List Int) (h : F[m]? = some row) : (F.take (m + 1)).filter (fun r => decide (Sgl p r)) = (F.take m).filter (fun r => decide (Sgl p r)) ++ if Sgl p row then [row] else [] := by
  rw [List.take_add_one, h, List.filter_append]
  by_cases c : Sgl p row
  · simp [c]
  · simp [c]
def spDueT (K : PySem.W.Frag) : Sp := fun vs H Q _ => ∃ (a : Addr) (ns : List Int), vs = [.ref a] ∧ SqL K H a (iv ns) ∧ Keep (ns.Nodup ∧ (∀ k ∈ ns, 1 ≤ k ∧ k ≤ 60) ∧ ns.length ≤ 60) ∧ (∀ H', Same H H' → Due ns none → Q .non H') ∧ ∀ row l H', Same H H' → Due ns (some row) → H l = none → H' l = some (.lst (iv row)) → Q (.ref l) H'
open Classical in
theorem cal_dueT (D : DefAt K mg "_law_due" s_law_due ["some"]) (B : Bt mg) (c_law_products : Cal P w K mg base 1 "_law_products" spProds []) (c_law_singles : Cal P w K mg base 3 "_law_singles" (spSingT K) []) : Cal P w K mg base 4 "_law_due" (spDueT K) [] := by
  refine D.cal sc_law_due (fun vs H Q E h => ?_) (fun f cdv A outer s H vs Q E hr h => ?_)
  · obtain ⟨a, ns, rfl, _⟩ := h
    rfl
  · obtain ⟨a, ns, rfl, hA, ⟨nd, bn, ln⟩, q0, q1⟩ := h
    refine ⟨_, (pss_cons (ps_if (pt_cmpR (op_eqDK (K := K) hr.units) (pv 0) (pe_lst pa_nil) (nomark _)) (pss_one (ps_ret pe_non)) pss_nil)
  (pss_cons (ps_set (i := 1) sc_law_due.nd rfl (Or.inr rfl) (pe_callB (cr_maxK (K := K) rfl) (by rfl) B.max (by decide +kernel) (pa_cons (pv 0) pa_nil)))
  (pss_cons (ps_setLc (i := 2) (own := [("row", 3)]) (g := gName 3) (by rfl) sc_law_due.nd rfl rfl (sw_true rfl rfl rfl (by decide +kernel)) (pi_listK (K := K) (pe_c c_law_products hr (by first | decide | omega) (by rfl) (pa_cons (pv 1) pa_nil))) (blkOk_by (own := [("row", 3)]) (N := ["some", "top", "found", "row"]) (sc := defScope s_law_due) (by decide +kernel)) (fun _ _ _ _ _ => (pg_name (i := 3) sc_law_due.nd rfl (Or.inl rfl))) (fun _ _ _ _ _ => (pts_one (pt_cmpR (op_eqDK (K := K) hr.units) (pe_c c_law_singles hr (by first | decide | omega) (by rfl) (pa_cons (pv 3) (pa_cons (pv 1) pa_nil))) (pe_callB (cr_sortedIK (K := K)) (by rfl) B.sorted (by decide +kernel) (pa_cons (pv 0) pa_nil)) (nomark _)))) (fun _ _ _ _ _ => (pv 3)))
  (pss_one (ps_ret (pe_ifExp (pt_cmpR op_eq (pe_callB (len_seqK (K := K)) (by rfl) B.len boot_len (pa_cons (pv 2) pa_nil)) pe_int (nomark _)) (pe_ix (ix_listK (K := K)) (pv 2) pe_int (fun _ _ => rfl)) pe_non)))))), ?_⟩
    walk_at "sq go"
    intro E1 nE1
    have s1 := same_new (o := .lst []) nE1
    have hA1 := s1.seq hA
    refine r_eqI (xs := ns) (ys := []) hA1 (seqL_of upd_same) ?_
    walk_at "sq go"
    refine ifD (fun e0 => ?_) (fun ne => ?_)
    · walk_at "sq go"
      refine q0 _ s1 fun p pm _ row two sg => ?_
      have z := (sg 1).mpr ⟨by decide, sqz_1 two⟩
      rw [pm.mem_iff, e0] at z
      cases z
    · walk_at "sq go"
      refine ⟨List.length_pos_iff.mpr ne, fun top mt ge => ?_⟩
      have bt := bn top mt
      walk_at "sq go"
      refine ⟨⟨bt.1, bt.2⟩, fun F l H2 s2 nl hF lF LFF => ?_⟩
      obtain ⟨ps, hps, lps, rps⟩ := LFF
      have s12 := s1.trans s2
      walk_at "sq go"
      intro Dl nDl
      obtain ⟨p, pm, ap0⟩ := has_sorted ns
      have ap := asc_of ap0 (pm.nodup_iff.mpr nd)
      refine lc_list (K := K) (a := l) (xs := ps.map V.ref) (fun m H3 => Keep (Same H2 H3 ∧ FL H H3 [Dl] Dl ((F.take m).filter fun r => decide (Sgl p r)))) ⟨same_new nDl, FL.nil upd_same⟩ (fun m H3 _ h => ?_) (fun m v H3 hv h => ?_) (fun H3 h => ?_)
      · obtain ⟨s3, _⟩ := h.o
        exact seqL_of (s3 _ _ hps)
      · obtain ⟨s3, LD⟩ := h.o
        rw [List.getElem?_map] at hv
        cases ep : ps[m]? with
        | none => rw [ep] at hv; cases hv
        | some pr =>
          rw [ep] at hv
          obtain rfl : V.ref pr = v := Option.some.inj hv
          have lm : m < F.length := by
            have := (List.getElem?_eq_some_iff.mp ep).1
            omega
          have er := List.getElem?_eq_getElem lm
          generalize F[m] = row at er
          obtain ⟨hpr, _, npr⟩ := rps m pr row ep er
          obtain ⟨two, epr⟩ := hF.1 row (List.mem_of_getElem? er)
          have hpr3 := s3 _ _ hpr
          have hpr3q := seqL_of (K := K) hpr3
          walk_at "sq go"
          refine ⟨⟨two, epr, by omega⟩, fun l2 ns2 H4 s4 nl2 sg2 as2 hl2 => ?_⟩
          have hA4 := (s2.trans (s3.trans s4)).seq hA1
          walk_at "sq go"
          intro q2 l3 pm2 aq2 nl3
          have aq := asc_of aq2 (pm2.nodup_iff.mpr nd)
          have eqp : q2 = p := asc_eq aq ap fun x => by rw [pm2.mem_iff, pm.mem_iff]
          subst eqp
          have s5 := s4.trans (same_new (o := .lst (iv q2)) nl3)
          refine r_eqI (xs := ns2) (ys := q2) (seqL_of (upd_keep nl3 hl2)) (seqL_of upd_same) ?_
          walk_at "sq go"
          have s6 := s3.trans s5
          have LD5 := LD.same s5
          have key : ns2 = q2 ↔ Sgl q2 row := ⟨fun z => z ▸ sg2, fun z => asc_eq as2 ap fun x => by rw [sg2 x, z x]⟩
          refine ifD (fun c => ?_) (fun c => ?_)
          · obtain ⟨ds, hds, lds⟩ := LD.len
            have npD : pr ≠ Dl := fun z => by
              have h1 := s3 _ _ hpr
              have h2 : H2 Dl = none := nDl
              rw [← z, hpr] at h2
              cases h2
            obtain ⟨acc, hD, lacc, LD6⟩ := LD5.snoc (p := pr) (r := row) (by simp) ⟨s5 _ _ hpr3, by simp [npD], s1.free npr⟩
            have lz : acc.length < sizeLine := by
              rw [lacc, sizeLine_eq]
              refine Nat.lt_of_le_of_lt (List.length_filter_le _ _) ?_
              rw [List.length_take]
              omega
            walk_at "sq go"
            refine ⟨same_put s6 nDl, ?_⟩
            rw [filter_take q2 er, if_pos (key.mp c)]
            exact LD6
          · refine ⟨s6, ?_⟩
            rw [filter_take q2 er, if_neg fun z => c (key.mpr z), List.append_nil]
            exact LD5
      · obtain ⟨s3, LD⟩ := h.o
        rw [List.length_map, lps, List.take_length] at LD
        obtain ⟨d1, d2⟩ := due_is hF ap (pm.mem_iff.mpr mt) fun x hx => ge x (pm.mem_iff.mp hx)
        obtain ⟨qs, hqs, lqs, rqs⟩ := LD
        have hqs2 := seqL_of (K := K) hqs
        have lv : (qs.map V.ref).length = (F.filter fun r => decide (Sgl p r)).length := by rw [List.length_map, lqs]
        have same_p : ∀ q2 : List Int, q2.Perm ns → q2.Pairwise (· < ·) → q2 = p := fun q2 pq aq => asc_eq aq ap fun x => by rw [pq.mem_iff, pm.mem_iff]
        have s13 := s12.trans s3
        walk_at "sq go"
        rw [lv]
        refine ifI (fun c => ?_) (fun c => ?_)
        · have c1 : (F.filter fun r => decide (Sgl p r)).length = 1 := by omega
          obtain ⟨row, erow⟩ : ∃ row, (F.filter fun r => decide (Sgl p r)) = [row] := List.length_eq_one_iff.mp c1
          obtain ⟨pr, eqs⟩ : ∃ pr, qs = [pr] := List.length_eq_one_iff.mp (by omega)
          subst eqs
          have hpr := rqs 0 pr row rfl (by rw [erow]; rfl)
          have mrow : row ∈ F.filter fun r => decide (Sgl p r) := by rw [erow]; simp
          obtain ⟨m1, m2⟩ := List.mem_filter.mp mrow
          have at0 : atI ([pr].map V.ref) 0 = some (.ref pr) := atI_nat (j := 0) rfl
          walk_at "sq go"
          refine q1 row pr _ s13 (fun q2 pq aq => ?_) hpr.2.2 hpr.1
          rw [same_p q2 pq aq]
          exact ⟨(hF.1 row m1).1, of_decide_eq_true m2⟩
        · walk_at "sq go"
          refine q0 _ s13 fun q2 pq aq row two sg => ?_
          rw [same_p q2 pq aq] at sg
          exact d2 (by omega) row two sg

/-! ### lists shuffled; the single runs of a list; great lists -/
theorem seqIxN {i : Int} {n : Nat} (h0 : 0 ≤ i) (h1 : i < n) : seqIndex? i n = some i.toNat := by
  unfold seqIndex?
  simp
  omega
theorem iv_erase (ns : List Int) (k : Nat) : (iv ns).eraseIdx k = iv (ns.eraseIdx k) := by
  induction ns generalizing k with
  | nil => rfl
  | cons x t ih => cases k with
    | zero => rfl
    | succ k => exact congrArg (V.int x :: ·) (ih k)
theorem erase_perm {l : List Int} {i : Nat} (h : i < l.length) : (l[i] :: l.eraseIdx i).Perm l := by
  induction l generalizing i with
  | nil => cases h
  | cons x t ih => cases i with
    | zero => exact .refl _
    | succ i => exact (List.Perm.swap ..).trans ((ih (by simpa using h)).cons x)
abbrev s_law_shuffled : Stmt := topS 16
theorem sc_law_shuffled : FnScope ["source", "some", "left", "time"] ["source", "some"] (defScope s_law_shuffled) := ⟨rfl, rfl, rfl, by decide +kernel, rfl, by decide +kernel, by decide +kernel⟩

def spShuf (K : PySem.W.Frag) : Sp := fun vs H Q _ => ∃ (r d a : Addr) (N : Int) (G : Hp) (ns : List Int), vs = [.ref r, .ref a] ∧ Sep (rgB r d N) G H ∧ G a = some (.lst (iv ns)) ∧ Keep (ns.length ≤ 5000 ∧ 0 ≤ N ∧ N < 2 ^ 58) ∧
  ∀ l ms G' H', G l = none → Same G G' → G' l = some (.lst (iv ms)) → ms.Perm ns → Sep (rgB r d (N + ns.length)) G' H' → Q (.ref l) H'
theorem cal_shuf (D : DefAt K mg "_law_shuffled" s_law_shuffled ["source", "some"]) (B : Bt mg) (c_law_draw : Cal P w K mg base 1 "_law_draw" spDraw []) : Cal P w K mg base 2 "_law_shuffled" (spShuf K) [] := by
  refine D.cal sc_law_shuffled (fun vs H Q E h => ?_) (fun f cdv A outer s H vs Q E hr h => ?_)
  · obtain ⟨r, d, a, N, G, ns, rfl, _⟩ := h
    rfl
  · obtain ⟨r, d, a, N, G, ns, rfl, hS, gA, ⟨ln, n0, nb⟩, q⟩ := h
    refine ⟨_, (pss_cons (ps_set (i := 2) sc_law_shuffled.nd rfl (Or.inr rfl) (pe_callTy (list_ofK (K := K)) (by rfl) B.list (by decide +kernel) (pa_cons (pv 1) pa_nil)))
  (pss_one (ps_ret (pe_lc (own := [("time", 3)]) (g := gName 3) (by rfl) sc_law_shuffled.nd (pi_range1 (by rfl) B.range (pa_cons (pe_callB (len_seqK (K := K)) (by rfl) B.len boot_len (pa_cons (pv 1) pa_nil)) pa_nil)) (blkOk_by (own := [("time", 3)]) (N := ["source", "some", "left", "time"]) (sc := defScope s_law_shuffled) (by decide +kernel)) (fun _ _ _ _ _ => (pg_name (i := 3) sc_law_shuffled.nd rfl (Or.inl rfl))) (fun _ _ _ _ _ => pts_nil) (fun _ _ _ _ _ => (pe_bmK (K' := K) PySem.F.plainAttrs_list PySem.F.slot_list_pop PySem.F.type_list_pop mt_popAt (pv 2) (pa_cons (pe_c c_law_draw hr (by first | decide | omega) (by rfl) (pa_cons (pv 0) (pa_cons (pe_callB (len_seqK (K := K)) (by rfl) B.len boot_len (pa_cons (pv 2) pa_nil)) pa_nil))) pa_nil))))))), ?_⟩
    have hA := seqL_of (K := K) (hS.get gA)
    walk_at "sq go"
    intro lf nlf
    have hS1 := hS.new nlf (.lst (iv ns))
    have glf := hS.free nlf
    have t1 := same_new (o := .lst (iv ns)) glf
    have hA1 := (same_new (o := .lst (iv ns)) nlf).seq hA
    have lns : (iv ns).length = ns.length := iv_len _
    walk_at "sq go"
    intro Dl nDl
    have hS2 := hS1.new nDl (.lst [])
    have gDl1 := hS1.free nDl
    have gDl := t1.free gDl1
    refine lc_range (lo := 0) (n := (((iv ns).length : Nat) : Int).toNat) (fun m H4 => Keep (∃ G2 rest got, Sep (rgB r d (N + m)) G2 H4 ∧ Same G G2 ∧ G2 lf = some (.lst (iv rest)) ∧ G2 Dl = some (.lst (iv got)) ∧ (got ++ rest).Perm ns ∧ got.length = m))
      ⟨_, ns, [], SepB.mono hS2 (by omega), t1.trans (same_new gDl1), upd_keep gDl1 upd_same, upd_same, .refl _, rfl⟩ (fun m H4 hm h => ?_) (fun H4 h => ?_)
    · obtain ⟨G2, rest, got, hs, t2, g1, g2, pm, lg⟩ := h.o
      have ne : lf ≠ Dl := ne_newL upd_same gDl1
      have lr : rest.length = ns.length - m := by
        have := pm.length_eq
        rw [List.length_append] at this
        omega
      have hr1 := seqL_of (K := K) (hs.get g1)
      have lrr : (iv rest).length = rest.length := iv_len _
      walk_at "sq go"
      rw [lrr]
      refine ⟨⟨by omega, by omega, by omega⟩, fun v H5 v0 v1 hs5 => ?_⟩
      have gl5 := hs5.get g1
      have gd5 := hs5.get g2
      have sx := seqIxN (n := (iv rest).length) v0 (by omega)
      have lv : v.toNat < rest.length := by omega
      have ev : (iv rest)[v.toNat]? = some (.int rest[v.toNat]) := by
        rw [List.getElem?_map, List.getElem?_eq_getElem lv]
        rfl
      have gd6 : upd H5 lf (.lst ((iv rest).eraseIdx v.toNat)) Dl = some (.lst (iv got)) := (upd_ne ne.symm).trans gd5
      have lz : (iv got).length < sizeLine := by
        rw [iv_len, sizeLine_eq]
        omega
      walk_at "sq go"
      rw [iv_app, iv_erase]
      have hs6 := hs5.put (u := .lst (iv rest)) g1 (.lst (iv (rest.eraseIdx v.toNat)))
      have hs7 := hs6.put (u := .lst (iv got)) ((upd_ne ne.symm).trans g2) (.lst (iv (got ++ [rest[v.toNat]])))
      refine ⟨_, rest.eraseIdx v.toNat, got ++ [rest[v.toNat]], SepB.mono hs7 (by omega), same_put (same_put t2 glf) gDl, (upd_ne ne).trans upd_same, upd_same, ?_, by simp [lg]⟩
      refine List.Perm.trans ?_ pm
      rw [List.append_assoc]
      exact (erase_perm lv).append_left got
    · obtain ⟨G2, rest, got, hs, t2, g1, g2, pm, lg⟩ := h.o
      have er : rest = [] := List.length_eq_zero_iff.mp (by
        have := pm.length_eq
        rw [List.length_append] at this
        omega)
      rw [er, List.append_nil] at pm
      walk_at "sq go"
      exact q Dl got G2 H4 gDl t2 g2 pm (SepB.mono hs (by omega))
abbrev s_law_due_runs : Stmt := topS 19
theorem sc_law_due_runs : FnScope ["row", "found", "one", "longer", "run", "rest"] ["row"] (defScope s_law_due_runs) := ⟨rfl, rfl, rfl, by decide +kernel, rfl, by decide +kernel, by decide +kernel⟩

theorem orig_grow {k : Int} {r : List Int} (k2 : 2 ≤ k) (h : Two r) : (orig 1 r).length ≤ (orig 1 (k :: r)).length := by
  have pos : ∀ m ∈ orig 1 r, 1 ≤ m := fun m hm => ((sgl_orig h m).mp hm).1
  have e := flat_num k2 pos
  rw [← orig_cons] at e
  have : ∀ l : List Int, (∀ m ∈ l, 1 ≤ m) → (l.length : Int) ≤ need k l := by
    intro l
    induction l with
    | nil => intro _; simp [need]
    | cons x t ih =>
      intro hp
      have := ih fun j hj => hp j (List.mem_cons_of_mem _ hj)
      have := hp x (List.mem_cons_self ..)
      rw [need_cons, List.length_cons]
      split <;> omega
  have := this _ pos
  omega
theorem orig_drop {row : List Int} (h : Two row) : ∀ i, (orig 1 (row.drop i)).length ≤ (orig 1 row).length
  | 0 => Nat.le_refl _
  | i + 1 => by
    refine Nat.le_trans ?_ (orig_drop h i)
    by_cases c : i < row.length
    · rw [List.drop_eq_getElem_cons c]
      exact orig_grow (h _ (List.getElem_mem c)) fun k hk => h k (List.mem_of_mem_drop hk)
    · rw [List.drop_of_length_le (by omega), List.drop_of_length_le (by omega)]
      exact Nat.le_refl _
theorem befores_as {m k : Int} (hm : 1 ≤ m) : befores m k = (List.range ((if m < k - 1 then m else k - 1) + 1).toNat).map fun (t : Nat) => m * k - (0 + (t : Int)) * (k - 1) := by
  unfold befores
  congr 2
  split <;> omega
theorem prod_dropL {ns : List Int} (h : Two ns) (j : Nat) : prodL (ns.drop j) ≤ prodL ns := by
  have e := prodL_app (ns.take j) (ns.drop j)
  rw [List.take_append_drop] at e
  have p := prodL_pos (ns := ns.take j) fun k hk => h k (List.mem_of_mem_take hk)
  have q := prodL_pos (ns := ns.drop j) fun k hk => h k (List.mem_of_mem_drop hk)
  rw [e]
  have := Int.mul_le_mul_of_nonneg_right p (show 0 ≤ prodL (ns.drop j) by omega)
  omega
theorem drop_backL {ns : List Int} {i : Nat} {k : Int} (h : ns.reverse[i]? = some k) : ns.drop (ns.length - (i + 1)) = k :: ns.drop (ns.length - i) := by
  obtain ⟨hi, e⟩ := List.getElem?_eq_some_iff.mp h
  rw [List.length_reverse] at hi
  rw [List.getElem_reverse] at e
  have hj : ns.length - (i + 1) < ns.length := by omega
  rw [List.drop_eq_getElem_cons hj, show ns.length - (i + 1) + 1 = ns.length - i by omega]
  congr 1
  rw [← e]
  congr 1
  omega
theorem flat_takeL {f : Int → List Int} {os : List Int} {i : Nat} {m : Int} (h : os[i]? = some m) : (os.take (i + 1)).flatMap f = (os.take i).flatMap f ++ f m := by
  rw [List.take_add_one, h, List.flatMap_append]
  simp
theorem flat_leL (f : Int → List Int) (os : List Int) (i : Nat) : ((os.take i).flatMap f).length ≤ (os.flatMap f).length := by
  conv => rhs; rw [← List.take_append_drop i os, List.flatMap_append, List.length_append]
  omega
def spDueRuns (K : PySem.W.Frag) : Sp := fun vs H Q _ => ∃ (a : Addr) (row : List Int), vs = [.ref a] ∧ SqL K H a (iv row) ∧ Keep (Two row ∧ prodL row ≤ 2 ^ 40 ∧ (orig 1 row).length ≤ 3000) ∧ ∀ l p H', Same H H' → H l = none → p.Perm (orig 1 row) → p.Pairwise (· < ·) → H' l = some (.lst (iv p)) → Q (.ref l) H'
theorem cal_dueRuns (D : DefAt K mg "_law_due_runs" s_law_due_runs ["row"]) (B : Bt mg) : Cal P w K mg base 1 "_law_due_runs" (spDueRuns K) [] := by
  refine D.cal sc_law_due_runs (fun vs H Q E h => ?_) (fun f cdv A outer s H vs Q E hr h => ?_)
  · obtain ⟨a, row, rfl, _⟩ := h
    rfl
  · obtain ⟨a, row, rfl, hA, ⟨two, pb, lb⟩, q⟩ := h
    refine ⟨_, (pss_cons (ps_set (i := 1) sc_law_due_runs.nd rfl (Or.inl rfl) (pe_lst (pa_cons pe_int pa_nil)))
  (pss_cons (ps_for PassesOwn.never rfl (pi_listK (K := K) (pe_revLK (K := K) (pv 0))) (pg_name (i := 2) sc_law_due_runs.nd rfl (Or.inr rfl))
   (pss_cons (ps_set (i := 3) sc_law_due_runs.nd rfl (Or.inl rfl) (pe_lst pa_nil))
  (pss_cons (ps_for PassesOwn.never rfl (pi_listK (K := K) (pv 1)) (pg_name (i := 4) sc_law_due_runs.nd rfl (Or.inr rfl))
   (pss_one (ps_expr (pe_bm PySem.F.plainAttrs_list PySem.F.slot_list_extend PySem.F.type_list_extend mt_extend (pv 3) (pa_cons (pe_lc (own := [("rest", 5)]) (g := gName 5) (by rfl) sc_law_due_runs.nd (pi_range1 (by rfl) B.range (pa_cons (pe_op op_add (pe_callB (call_min2 rfl) (by rfl) B.min (by decide +kernel) (pa_cons (pe_op op_sub (pv 2) pe_int) (pa_cons (pv 4) pa_nil))) pe_int) pa_nil)) (blkOk_by (own := [("rest", 5)]) (N := ["row", "found", "one", "longer", "run", "rest"]) (sc := defScope s_law_due_runs) (by decide +kernel)) (fun _ _ _ _ _ => (pg_name (i := 5) sc_law_due_runs.nd rfl (Or.inl rfl))) (fun _ _ _ _ _ => pts_nil) (fun _ _ _ _ _ => (pe_op op_sub (pe_op op_mulW (pv 4) (pv 2)) (pe_op op_mulW (pv 5) (pe_op op_sub (pv 2) pe_int))))) pa_nil)))))
  (pss_one (ps_set (i := 1) sc_law_due_runs.nd rfl (Or.inl rfl) (pv 3))))))
  (pss_one (ps_ret (pe_callB (cr_sortedIK (K := K)) (by rfl) B.sorted (by decide +kernel) (pa_cons (pv 1) pa_nil)))))), ?_⟩
    walk_at "sq go"
    intro f1 nf1
    have s1 := same_new (o := .lst [.int 1]) nf1
    have hA1 := s1.seq hA
    walk_at "sq go"
    intro r1 nr1
    have er : (iv row).reverse = iv row.reverse := (List.map_reverse ..).symm
    rw [er]
    have s2 := s1.trans (same_new (o := .lst (iv row.reverse)) nr1)
    have hr1 : SqL K (upd (upd H f1 (.lst [.int 1])) r1 (.lst (iv row.reverse))) r1 (iv row.reverse) := seqL_of upd_same
    have hf1 := upd_keep (o := .lst (iv row.reverse)) nr1 (upd_same (H := H) (a := f1) (o := .lst [.int 1]))
    generalize upd (upd H f1 (.lst [.int 1])) r1 (.lst (iv row.reverse)) = H1 at *
    walk_at "sq go"
    refine for_list (K := K) (a := r1) (xs := iv row.reverse) (fun i σ H' => Keep (∃ fa x2 x3 x4 x5, σ = [some (.ref a), some (.ref fa), x2, x3, x4, x5] ∧ Same H1 H' ∧ H' fa = some (.lst (iv (orig 1 (row.drop (row.length - i))))))) ?_ (fun i σ H' _ h => ?_) (fun i x σ H' hx h => ?_) (fun σ H' h => ?_)
    · refine ⟨f1, none, none, none, none, rfl, .refl _, ?_⟩
      rw [hf1, Nat.sub_zero, List.drop_length]
      rfl
    · obtain ⟨fa, x2, x3, x4, x5, _, s3, _⟩ := h.o
      exact s3.seq hr1
    · obtain ⟨fa, x2, x3, x4, x5, rfl, s3, hfa⟩ := h.o
      obtain ⟨k, hk, rfl⟩ := iv_get hx
      have mk : k ∈ row := List.mem_reverse.mp (List.mem_of_getElem? hk)
      have k2 := two k mk
      have kp := mem_le_prod two k mk
      have ek := drop_backL hk
      have twd : Two (row.drop (row.length - i)) := fun j hj => two j (List.mem_of_mem_drop hj)
      have pd := prod_dropL two (row.length - i)
      have lo1 := orig_drop two (row.length - (i + 1))
      rw [ek, orig_cons] at lo1
      have bo : ∀ m ∈ orig 1 (row.drop (row.length - i)), 1 ≤ m ∧ m ≤ 2 ^ 40 := fun m hm => by
        have h1 := (sgl_orig twd m).mp hm
        have h2 := (sgl_top twd (sgl_orig twd)).2 m hm
        omega
      rw [ek, orig_cons]
      generalize orig 1 (row.drop (row.length - i)) = os at *
      walk_at "sq go"
      intro lo nlo
      have nloH := s3.free nlo
      walk_at "sq go"
      refine for_list (K := K) (a := fa) (xs := iv os) (fun j σ H2 => Keep (∃ x4 x5, σ = [some (.ref a), some (.ref fa), some (.int k), some (.ref lo), x4, x5] ∧ Same H' H2 ∧ H2 lo = some (.lst (iv ((os.take j).flatMap fun m => befores m k))))) ⟨_, _, rfl, same_new nlo, upd_same⟩ (fun j σ H2 _ h => ?_) (fun j x σ H2 hx2 h => ?_) (fun σ H2 h => ?_)
      · obtain ⟨_, _, _, s4, _⟩ := h.o
        exact seqL_of (s4 _ _ hfa)
      · obtain ⟨x4, x5, rfl, s4, hlo⟩ := h.o
        obtain ⟨m, hm, rfl⟩ := iv_get hx2
        obtain ⟨m1, m40⟩ := bo m (List.mem_of_getElem? hm)
        have e1 := flat_takeL (f := fun m => befores m k) hm
        have e2 := flat_leL (fun m => befores m k) os (j + 1)
        have eb := befores_as (k := k) m1
        have lbm : ((if m < k - 1 then m else k - 1) + 1).toNat ≤ 3000 := by
          have h1 : (befores m k).length = ((if m < k - 1 then m else k - 1) + 1).toNat := by rw [eb, List.length_map, List.length_range]
          rw [e1, List.length_append] at e2
          omega
        walk_at "sq go"
        intro Dl nDl
        refine lc_range (lo := 0) (n := ((if m < k - 1 then m else k - 1) + 1).toNat) (fun t H3 => Keep (Same H2 H3 ∧ H3 Dl = some (.lst (iv ((List.range t).map fun (t : Nat) => m * k - (0 + (t : Int)) * (k - 1)))))) ⟨same_new nDl, upd_same⟩ (fun t H3 ht h => ?_) (fun H3 h => ?_)
        · obtain ⟨s5, hD⟩ := h.o
          have wm1 : CMulW m k := Sm.wide (a := 50) (b := 50) (by unfold Sm; omega) (by unfold Sm; omega) (by decide) (by decide) (by decide)
          have wm2 : CMulW (0 + (t : Int)) (k - 1) := Sm.wide (a := 50) (b := 50) (by unfold Sm; split at ht <;> omega) (by unfold Sm; omega) (by decide) (by decide) (by decide)
          have lz : (iv ((List.range t).map fun (t : Nat) => m * k - (0 + (t : Int)) * (k - 1))).length < sizeLine := by
            rw [iv_len, List.length_map, List.length_range, sizeLine_eq]
            omega
          walk_at "sq go"
          refine ⟨same_put s5 nDl, ?_⟩
          rw [upd_same, iv_app, List.range_succ, List.map_append]
          rfl
        · obtain ⟨s5, hD⟩ := h.o
          rw [← eb] at hD
          have hD2 := seqL_of (K := K) hD
          have hlo3 := s5 _ _ hlo
          have szE : (iv ((os.take j).flatMap fun m => befores m k)).length + (iv (befores m k)).length ≤ sizeLine := by
            rw [iv_len, iv_len, sizeLine_eq]
            rw [e1, List.length_append] at e2
            omega
          walk_at "sq go"
          refine ⟨_, _, rfl, same_put (s4.trans s5) nlo, ?_⟩
          rw [upd_same, ← List.map_append, ← e1]
      · obtain ⟨x4, x5, rfl, s4, hlo⟩ := h.o
        rw [iv_len, List.take_length] at hlo
        walk_at "sq go"
        exact ⟨_, _, _, _, _, rfl, s3.trans s4, hlo⟩
    · obtain ⟨fa, x2, x3, x4, x5, rfl, s3, hfa⟩ := h.o
      rw [iv_len, List.length_reverse, Nat.sub_self, List.drop_zero] at hfa
      have hfa2 := seqL_of (K := K) hfa
      walk_at "sq go"
      intro p l pm ap nl
      exact q l p _ (s2.trans (s3.trans (same_new nl))) (s2.free (s3.free nl)) pm (asc_of ap (pm.nodup_iff.mpr (orig_nodup two))) upd_same

/-! ### great lists -/
abbrev s_law_great_right : Stmt := topS 18
theorem sc_law_great_right : FnScope ["source", "row", "top", "some", "time", "one", "run", "many", "longer", "at", "few", "told", "rest"] ["source"] (defScope s_law_great_right) := ⟨rfl, rfl, rfl, by decide +kernel, rfl, by decide +kernel, by decide +kernel⟩

def spGreat (K : PySem.W.Frag) : Sp := fun vs H Q _ => ∃ (r d : Addr) (N : Int) (G : Hp), vs = [.ref r] ∧ Sep (rgB r d N) G H ∧ Keep (0 ≤ N ∧ N < 2 ^ 58) ∧ ∀ H', Sep (rgB r d (N + 20)) G H' → Q (.bl true) H'
theorem pick3 {a b c : Int} {w : Int} {P : Int → Prop} (h0 : 0 ≤ w) (h1 : w < 3) (pa : P a) (pb : P b) (pc : P c) : ∃ v, atI [V.int a, .int b, .int c] w = some (.int v) ∧ P v := by
  rcases (show w = 0 ∨ w = 1 ∨ w = 2 by omega) with z | z | z <;> rw [z]
  · exact ⟨a, atI_nat (j := 0) rfl, pa⟩
  · exact ⟨b, atI_nat (j := 1) rfl, pb⟩
  · exact ⟨c, atI_nat (j := 2) rfl, pc⟩
theorem Sep.boxL {R : Rg} {G H : Hp} {p : Addr} (s : Sep R G H) (h : H p = none) (o : HO) : ∃ G2 H2, upd H p o = H2 ∧ Same G G2 ∧ Same H H2 ∧ H2 p = some o ∧ Sep R G2 H2 := ⟨_, _, rfl, same_new (s.free h), same_new h, upd_same, s.new h o⟩
/-- runs that are near to others, but not these -/
structure Near (S fs : List Int) : Prop where
  asc : fs.Nodup → fs.Pairwise (· < ·)
  bnd : ∀ k ∈ fs, 1 ≤ k ∧ k ≤ 10 ^ 6 + 1
  len : fs.length ≤ 2000
  not : ¬ ∀ x, x ∈ fs ↔ x ∈ S
theorem near_two {S : List Int} (h : S.Pairwise (· < ·)) (hb : ∀ k ∈ S, 1 ≤ k ∧ k ≤ 10 ^ 6) (hl : S.length ≤ 2000) {v : Nat} (lv : v < S.length) : Near S (S.take v ++ S.drop (v + 1)) ∧ Near S (S.take v ++ [S[v] + 1] ++ S.drop (v + 1)) := by
  have e : S = S.take v ++ S[v] :: S.drop (v + 1) := by
    rw [← List.drop_eq_getElem_cons lv, List.take_append_drop]
  have h2 := h
  rw [e] at h2
  obtain ⟨p1, p2, p3⟩ := List.pairwise_append.mp h2
  obtain ⟨p4, p5⟩ := List.pairwise_cons.mp p2
  have ms : S[v] ∈ S := List.getElem_mem lv
  have mt : ∀ k ∈ S.take v, k ∈ S ∧ k < S[v] := fun k hk => ⟨List.mem_of_mem_take hk, p3 k hk _ (List.mem_cons_self ..)⟩
  have md : ∀ k ∈ S.drop (v + 1), k ∈ S ∧ S[v] < k := fun k hk => ⟨List.mem_of_mem_drop hk, p4 k hk⟩
  have sv := hb _ ms
  have lt : (S.take v).length + (S.drop (v + 1)).length + 1 = S.length := by
    rw [List.length_take, List.length_drop]
    omega
  refine ⟨⟨fun _ => List.pairwise_append.mpr ⟨p1, p5, fun a ha b hb => by
    have := (mt a ha).2
    have := (md b hb).2
    omega⟩, fun k hk => ?_, by rw [List.length_append]; omega, fun z => ?_⟩, ⟨fun nd => ?_, fun k hk => ?_, by rw [List.length_append, List.length_append, List.length_singleton]; omega, fun z => ?_⟩⟩
  · rcases List.mem_append.mp hk with y | y
    · have := hb k (mt k y).1
      omega
    · have := hb k (md k y).1
      omega
  · rcases List.mem_append.mp ((z _).mpr ms) with y | y
    · have := (mt _ y).2
      omega
    · have := (md _ y).2
      omega
  · rw [List.append_assoc] at nd ⊢
    obtain ⟨_, n2, _⟩ := List.nodup_append.mp nd
    have n3 := (List.nodup_cons.mp n2).1
    refine List.pairwise_append.mpr ⟨p1, List.pairwise_cons.mpr ⟨fun b hb => ?_, p5⟩, fun a ha b hb => ?_⟩
    · have := (md b hb).2
      rcases (show S[v] + 1 < b ∨ S[v] + 1 = b by omega) with y | y
      · exact y
      · rw [y] at n3
        exact absurd hb n3
    · have := (mt a ha).2
      rcases List.mem_cons.mp hb with y | y
      · omega
      · have := (md b y).2
        omega
  · rcases List.mem_append.mp hk with y | y
    · rcases List.mem_append.mp y with y | y
      · have := hb k (mt k y).1
        omega
      · rw [List.mem_singleton.mp y]
        omega
    · have := hb k (md k y).1
      omega
  · rcases List.mem_append.mp ((z _).mpr ms) with y | y
    · rcases List.mem_append.mp y with y | y
      · have := (mt _ y).2
        omega
      · have := List.mem_singleton.mp y
        omega
    · have := (md _ y).2
      omega
theorem cal_great (D : DefAt K mg "_law_great_right" s_law_great_right ["source"]) (B : Bt mg) (c_law_draw : Cal P w K mg base 1 "_law_draw" spDraw []) (c_list_of : Cal P w K mg base 2 "list_of" (spListOf K) []) (c_law_same : Cal P w K mg base 4 "_law_same" (spSame K 2) []) (c_law_due_runs : Cal P w K mg base 1 "_law_due_runs" (spDueRuns K) []) :
    Cal P w K mg base 5 "_law_great_right" (spGreat K) [] := by
  refine D.cal sc_law_great_right (fun vs H Q E h => ?_) (fun f cdv A outer s H vs Q E hr h => ?_)
  · obtain ⟨r, d, N, G, rfl, _⟩ := h
    rfl
  · obtain ⟨r, d, N, G, rfl, hS, ⟨n0, nb⟩, q⟩ := h
    refine ⟨_, (pss_cons (ps_par3 (i := 1) (j := 2) (l := 3) rfl sc_law_great_right.nd rfl rfl rfl (by decide) (by decide) (by decide) rfl rfl rfl (pa_cons (pe_lst pa_nil) (pa_cons pe_int (pa_cons (pe_lst (pa_cons pe_int pa_nil)) pa_nil))) (by rfl))
  (pss_cons (ps_for PassesOwn.never rfl (pi_range1 (by rfl) B.range (pa_cons (pe_op op_add pe_int (pe_c c_law_draw hr (by first | decide | omega) (by rfl) (pa_cons (pv 0) (pa_cons pe_int pa_nil)))) pa_nil)) (pg_name (i := 4) sc_law_great_right.nd rfl (Or.inl rfl))
   (pss_cons (ps_set (i := 5) sc_law_great_right.nd rfl (Or.inr rfl) (pe_op op_add pe_int (pe_c c_law_draw hr (by first | decide | omega) (by rfl) (pa_cons (pv 0) (pa_cons (pe_ix (ix_listK (K := K)) (pe_lst (pa_cons pe_int (pa_cons pe_int (pa_cons (pe_op op_sub (pe_op op_powW pe_int pe_int) pe_int) pa_nil)))) (pe_c c_law_draw hr (by first | decide | omega) (by rfl) (pa_cons (pv 0) (pa_cons pe_int pa_nil))) (fun _ _ => rfl)) pa_nil)))))
  (pss_cons (ps_set (i := 7) sc_law_great_right.nd rfl (Or.inl rfl) (pe_callB (cr_sumK (K := K) rfl) (by rfl) B.sum (by decide +kernel) (pa_cons (pe_lc (own := [("run", 6)]) (g := gName 6) (by rfl) sc_law_great_right.nd (pi_listK (K := K) (pv 3)) (blkOk_by (own := [("run", 6)]) (N := ["source", "row", "top", "some", "time", "one", "run", "many", "longer", "at", "few", "told", "rest"]) (sc := defScope s_law_great_right) (by decide +kernel)) (fun _ _ _ _ _ => (pg_name (i := 6) sc_law_great_right.nd rfl (Or.inl rfl))) (fun _ _ _ _ _ => pts_nil) (fun _ _ _ _ _ => (pe_op op_add (pe_callB (call_min2 rfl) (by rfl) B.min (by decide +kernel) (pa_cons (pe_op op_sub (pv 5) pe_int) (pa_cons (pv 6) pa_nil))) pe_int))) pa_nil)))
  (pss_one (ps_if (PW.pt (pw_and (pt_cmpR op_le (pe_op op_mulW (pv 2) (pv 5)) (pe_op op_powW pe_int pe_int) (nomark _)) (pw_and1 (pt_cmpR op_le (pv 7) pe_int (nomark _))))) (pss_cons (ps_set (i := 8) sc_law_great_right.nd rfl (Or.inl rfl) (pe_lst pa_nil))
  (pss_cons (ps_for PassesOwn.never rfl (pi_listK (K := K) (pv 3)) (pg_name (i := 6) sc_law_great_right.nd rfl (Or.inr rfl))
   (pss_one (ps_expr (pe_bm PySem.F.plainAttrs_list PySem.F.slot_list_extend PySem.F.type_list_extend mt_extend (pv 8) (pa_cons (pe_lc (own := [("rest", 12)]) (g := gName 12) (by rfl) sc_law_great_right.nd (pi_range1 (by rfl) B.range (pa_cons (pe_op op_add (pe_callB (call_min2 rfl) (by rfl) B.min (by decide +kernel) (pa_cons (pe_op op_sub (pv 5) pe_int) (pa_cons (pv 6) pa_nil))) pe_int) pa_nil)) (blkOk_by (own := [("rest", 12)]) (N := ["source", "row", "top", "some", "time", "one", "run", "many", "longer", "at", "few", "told", "rest"]) (sc := defScope s_law_great_right) (by decide +kernel)) (fun _ _ _ _ _ => (pg_name (i := 12) sc_law_great_right.nd rfl (Or.inl rfl))) (fun _ _ _ _ _ => pts_nil) (fun _ _ _ _ _ => (pe_op op_sub (pe_op op_mulW (pv 6) (pv 5)) (pe_op op_mulW (pv 12) (pe_op op_sub (pv 5) pe_int))))) pa_nil)))))
  (pss_one (ps_par3 (i := 1) (j := 2) (l := 3) rfl sc_law_great_right.nd rfl rfl rfl (by decide) (by decide) (by decide) rfl rfl rfl (pa_cons (pe_op op_cat (pe_lst (pa_cons (pv 5) pa_nil)) (pv 1)) (pa_cons (pe_op op_mulW (pv 2) (pv 5)) (pa_cons (pv 8) pa_nil))) (by rfl))))) pss_nil)))))
  (pss_cons (ps_set (i := 3) sc_law_great_right.nd rfl (Or.inl rfl) (pe_callB (cr_sortedIK (K := K)) (by rfl) B.sorted (by decide +kernel) (pa_cons (pv 3) pa_nil)))
  (pss_cons (ps_if (pt_not (pt_val (pe_c c_law_same hr (by first | decide | omega) (by rfl) (pa_cons (pe_c c_list_of hr (by first | decide | omega) (by rfl) (pa_cons (pe_revLK (K := K) (pv 3)) pa_nil)) (pa_cons (pv 1) pa_nil))))) (pss_one (ps_ret pe_bl)) pss_nil)
  (pss_cons (ps_set (i := 9) sc_law_great_right.nd rfl (Or.inl rfl) (pe_c c_law_draw hr (by first | decide | omega) (by rfl) (pa_cons (pv 0) (pa_cons (pe_callB (len_seqK (K := K)) (by rfl) B.len boot_len (pa_cons (pv 3) pa_nil)) pa_nil))))
  (pss_cons (ps_for PassesOwn.never rfl (pi_listK (K := K) (pe_lst (pa_cons (pe_op op_cat (pe_slice (sl_listK (K := K)) (pv 3) po_none (po_some (pv 9))) (pe_slice (sl_listK (K := K)) (pv 3) (po_some (pe_op op_add (pv 9) pe_int)) po_none)) (pa_cons (pe_op op_cat (pe_op op_cat (pe_slice (sl_listK (K := K)) (pv 3) po_none (po_some (pv 9))) (pe_lst (pa_cons (pe_op op_add (pe_ix (ix_listK (K := K)) (pv 3) (pv 9) (fun _ _ => rfl)) pe_int) pa_nil))) (pe_slice (sl_listK (K := K)) (pv 3) (po_some (pe_op op_add (pv 9) pe_int)) po_none)) pa_nil)))) (pg_name (i := 10) sc_law_great_right.nd rfl (Or.inl rfl))
   (pss_one (ps_if (PW.pt (pw_and (pt_cmpR op_eq (pe_lenInts (K := K) (by rfl) B.len (by rfl) B.set (pv 10)) (pe_callB (len_seqK (K := K)) (by rfl) B.len boot_len (pa_cons (pv 10) pa_nil)) (nomark _)) (pw_and1 (pt_cmpR op_le (pe_callB (cr_maxK (K := K) rfl) (by rfl) B.max (by decide +kernel) (pa_cons (pe_op op_cat (pv 10) (pe_lst (pa_cons pe_int pa_nil))) pa_nil)) (pe_op op_powW pe_int pe_int) (nomark _))))) (pss_cons (ps_set (i := 11) sc_law_great_right.nd rfl (Or.inl rfl) (pe_c c_list_of hr (by first | decide | omega) (by rfl) (pa_cons (pv 10) pa_nil)))
  (pss_cons (ps_if (PW.pt (pw_and (pt_cmpR op_notN (pv 11) pe_non (nomark _)) (pw_and1 (PW.pt (pw_or (pt_cmpR (op_eqDK (K := K) hr.units) (pv 11) (pv 1) (nomark _)) (pw_or1 (pt_cmpR op_ne (pe_callB (len_seqK (K := K)) (by rfl) B.len boot_len (pa_cons (pe_c c_law_due_runs hr (by first | decide | omega) (by rfl) (pa_cons (pv 11) pa_nil)) pa_nil)) (pe_callB (len_seqK (K := K)) (by rfl) B.len boot_len (pa_cons (pv 10) pa_nil)) (nomark _)))))))) (pss_one (ps_ret pe_bl)) pss_nil)
  (pss_one (ps_if (PW.pt (pw_and (pt_cmpR op_notN (pv 11) pe_non (nomark _)) (pw_and1 (pt_cmpR (op_neDK (K := K) hr.units) (pe_c c_law_due_runs hr (by first | decide | omega) (by rfl) (pa_cons (pv 11) pa_nil)) (pv 10) (nomark _))))) (pss_one (ps_ret pe_bl)) pss_nil)))) pss_nil)))
  (pss_one (ps_ret pe_bl)))))))), ?_⟩
    walk_at "sq go"
    intro ra nra
    have gra := hS.free nra
    have hS1 := hS.new nra (.lst [])
    have t1 := same_new (o := .lst []) gra
    walk_at "sq go"
    intro sa nsa
    have gsa1 := hS1.free nsa
    have hS2 := hS1.new nsa (.lst [.int 1])
    have t2 := t1.trans (same_new (o := .lst [.int 1]) gsa1)
    walk_at "sq go"
    refine ⟨⟨by omega, by omega, by omega⟩, fun tn H1 v0 v1 hS3 => ?_⟩
    walk_at "sq go"
    refine for_range (lo := 0) (n := (1 + tn).toNat) (fun i σ H' => Keep (∃ R ra sa G2 x4 x5 x6 x7 x8 x9 x10 x11 x12, σ = [some (.ref r), some (.ref ra), some (.int (prodL R)), some (.ref sa), x4, x5, x6, x7, x8, x9, x10, x11, x12] ∧ Sep (rgB r d (N + 1 + 2 * i)) G2 H' ∧ Same G G2 ∧ G2 ra = some (.lst (iv R)) ∧ G2 sa = some (.lst (iv (orig 1 R))) ∧ Two R ∧ prodL R ≤ 10 ^ 6 ∧ (orig 1 R).length ≤ 2000 ∧ i ≤ 3))
      ⟨[], ra, sa, _, none, none, none, none, none, none, none, none, none, rfl, SepB.mono hS3 (by omega), t2, upd_keep gsa1 upd_same, upd_same, (fun k hk => nomatch hk), by decide, by decide, by omega⟩ (fun i σ H' hi h => ?_) (fun σ H' h => ?_)
    · obtain ⟨R, ra, sa, G2, x4, x5, x6, x7, x8, x9, x10, x11, x12, rfl, hs, t3, gra, gsa, two, pb, lb, i3⟩ := h.o
      have i4 : i + 1 ≤ 3 := by omega
      walk_at "sq go"
      intro e ne
      have hs1 := hs.new ne (.lst [.int 40, .int 1500, .int (10 ^ (6 : Int).toNat - 1)])
      walk_at "sq go"
      refine ⟨⟨by decide, by decide, by omega⟩, fun y H2 y0 y1 hs2 => ?_⟩
      have he2 : H2 e = some (.lst [.int 40, .int 1500, .int (10 ^ (6 : Int).toNat - 1)]) := hs2.get upd_same
      obtain ⟨wide, eg, g2, g6⟩ := pick3 (a := 40) (b := 1500) (c := 10 ^ (6 : Int).toNat - 1) (P := fun v => 40 ≤ v ∧ v ≤ 999999) y0 y1 ⟨by decide, by decide⟩ ⟨by decide, by decide⟩ ⟨by decide, by decide⟩
      have hs3 := hs2.weak (same_new (o := .lst [.int 40, .int 1500, .int (10 ^ (6 : Int).toNat - 1)]) (hs.free ne))
      walk_at "sq go"
      refine ⟨⟨by omega, by omega, by omega⟩, fun k0 H3 k00 k01 hs4 => ?_⟩
      have k2 : 2 ≤ 2 + k0 := by omega
      have k6 : 2 + k0 ≤ 10 ^ 6 + 1 := by omega
      obtain ⟨k, ek⟩ : ∃ k, 2 + k0 = k := ⟨_, rfl⟩
      rw [ek] at k2 k6
      have hsa3 := seqL_of (K := K) (hs4.get gsa)
      have pos : ∀ m ∈ orig 1 R, 1 ≤ m ∧ m ≤ 10 ^ 6 := fun m hm => by
        have h1 := (sgl_orig two m).mp hm
        have h2 := (sgl_top two (sgl_orig two)).2 m hm
        omega
      walk_at "sq go"
      intro Dl nDl
      refine lc_list (K := K) (a := sa) (xs := iv (orig 1 R)) (fun m H4 => Keep (Same H3 H4 ∧ H4 Dl = some (.lst (iv (((orig 1 R).take m).map fun l => if l + 1 < k then l + 1 else k))))) ⟨same_new nDl, upd_same⟩ (fun m H4 _ h => ?_) (fun m v H4 hv h => ?_) (fun H4 h => ?_)
      · obtain ⟨s5, _⟩ := h.o
        exact s5.seq hsa3
      · obtain ⟨s5, hD⟩ := h.o
        obtain ⟨l, hl, rfl⟩ := iv_get hv
        have lz : (iv (((orig 1 R).take m).map fun l => if l + 1 < k then l + 1 else k)).length < sizeLine := by
          rw [iv_len, List.length_map, List.length_take, sizeLine_eq]
          omega
        walk_at "sq go"
        refine ⟨same_put s5 nDl, ?_⟩
        rw [upd_same, iv_app, List.take_add_one, hl, List.map_append]
        show some (HO.lst (iv (_ ++ [(if l < 2 + k0 - 1 then l else 2 + k0 - 1) + 1]))) = some (HO.lst (iv (_ ++ [if l + 1 < k then l + 1 else k])))
        congr 5
        split <;> split <;> omega
      · obtain ⟨s5, hD⟩ := h.o
        rw [iv_len, List.take_length] at hD
        have hs5 := hs4.on s5
        have wm : CMulW (prodL R) (2 + k0) := Sm.wide (a := 30) (b := 30) (by have := prodL_pos two; unfold Sm; omega) (by unfold Sm; omega) (by decide) (by decide) (by decide)
        have en : (((orig 1 R).map fun l => if l + 1 < k then l + 1 else k)).sum = ((orig 1 (k :: R)).length : Int) := by
          rw [orig_cons, flat_num k2 fun m hm => (pos m hm).1]
          rfl
        have hD2 := seqL_of (K := K) hD
        walk_at "sq go"
        rw [en]
        refine ifD (fun c1' => ?_) (fun c1 => ?_)
        · walk_at "sq go"
          refine ifD (fun c2 => ?_) (fun c2 => ?_)
          · have eo : orig 1 (k :: R) = (orig 1 R).flatMap fun m => befores m k := orig_cons _ _ _
            rw [eo] at c2
            subst ek
            have hsa5 := hs5.get gsa
            walk_at "sq go"
            intro lo nlo
            have glo := hs5.free nlo
            walk_at "sq go"
            refine for_list (K := K) (a := sa) (xs := iv (orig 1 R)) (fun j σ H5 => Keep (∃ x6, σ = [some (.ref r), some (.ref ra), some (.int (prodL R)), some (.ref sa), some (.int (0 + (i : Nat))), some (.int (2 + k0)), x6, some (.int ((((orig 1 R).flatMap fun m => befores m (2 + k0)).length : Nat) : Int)), some (.ref lo), x9, x10, x11, x12] ∧ Same H4 H5 ∧ H5 lo = some (.lst (iv (((orig 1 R).take j).flatMap fun m => befores m (2 + k0)))))) ⟨_, rfl, same_new nlo, upd_same⟩ (fun j σ H5 _ h => ?_) (fun j x σ H5 hx2 h => ?_) (fun σ H5 h => ?_)
            · obtain ⟨_, _, s6, _⟩ := h.o
              exact seqL_of (s6 _ _ hsa5)
            · obtain ⟨x6, rfl, s6, hlo⟩ := h.o
              obtain ⟨m, hm, rfl⟩ := iv_get hx2
              obtain ⟨m1, m6⟩ := pos m (List.mem_of_getElem? hm)
              have e1 := flat_takeL (f := fun m => befores m (2 + k0)) hm
              have e2 := flat_leL (fun m => befores m (2 + k0)) (orig 1 R) (j + 1)
              have eb := befores_as (k := 2 + k0) m1
              have lbm : ((if m < 2 + k0 - 1 then m else 2 + k0 - 1) + 1).toNat ≤ 3000 := by
                have h1 : (befores m (2 + k0)).length = ((if m < 2 + k0 - 1 then m else 2 + k0 - 1) + 1).toNat := by rw [eb, List.length_map, List.length_range]
                rw [e1, List.length_append] at e2
                omega
              walk_at "sq go"
              intro D2 nD2
              refine lc_range (lo := 0) (n := ((if m < 2 + k0 - 1 then m else 2 + k0 - 1) + 1).toNat) (fun t H6 => Keep (Same H5 H6 ∧ H6 D2 = some (.lst (iv ((List.range t).map fun (t : Nat) => m * (2 + k0) - (0 + (t : Int)) * (2 + k0 - 1)))))) ⟨same_new nD2, upd_same⟩ (fun t H6 ht h => ?_) (fun H6 h => ?_)
              · obtain ⟨s7, hD6⟩ := h.o
                have wm1 : CMulW m (2 + k0) := Sm.wide (a := 50) (b := 50) (by unfold Sm; omega) (by unfold Sm; omega) (by decide) (by decide) (by decide)
                have wm2 : CMulW (0 + (t : Int)) (2 + k0 - 1) := Sm.wide (a := 50) (b := 50) (by unfold Sm; omega) (by unfold Sm; omega) (by decide) (by decide) (by decide)
                have lz : (iv ((List.range t).map fun (t : Nat) => m * (2 + k0) - (0 + (t : Int)) * (2 + k0 - 1))).length < sizeLine := by
                  rw [iv_len, List.length_map, List.length_range, sizeLine_eq]
                  omega
                walk_at "sq go"
                refine ⟨same_put s7 nD2, ?_⟩
                rw [upd_same, iv_app, List.range_succ, List.map_append]
                rfl
              · obtain ⟨s7, hD6⟩ := h.o
                rw [← eb] at hD6
                have hD6q := seqL_of (K := K) hD6
                have hlo6 := s7 _ _ hlo
                have szE : (iv (((orig 1 R).take j).flatMap fun m => befores m (2 + k0))).length + (iv (befores m (2 + k0))).length ≤ sizeLine := by
                  rw [iv_len, iv_len, sizeLine_eq]
                  rw [e1, List.length_append] at e2
                  omega
                walk_at "sq go"
                refine ⟨_, rfl, same_put (s6.trans s7) nlo, ?_⟩
                rw [upd_same, ← List.map_append, ← e1]
            · obtain ⟨x6, rfl, s6, hlo⟩ := h.o
              rw [iv_len, List.take_length, ← eo] at hlo
              have hs6 := hs5.on s6
              obtain ⟨G4, gs4, hs7, eG⟩ := hs6.full
              have hra6 := hs6.get gra
              have twoK : Two ((2 + k0) :: R) := fun j hj => by
                rcases List.mem_cons.mp hj with z | z
                · omega
                · exact two j z
              have lR := len_prod two
              have szR : [V.int (2 + k0)].length + (iv R).length ≤ sizeLine := by
                rw [iv_len, sizeLine_eq]
                simp
                omega
              walk_at "sq go"
              intro e1 ne1
              have hra7 := upd_keep (o := .lst [.int (2 + k0)]) ne1 hra6
              have he7 : upd H5 e1 (.lst [.int (2 + k0)]) e1 = some (.lst [.int (2 + k0)]) := upd_same
              walk_at "sq go"
              intro c1 nc1
              have hs8 := (hs7.new ne1 (.lst [.int (2 + k0)])).new nc1 (.lst ([V.int (2 + k0)] ++ iv R))
              have t4 := t3.trans (gs4.trans ((same_new (o := .lst [.int (2 + k0)]) (hs7.free ne1)).trans (same_new (o := .lst ([V.int (2 + k0)] ++ iv R)) ((hs7.new ne1 (.lst [.int (2 + k0)])).free nc1))))
              have glo4 : G4 lo = some (.lst (iv (orig 1 ((2 + k0) :: R)))) := (eG lo (hs5.srcN nlo)).trans hlo
              have glo5 := upd_keep (o := .lst ([V.int (2 + k0)] ++ iv R)) ((hs7.new ne1 (.lst [.int (2 + k0)])).free nc1) (upd_keep (o := .lst [.int (2 + k0)]) (hs7.free ne1) glo4)
              have ep : prodL R * (2 + k0) = prodL ((2 + k0) :: R) := by rw [prodL_cons, Int.mul_comm]
              walk_at "sq go"
              refine ⟨(2 + k0) :: R, c1, lo, _, _, _, _, _, _, _, _, _, _, by rw [← ep]; rfl, SepB.mono hs8 (by omega), t4, upd_same, glo5, twoK, by rw [← ep]; exact c1', by rw [eo]; omega, i4⟩
          · exact ⟨R, ra, sa, G2, _, _, _, _, _, _, _, _, _, rfl, SepB.mono hs5 (by omega), t3, gra, gsa, two, pb, lb, i4⟩
        · exact ⟨R, ra, sa, G2, _, _, _, _, _, _, _, _, _, rfl, SepB.mono hs5 (by omega), t3, gra, gsa, two, pb, lb, i4⟩
    · obtain ⟨R, ra, sa, G2, x4, x5, x6, x7, x8, x9, x10, x11, x12, rfl, hs, t3, gra, gsa, two, pb, lb, i3⟩ := h.o
      have hsa := seqL_of (K := K) (hs.get gsa)
      walk_at "sq go"
      intro S l1 pm as1 nl1
      have as2 := asc_of as1 (pm.nodup_iff.mpr (orig_nodup two))
      have sgS : Sgl S R := fun x => by rw [pm.mem_iff]; exact sgl_orig two x
      have hs1 := hs.new nl1 (.lst (iv S))
      have gl1 := hs.free nl1
      have gra1 := upd_keep (o := .lst (iv S)) gl1 gra
      have hl1 : upd H' l1 (.lst (iv S)) l1 = some (.lst (iv S)) := upd_same
      have hl1q := seqL_of (K := K) hl1
      have posS : ∀ k ∈ S, 1 ≤ k ∧ k ≤ 10 ^ 6 := fun k hk => by
        have h1 := (sgS k).mp hk
        have h2 := (sgl_top two sgS).2 k hk
        omega
      have lS : S.length ≤ 2000 := by rw [pm.length_eq]; exact lb
      walk_at "sq go"
      intro l2 nl2
      have erv : (iv S).reverse = iv S.reverse := (List.map_reverse ..).symm
      rw [erv]
      have hs2 := hs1.new nl2 (.lst (iv S.reverse))
      have gl2 := hs1.free nl2
      have gra2 := upd_keep (o := .lst (iv S.reverse)) gl2 gra1
      have gS2 := upd_keep (o := .lst (iv S.reverse)) gl2 (upd_same (H := G2) (a := l1) (o := .lst (iv S)))
      have hl2 : SqL K (upd (upd H' l1 (.lst (iv S))) l2 (.lst (iv S.reverse))) l2 (iv S.reverse) := seqL_of upd_same
      have t4 := t3.trans ((same_new (o := .lst (iv S)) gl1).trans (same_new (o := .lst (iv S.reverse)) gl2))
      walk_at "sq go"
      have runs : Runs1 S.reverse := ⟨(List.reverse_perm S).nodup_iff.mpr (asc_nodup as2), fun k hk => by have := posS k (List.mem_reverse.mp hk); omega, by rw [List.length_reverse]; omega⟩
      have tell : ∀ p res, p.Perm S.reverse → p.Pairwise (· < ·) → Lof p res → res = some R := fun p res pq asc lf =>
        lof_full two (fun x => by rw [pq.mem_iff, List.mem_reverse]; exact sgS x) asc lf
      refine ⟨runs, fun p H5 pq asc lf _ => absurd (tell p none pq asc lf) (by simp), fun p row2 l5 H5 pq asc lf s7 nl5 hl5 => ?_⟩
      obtain rfl : row2 = R := Option.some.inj (tell p _ pq asc lf)
      have hs3 := hs2.on s7
      have hra3 := seqL_of (K := K) (hs3.get gra2)
      walk_at "sq go"
      refine ⟨⟨alike_ints (seqL_of hl5) hra3 (by have := len_prod two; omega) (by decide)⟩, fun H6 s8 => ?_⟩
      have hs4 := hs3.on s8
      have hS4 := hs4.get gS2
      have hS4q := seqL_of (K := K) hS4
      walk_at "sq go"
      have lSi : (iv S).length = S.length := iv_len _
      refine ⟨⟨?_, by omega, by omega⟩, fun at0 H7 z0 z1 hs5 => ?_⟩
      · have := List.length_pos_of_mem ((sgS 1).mpr ⟨by decide, sqz_1 two⟩)
        omega
      obtain ⟨vn, rfl⟩ := Int.eq_ofNat_of_zero_le z0
      have lv : vn < S.length := by omega
      have gS5 := hs5.get gS2
      have gS5q := seqL_of (K := K) gS5
      have et : ∀ k : Nat, cutV (iv S) none (some ((k : Nat) : Int)) = iv (S.take k) := fun k => by rw [cut_to, iv_take]
      have ed : cutV (iv S) (some (((vn : Nat) : Int) + 1)) none = iv (S.drop (vn + 1)) := by
        have z := cut_from (iv S) (vn + 1)
        rw [iv_drop] at z
        exact z
      have at_ : atI (iv S) ((vn : Nat) : Int) = some (.int S[vn]) := atI_nat (by rw [List.getElem?_map, List.getElem?_eq_getElem lv]; rfl)
      have lt1 : (S.take vn).length ≤ 2000 := by rw [List.length_take]; omega
      have ld1 : (S.drop (vn + 1)).length ≤ 2000 := by rw [List.length_drop]; omega
      walk_at "sq go"
      intro a1 na1
      rw [et]
      obtain ⟨G6, J1, eq1, tg1, u1, ga1, hs6⟩ := hs5.boxL na1 (.lst (iv (S.take vn)))
      rw [eq1]
      have gS6q := u1.seq gS5q
      walk_at "sq go"
      intro a2 na2
      rw [ed]
      obtain ⟨G7, J2, eq2, tg2, u2, ga2, hs7⟩ := hs6.boxL na2 (.lst (iv (S.drop (vn + 1))))
      rw [eq2]
      have ga1b := u2 _ _ ga1
      have gS7q := u2.seq gS6q
      have szA : (iv (S.take vn)).length + (iv (S.drop (vn + 1))).length ≤ sizeLine := by
        rw [iv_len, iv_len, sizeLine_eq]
        omega
      walk_at "sq go"
      intro A na3
      have eA : iv (S.take vn) ++ iv (S.drop (vn + 1)) = iv (S.take vn ++ S.drop (vn + 1)) := List.map_append.symm
      rw [eA]
      obtain ⟨G8, J3, eq3, tg3, u3, gA, hs8⟩ := hs7.boxL na3 (.lst (iv (S.take vn ++ S.drop (vn + 1))))
      rw [eq3]
      have gS8q := u3.seq gS7q
      walk_at "sq go"
      intro b1 nb1
      rw [et]
      obtain ⟨G9, J4, eq4, tg4, u4, gb1, hs9⟩ := hs8.boxL nb1 (.lst (iv (S.take vn)))
      rw [eq4]
      have gS9q := u4.seq gS8q
      walk_at "sq go"
      intro b2 nb2
      obtain ⟨G10, J5, eq5, tg5, u5, gb2, hs10⟩ := hs9.boxL nb2 (.lst [.int (S[vn] + 1)])
      rw [eq5]
      have gb1b := u5 _ _ gb1
      have gS10q := u5.seq gS9q
      have szB : (iv (S.take vn)).length + [V.int (S[vn] + 1)].length ≤ sizeLine := by
        rw [iv_len, sizeLine_eq]
        simp
        omega
      walk_at "sq go"
      intro b3 nb3
      rw [iv_app]
      obtain ⟨G11, J6, eq6, tg6, u6, gb3, hs11⟩ := hs10.boxL nb3 (.lst (iv (S.take vn ++ [S[vn] + 1])))
      rw [eq6]
      have gS11q := u6.seq gS10q
      walk_at "sq go"
      intro b4 nb4
      rw [ed]
      obtain ⟨G12, J7, eq7, tg7, u7, gb4, hs12⟩ := hs11.boxL nb4 (.lst (iv (S.drop (vn + 1))))
      rw [eq7]
      have gb3b := u7 _ _ gb3
      have szC : (iv (S.take vn ++ [S[vn] + 1])).length + (iv (S.drop (vn + 1))).length ≤ sizeLine := by
        rw [iv_len, iv_len, List.length_append, List.length_singleton, sizeLine_eq]
        omega
      walk_at "sq go"
      intro Bb nB
      have eB : iv (S.take vn ++ [S[vn] + 1]) ++ iv (S.drop (vn + 1)) = iv (S.take vn ++ [S[vn] + 1] ++ S.drop (vn + 1)) := List.map_append.symm
      rw [eB]
      obtain ⟨G13, J8, eq8, tg8, u8, gB, hs13⟩ := hs12.boxL nB (.lst (iv (S.take vn ++ [S[vn] + 1] ++ S.drop (vn + 1))))
      rw [eq8]
      have gA8 := (u4.trans (u5.trans (u6.trans (u7.trans u8)))) _ _ gA
      have hra8 := (u1.trans (u2.trans (u3.trans (u4.trans (u5.trans (u6.trans (u7.trans u8))))))).seq (seqL_of (K := K) (hs5.get gra2))
      walk_at "sq go"
      intro LL1 nLL
      obtain ⟨G14, J9, eq9, tg9, u9, gL, hs14⟩ := hs13.boxL nLL (.lst [.ref A, .ref Bb])
      rw [eq9]
      have tG := t4.trans (tg1.trans (tg2.trans (tg3.trans (tg4.trans (tg5.trans (tg6.trans (tg7.trans (tg8.trans tg9))))))))
      have gA9 := u9 _ _ gA8
      have gB9 := u9 _ _ gB
      have hra9 := u9.seq hra8
      refine ⟨LL1, rfl, ⟨_, seqL_of gL⟩, ?_⟩
      obtain ⟨nA, nB'⟩ := near_two as2 posS lS lv
      refine for_list (K := K) (a := LL1) (xs := [.ref A, .ref Bb]) (fun j σ H8 => Keep (∃ x10 x11, σ = [some (.ref r), some (.ref ra), some (.int (prodL row2)), some (.ref l1), x4, x5, x6, x7, x8, some (.int ((vn : Nat) : Int)), x10, x11, x12] ∧ Same J9 H8)) ⟨_, _, rfl, .refl _⟩ (fun j σ H8 _ h => ?_) (fun j x σ H8 hx h => ?_) (fun σ H8 h => ?_)
      · obtain ⟨_, _, _, s9⟩ := h.o
        exact seqL_of (s9 _ _ gL)
      · obtain ⟨x10, x11, rfl, s9⟩ := h.o
        obtain ⟨pf, fs, rfl, gf, nf⟩ : ∃ pf fs, x = .ref pf ∧ J9 pf = some (.lst (iv fs)) ∧ Near S fs := by
          match j, hx with
          | 0, hx => exact ⟨A, _, (by simpa using hx.symm), gA9, nA⟩
          | 1, hx => exact ⟨Bb, _, (by simpa using hx.symm), gB9, nB'⟩
          | j + 2, hx => simp at hx
        have gf9 := s9 _ _ gf
        have gf9q := seqL_of (K := K) gf9
        have hra10 := s9.seq hra9
        walk_at "sq go"
        refine ⟨Nat.le_trans nf.len (by decide), fun c hc => ?_⟩
        have lfi : (iv fs).length = fs.length := iv_len _
        walk_at "sq go"
        refine ifI (fun ec => ?_) (fun ec => ?_)
        · have nd : fs.Nodup := hc.mp (by omega)
          have asf := nf.asc nd
          have lfs := nf.len
          have szM : (iv fs).length + [V.int 0].length ≤ sizeLine := by
            rw [iv_len, sizeLine_eq]
            simp
            omega
          walk_at "sq go"
          intro e1 ne1
          have gf10 := upd_keep (o := .lst [.int 0]) ne1 gf9
          walk_at "sq go"
          intro m1 nm1
          rw [iv_app]
          have hm1 : SqL K (upd (upd H8 e1 (.lst [.int 0])) m1 (.lst (iv (fs ++ [0])))) m1 (iv (fs ++ [0])) := seqL_of upd_same
          have s10 := s9.trans ((same_new (o := .lst [.int 0]) ne1).trans (same_new (o := .lst (iv (fs ++ [0]))) nm1))
          have gf11 := s10 _ _ gf
          have gf11q := seqL_of (K := K) gf11
          have hra11 := s10.seq hra9
          walk_at "sq go"
          refine ⟨by simp, fun mx mm ge => ?_⟩
          walk_at "sq go"
          refine ifD (fun cm => ?_) (fun cm => ?_)
          · have cm2 : mx ≤ 10 ^ 6 := cm
            have b6 : ∀ k ∈ fs, k ≤ 10 ^ 6 := fun k hk => Int.le_trans (ge k (List.mem_append_left _ hk)) cm2
            walk_at "sq go"
            refine ⟨⟨nd, fun k hk => by have := nf.bnd k hk; omega, by omega⟩, fun p H9 _ _ _ s11 => ?_, fun p row3 l9 H9 pq asc lf s11 nl9 hl9 => ?_⟩
            · walk_at "sq go"
              exact ⟨_, _, rfl, s10.trans s11⟩
            · have ep : p = fs := asc_eq asc asf fun x => pq.mem_iff
              subst ep
              obtain ⟨two3, sg3⟩ := lof_sound lf row3 rfl asc fun k hk => (nf.bnd k hk).1
              have nR : row3 ≠ row2 := fun z => nf.not fun x => by
                rw [sg3 x, sgS x, z]
              have s12 := s10.trans s11
              have hra12 := s11.seq hra11
              have hl9q := seqL_of (K := K) hl9
              have gf12q := s11.seq gf11q
              have po : p.Perm (orig 1 row3) := (List.perm_ext_iff_of_nodup nd (orig_nodup two3)).mpr fun x => by rw [sg3 x, sgl_orig two3 x]
              have keep3 : Two row3 ∧ prodL row3 ≤ 2 ^ 40 ∧ (orig 1 row3).length ≤ 3000 := ⟨two3, by
                have := b6 _ (sgl_top two3 sg3).1
                omega, by rw [← po.length_eq]; omega⟩
              walk_at "sq go"
              refine r_eqI hl9q hra12 ?_
              walk_at "sq go"
              refine ifD (fun z => absurd z nR) (fun _ => ?_)
              walk_at "sq go"
              refine ⟨⟨keep3.1, keep3.2.1, keep3.2.2⟩, fun l10 p10 H10 s13 nl10 pm10 as10 hl10 => ?_⟩
              have e10 : p10 = p := asc_eq as10 asc fun x => by rw [pm10.mem_iff, po.mem_iff]
              subst e10
              have gf13q := s13.seq gf12q
              have hl10q := seqL_of (K := K) hl10
              walk_at "sq go"
              refine ifIN (fun z => absurd rfl z) (fun _ => ?_)
              have hl13q := s13.seq hl9q
              walk_at "sq go"
              refine ⟨⟨keep3.1, keep3.2.1, keep3.2.2⟩, fun l11 p11 H11 s14 nl11 pm11 as11 hl11 => ?_⟩
              have e11 : p11 = p10 := asc_eq as11 asc fun x => by rw [pm11.mem_iff, po.mem_iff]
              subst e11
              have gf14q := s14.seq gf13q
              walk_at "sq go"
              refine r_neI (seqL_of hl11) gf14q ?_
              walk_at "sq go"
              refine ifN (fun z => absurd rfl z) (fun _ => ?_)
              exact ⟨_, _, rfl, s12.trans (s13.trans s14)⟩
          · exact ⟨_, _, rfl, s10⟩
        · exact ⟨_, _, rfl, s9⟩
      · obtain ⟨_, _, rfl, s9⟩ := h.o
        walk_at "sq go"
        exact q _ ((SepB.mono hs14 (by omega)).on s9 |>.weak tG)

def spListOfK (K : PySem.W.Frag) : Sp := fun zs H Q E => ∃ a, zs = [a] ∧ spListOf K [a] H Q E
theorem asc_len {B : Int} : ∀ {p : List Int} {a : Int}, p.Pairwise (· < ·) → (∀ x ∈ p, a ≤ x ∧ x ≤ B) → a ≤ B + 1 → (p.length : Int) ≤ B - a + 1
  | [], a, _, _, h => by simp; omega
  | x :: t, a, hp, hb, h => by
    obtain ⟨p1, p2⟩ := List.pairwise_cons.mp hp
    have bx := hb x (List.mem_cons_self ..)
    have ih := asc_len (B := B) (a := a + 1) p2 (fun y hy => by
      have := p1 y hy
      have := (hb y (List.mem_cons_of_mem _ hy)).2
      omega) (by omega)
    rw [List.length_cons]
    omega
theorem alike_two {K : PySem.W.Frag} {H : Hp} {a b p1 p2 q1 q2 : Addr} {ns : List Int} {n : Nat} (ha : SqL K H a [.ref p1, .ref p2]) (hb : SqL K H b [.ref q1, .ref q2]) (h1 : SqL K H p1 (iv ns)) (h2 : SqL K H p2 (iv ns)) (h3 : SqL K H q1 (iv ns)) (h4 : SqL K H q2 (iv ns)) (hl : ns.length ≤ 1000000) (hn : 2 ≤ n) : Alike K H n (.ref a) (.ref b) := by
  have pl : ∀ ns : List Int, plainAll (ns.map .int) = true := by
    intro ns
    induction ns with
    | nil => simp [plainAll]
    | cons x r ih => simp [plainAll, plain, ih]
  refine ⟨.list [dI ns, dI ns], .lst ha (.cons (dp_iv h1) (.cons (dp_iv h2) .nil)), .lst hb (.cons (dp_iv h3) (.cons (dp_iv h4) .nil)), ?_, ?_⟩
  · simp [plain, plainAll, dI, pl, hl]
  · simp only [PyData.depth, PyData.depthAll, dI, dep_ints]
    omega
theorem nd_len {ns : List Int} {B : Int} (nd : ns.Nodup) (hb : ∀ x ∈ ns, 1 ≤ x ∧ x ≤ B) (h0 : 0 ≤ B) : (ns.length : Int) ≤ B := by
  obtain ⟨p, pm, ap⟩ := has_sorted ns
  have := asc_len (asc_of ap (pm.nodup_iff.mpr nd)) (fun x hx => hb x (pm.mem_iff.mp hx)) (by omega)
  rw [pm.length_eq] at this
  omega
theorem alike_non {K : PySem.W.Frag} {H : Hp} {n : Nat} : Alike K H n .non .non := ⟨.none, .non, .non, by simp [plain], by simp [PyData.depth]⟩
theorem alike_four {K : PySem.W.Frag} {H : Hp} {a b p1 p2 p3 p4 q1 q2 q3 q4 : Addr} {n1 n2 n3 n4 : List Int} {n : Nat} (ha : SqL K H a [.ref p1, .ref p2, .ref p3, .ref p4]) (hb : SqL K H b [.ref q1, .ref q2, .ref q3, .ref q4]) (h1 : SqL K H p1 (iv n1)) (h2 : SqL K H p2 (iv n2)) (h3 : SqL K H p3 (iv n3)) (h4 : SqL K H p4 (iv n4))
    (g1 : SqL K H q1 (iv n1)) (g2 : SqL K H q2 (iv n2)) (g3 : SqL K H q3 (iv n3)) (g4 : SqL K H q4 (iv n4)) (l1 : n1.length ≤ 1000000) (l2 : n2.length ≤ 1000000) (l3 : n3.length ≤ 1000000) (l4 : n4.length ≤ 1000000) (hn : 2 ≤ n) : Alike K H n (.ref a) (.ref b) := by
  have pl : ∀ ns : List Int, plainAll (ns.map .int) = true := by
    intro ns
    induction ns with
    | nil => simp [plainAll]
    | cons x r ih => simp [plainAll, plain, ih]
  refine ⟨.list [dI n1, dI n2, dI n3, dI n4], .lst ha (.cons (dp_iv h1) (.cons (dp_iv h2) (.cons (dp_iv h3) (.cons (dp_iv h4) .nil)))), .lst hb (.cons (dp_iv g1) (.cons (dp_iv g2) (.cons (dp_iv g3) (.cons (dp_iv g4) .nil)))), ?_, ?_⟩
  · simp [plain, plainAll, dI, pl, l1, l2, l3, l4]
  · simp only [PyData.depth, PyData.depthAll, dI, dep_ints]
    omega
def fx0 : List Int := (List.range 1024).map fun (i : Nat) => 1 + (i : Int)
/-- runs for which a list is due -/
def Fix (ns row : List Int) : Prop := Runs1 ns ∧ Two row ∧ Sgl ns row
theorem fix_tell {ns row p : List Int} {res : Option (List Int)} (h : Fix ns row) (pq : p.Perm ns) (asc : p.Pairwise (· < ·)) (lf : Lof p res) : res = some row := lof_full h.2.1 (fun x => by rw [pq.mem_iff]; exact h.2.2 x) asc lf
theorem fix_of {ns row : List Int} (h1 : ns.Nodup) (h2 : ∀ k ∈ ns, 1 ≤ k ∧ k < 2 ^ 90) (h3 : ns.length < 4000) (h4 : Two row) (h5 : ns.Perm (orig 1 row)) : Fix ns row := ⟨⟨h1, h2, h3⟩, h4, fun x => by rw [h5.mem_iff]; exact sgl_orig h4 x⟩
theorem fix0 : Fix fx0 (List.replicate 10 2) := by
  have two : Two (List.replicate 10 (2 : Int)) := by decide
  refine ⟨⟨?_, fun k hk => ?_, by simp [fx0]⟩, two, fun x => ?_⟩
  · unfold fx0
    refine List.Pairwise.map _ ?_ List.nodup_range
    intro a b h e
    omega
  · obtain ⟨i, hi, rfl⟩ := List.mem_map.mp hk
    have := List.mem_range.mp hi
    omega
  · constructor
    · intro hx
      have all : ∀ x ∈ fx0, 1 ≤ x ∧ sqz x (List.replicate 10 2) = 1 := by decide +kernel
      exact all x hx
    · rintro ⟨a, b⟩
      have : x ≤ 1024 := by
        rcases Int.lt_or_le 1024 x with z | z
        · have := sqz_far two (n := x) z
          omega
        · exact z
      exact List.mem_map.mpr ⟨(x - 1).toNat, List.mem_range.mpr (by omega), by omega⟩
theorem fix1 : Fix [1000000, 2, 999999, 1] [2, 500000] := fix_of (by decide) (by decide) (by decide) (by decide) (by decide +kernel)
theorem fix2 : Fix [1000, 1] [1000] := fix_of (by decide) (by decide) (by decide) (by decide) (by decide +kernel)
theorem fix3 : Fix [2, 1, 500001, 500000, 1000000] [500000, 2] := fix_of (by decide) (by decide) (by decide) (by decide) (by decide +kernel)
theorem fix4 : Fix [1, 2, 3, 4, 6] [3, 2] := fix_of (by decide) (by decide) (by decide) (by decide) (by decide +kernel)
theorem fix5 : Fix [1] [] := fix_of (by decide) (by decide) (by decide) (by decide) (by decide +kernel)
theorem fix6 : Fix [3, 1] [3] := fix_of (by decide) (by decide) (by decide) (by decide) (by decide +kernel)
abbrev s_law : Stmt := topS 20
theorem sc_law : FnScope ["script", "source", "k", "row", "top", "one", "some", "saved", "told", "turn", "few", "fixed", "run", "time"] ["script"] (defScope s_law) := ⟨rfl, rfl, rfl, by decide +kernel, rfl, by decide +kernel, by decide +kernel⟩

def spLaw (K : PySem.W.Frag) : Sp := fun vs H Q _ => ∃ (a : Addr) (ns : List Int), vs = [.ref a] ∧ SqL K H a (iv ns) ∧ ns.length ≤ 63 ∧ ∀ H', Q (.bl true) H'
theorem ok_law {f : Addr} {fd : FuncData} (F : Fun K "law" "law" s_law f fd) (B : Bt mg) (c_law_source : Cal P w K mg base 1 "_law_source" (spSource K) []) (c_law_draw : Cal P w K mg base 1 "_law_draw" spDraw []) (c_law_row : Cal P w K mg base 2 "_law_row" spRow [])
    (c_law_singles : Cal P w K mg base 3 "_law_singles" (spSingT K) []) (c_law_shuffled : Cal P w K mg base 2 "_law_shuffled" (spShuf K) []) (c_list_of : Cal P w K mg base 2 "list_of" (spListOf K) []) (c_list_of_k : CalK P w K mg base 2 "list_of" ["singles"] (spListOfK K))
    (c_law_same : Cal P w K mg base 4 "_law_same" (spSame K 2) []) (c_law_great_right : Cal P w K mg base 5 "_law_great_right" (spGreat K) []) (c_law_due : Cal P w K mg base 4 "_law_due" (spDueT K) []) : FnG P w K mg base CX0 7 f fd ["script"] (spLaw K) := by
  refine okG F sc_law (fun vs H Q E h => ?_) (fun cdv A outer s H vs Q E hG hr h => ?_)
  · obtain ⟨a, ns, rfl, _⟩ := h
    rfl
  · obtain ⟨p0, ns0, rfl, hP, hl, q⟩ := h
    refine ⟨_, (pss_cons (ps_set (i := 1) sc_law.nd rfl (Or.inr rfl) (pe_c c_law_source hr (by first | decide | omega) (by rfl) (pa_cons (pv 0) pa_nil)))
  (pss_cons (ps_for PassesOwn.never rfl (pi_range1 (by rfl) B.range (pa_cons (pe_op op_add pe_int (pe_callB (call_min2 rfl) (by rfl) B.min (by decide +kernel) (pa_cons pe_int (pa_cons (pe_callB (len_seqK (K := K)) (by rfl) B.len boot_len (pa_cons (pv 0) pa_nil)) pa_nil)))) pa_nil)) (pg_name (i := 2) sc_law.nd rfl (Or.inl rfl))
   (pss_cons (ps_par (i := 3) (j := 4) rfl sc_law.nd rfl rfl (by decide) rfl rfl (pa_cons (pe_lst pa_nil) (pa_cons pe_int pa_nil)) (by rfl))
  (pss_cons (ps_for PassesOwn.never rfl (pi_listK (K := K) (pe_c c_law_row hr (by first | decide | omega) (by rfl) (pa_cons (pv 1) (pa_cons pe_int (pa_cons (pe_ix (ix_listK (K := K)) (pe_lst (pa_cons pe_int (pa_cons pe_int pa_nil))) (pe_c c_law_draw hr (by first | decide | omega) (by rfl) (pa_cons (pv 1) (pa_cons pe_int pa_nil))) (fun _ _ => rfl)) pa_nil))))) (pg_name (i := 5) sc_law.nd rfl (Or.inr rfl))
   (pss_one (ps_if (pt_cmpR op_le (pe_op op_mulW (pv 4) (pv 5)) (pe_ix (ix_listK (K := K)) (pe_lst (pa_cons pe_int (pa_cons pe_int pa_nil))) (pe_c c_law_draw hr (by first | decide | omega) (by rfl) (pa_cons (pv 1) (pa_cons pe_int pa_nil))) (fun _ _ => rfl)) (nomark _)) (pss_cons (ps_expr (pe_bm PySem.F.plainAttrs_list PySem.F.slot_list_append PySem.F.type_list_append mt_append (pv 3) (pa_cons (pv 5) pa_nil)))
  (pss_one (ps_set (i := 4) sc_law.nd rfl (Or.inl rfl) (pe_op op_mulW (pv 4) (pv 5))))) pss_nil)))
  (pss_cons (ps_set (i := 6) sc_law.nd rfl (Or.inl rfl) (pe_c c_law_shuffled hr (by first | decide | omega) (by rfl) (pa_cons (pv 1) (pa_cons (pe_c c_law_singles hr (by first | decide | omega) (by rfl) (pa_cons (pv 3) (pa_cons (pv 4) pa_nil))) pa_nil))))
  (pss_cons (ps_set (i := 7) sc_law.nd rfl (Or.inl rfl) (pe_callB (call_reprDK (K := K) hG hr.units) (by rfl) B.repr (by decide +kernel) (pa_cons (pv 6) pa_nil)))
  (pss_cons (ps_set (i := 8) sc_law.nd rfl (Or.inl rfl) (pe_c c_list_of hr (by first | decide | omega) (by rfl) (pa_cons (pv 6) pa_nil)))
  (pss_cons (ps_if (PW.pt (pw_or (pt_not (pt_val (pe_c c_law_same hr (by first | decide | omega) (by rfl) (pa_cons (pe_lst (pa_cons (pv 8) (pa_cons (pe_ck c_list_of_k hr (by first | decide | omega) (by rfl) (pk_cons (pv 6) pk_nil)) pa_nil))) (pa_cons (pe_op op_rep (pe_lst (pa_cons (pv 3) pa_nil)) pe_int) pa_nil))))) (pw_or1 (pt_cmpR op_ne (pe_callB (call_reprDK (K := K) hG hr.units) (by rfl) B.repr (by decide +kernel) (pa_cons (pv 6) pa_nil)) (pv 7) (nomark _))))) (pss_one (ps_ret pe_bl)) pss_nil)
  (pss_cons (ps_expr (pe_bm PySem.F.plainAttrs_list PySem.F.slot_list_append PySem.F.type_list_append mt_append (pv 8) (pa_cons pe_int pa_nil)))
  (pss_cons (ps_if (pt_cmpR (op_neDK (K := K) hr.units) (pe_c c_list_of hr (by first | decide | omega) (by rfl) (pa_cons (pv 6) pa_nil)) (pv 3) (nomark _)) (pss_one (ps_ret pe_bl)) pss_nil)
  (pss_cons (ps_if (pt_not (pt_val (pe_c c_law_great_right hr (by first | decide | omega) (by rfl) (pa_cons (pv 1) pa_nil)))) (pss_one (ps_ret pe_bl)) pss_nil)
  (pss_one (ps_for PassesOwn.never rfl (pi_range1 (by rfl) B.range (pa_cons pe_int pa_nil)) (pg_name (i := 9) sc_law.nd rfl (Or.inl rfl))
   (pss_cons (ps_setLc (i := 10) (own := [("run", 12)]) (g := gName 12) (by rfl) sc_law.nd rfl rfl (sw_true rfl rfl rfl (by decide +kernel)) (pi_listK (K := K) (pv 6)) (blkOk_by (own := [("run", 12)]) (N := ["script", "source", "k", "row", "top", "one", "some", "saved", "told", "turn", "few", "fixed", "run", "time"]) (sc := defScope s_law) (by decide +kernel)) (fun _ _ _ _ _ => (pg_name (i := 12) sc_law.nd rfl (Or.inl rfl))) (fun _ _ _ _ _ => (pts_one (pt_cmpR op_lt (pv 12) pe_int (nomark _)))) (fun _ _ _ _ _ => (pv 12)))
  (pss_cons (ps_set (i := 5) sc_law.nd rfl (Or.inr rfl) (pe_op op_add pe_int (pe_c c_law_draw hr (by first | decide | omega) (by rfl) (pa_cons (pv 1) (pa_cons pe_int pa_nil)))))
  (pss_cons (ps_set (i := 10) sc_law.nd rfl (Or.inl rfl) (pe_op op_cat (pe_lc (own := [("run", 12)]) (g := gName 12) (by rfl) sc_law.nd (pi_listK (K := K) (pv 10)) (blkOk_by (own := [("run", 12)]) (N := ["script", "source", "k", "row", "top", "one", "some", "saved", "told", "turn", "few", "fixed", "run", "time"]) (sc := defScope s_law) (by decide +kernel)) (fun _ _ _ _ _ => (pg_name (i := 12) sc_law.nd rfl (Or.inl rfl))) (fun _ _ _ _ _ => (pts_one (pt_cmpR op_ne (pv 12) (pv 5) (nomark _)))) (fun _ _ _ _ _ => (pv 12))) (pe_op op_rep (pe_lst (pa_cons (pv 5) pa_nil)) (pe_c c_law_draw hr (by first | decide | omega) (by rfl) (pa_cons (pv 1) (pa_cons pe_int pa_nil))))))
  (pss_cons (ps_if (pt_cmpR op_eq (pe_c c_law_draw hr (by first | decide | omega) (by rfl) (pa_cons (pv 1) (pa_cons pe_int pa_nil))) pe_int (nomark _)) (pss_one (ps_set (i := 10) sc_law.nd rfl (Or.inl rfl) (pe_callB (cr_sortedOf (w := w) rfl) (by rfl) B.sorted (by decide +kernel) (pa_cons (pe_callTy (cr_setInts (K := K) (w := w) rfl) (by rfl) B.set (by decide +kernel) (pa_cons (pe_lc (own := [("time", 13)]) (g := gName 13) (by rfl) sc_law.nd (pi_range1 (by rfl) B.range (pa_cons (pe_c c_law_draw hr (by first | decide | omega) (by rfl) (pa_cons (pv 1) (pa_cons pe_int pa_nil))) pa_nil)) (blkOk_by (own := [("time", 13)]) (N := ["script", "source", "k", "row", "top", "one", "some", "saved", "told", "turn", "few", "fixed", "run", "time"]) (sc := defScope s_law) (by decide +kernel)) (fun _ _ _ _ _ => (pg_name (i := 13) sc_law.nd rfl (Or.inl rfl))) (fun _ _ _ _ _ => pts_nil) (fun _ _ _ _ _ => (pe_op op_add pe_int (pe_c c_law_draw hr (by first | decide | omega) (by rfl) (pa_cons (pv 1) (pa_cons pe_int pa_nil)))))) pa_nil)) pa_nil)))) pss_nil)
  (pss_one (ps_if (pt_not (pt_val (pe_c c_law_same hr (by first | decide | omega) (by rfl) (pa_cons (pe_c c_list_of hr (by first | decide | omega) (by rfl) (pa_cons (pv 10) pa_nil)) (pa_cons (pe_c c_law_due hr (by first | decide | omega) (by rfl) (pa_cons (pv 10) pa_nil)) pa_nil))))) (pss_one (ps_ret pe_bl)) pss_nil))))))))))))))))))
  (pss_cons (ps_set (i := 11) sc_law.nd rfl (Or.inl rfl) (pe_lst (pa_cons (pe_c c_list_of hr (by first | decide | omega) (by rfl) (pa_cons (pe_listRg rfl (by rfl) B.list (prg_2 (by rfl) B.range pe_int pe_int)) pa_nil)) (pa_cons (pe_c c_list_of hr (by first | decide | omega) (by rfl) (pa_cons (pe_lst (pa_cons (pe_op op_powW pe_int pe_int) (pa_cons pe_int (pa_cons (pe_op op_sub (pe_op op_powW pe_int pe_int) pe_int) (pa_cons pe_int pa_nil))))) pa_nil)) (pa_cons (pe_c c_list_of hr (by first | decide | omega) (by rfl) (pa_cons (pe_lst (pa_cons pe_int (pa_cons pe_int pa_nil))) pa_nil)) pa_nil)))))
  (pss_cons (ps_expr (pe_bm PySem.F.plainAttrs_list PySem.F.slot_list_append PySem.F.type_list_append mt_append (pv 11) (pa_cons (pe_c c_list_of hr (by first | decide | omega) (by rfl) (pa_cons (pe_lst (pa_cons pe_int (pa_cons pe_int (pa_cons pe_int (pa_cons pe_int (pa_cons (pe_op op_powW pe_int pe_int) pa_nil)))))) pa_nil)) pa_nil)))
  (pss_cons (ps_if (pt_not (pt_val (pe_c c_law_same hr (by first | decide | omega) (by rfl) (pa_cons (pv 11) (pa_cons (pe_lst (pa_cons (pe_op op_rep (pe_lst (pa_cons pe_int pa_nil)) pe_int) (pa_cons (pe_lst (pa_cons pe_int (pa_cons pe_int pa_nil))) (pa_cons (pe_lst (pa_cons pe_int pa_nil)) (pa_cons (pe_lst (pa_cons pe_int (pa_cons pe_int pa_nil))) pa_nil))))) pa_nil))))) (pss_one (ps_ret pe_bl)) pss_nil)
  (pss_one (ps_ret (pe_and (pe_cmpR (op_eqDK (K := K) hr.units) (pe_c c_list_of hr (by first | decide | omega) (by rfl) (pa_cons (pe_lst (pa_cons pe_int (pa_cons pe_int (pa_cons pe_int (pa_cons pe_int (pa_cons pe_int pa_nil)))))) pa_nil)) (pe_lst (pa_cons pe_int (pa_cons pe_int pa_nil))) (nomark _)) (pe_and (pe_cmpR (op_eqDK (K := K) hr.units) (pe_c c_list_of hr (by first | decide | omega) (by rfl) (pa_cons (pe_lst (pa_cons pe_int pa_nil)) pa_nil)) (pe_lst pa_nil) (nomark _)) (pe_one (pe_cmpR (op_eqDK (K := K) hr.units) (pe_c c_list_of hr (by first | decide | omega) (by rfl) (pa_cons (pe_lst (pa_cons pe_int (pa_cons pe_int pa_nil))) pa_nil)) (pe_lst (pa_cons pe_int pa_nil)) (nomark _)))))))))))), ?_⟩
    walk_at "sq go"
    intro r d H1 s1 hS1
    have hP1 := s1.seq hP
    walk_at "sq go"
    refine for_range (lo := 0) (n := _) (fun i σ H' => Keep (∃ a3 a4 a5 a6 a7 a8 a9 a10 a11 a12 a13 a14, σ = [some (.ref p0), some (.ref r), a3, a4, a5, a6, a7, a8, a9, a10, a11, a12, a13, a14] ∧ Sep (rgB r d (10000 * i)) H H' ∧ i ≤ 11)) ⟨_, _, _, _, _, _, _, _, _, _, _, _, rfl, SepB.mono hS1 (by omega), by omega⟩ (fun i σ H' hi h => ?_) (fun σ H' h => ?_)
    · obtain ⟨a3, a4, a5, a6, a7, a8, a9, a10, a11, a12, a13, a14, rfl, hs, hi11⟩ := h.o
      have hi12 : i + 1 ≤ 11 := by
        (repeat' split at hi) <;> omega
      walk_at "sq go"
      intro ra nra
      have gra := hs.free nra
      have hs1 := hs.new nra (.lst [])
      have t1 := same_new (o := .lst []) gra
      walk_at "sq go"
      intro e1 ne1
      have hs2 := hs1.new ne1 (.lst [.int 4, .int 40])
      walk_at "sq go"
      refine ⟨⟨by decide, by decide, by omega⟩, fun y H2 y0 y1 hs3 => ?_⟩
      have he3 : H2 e1 = some (.lst [.int 4, .int 40]) := hs3.get upd_same
      obtain ⟨wide, ew, w2, w40⟩ : ∃ v, atI [V.int 4, .int 40] y = some (.int v) ∧ 2 ≤ v ∧ v ≤ 40 := by
        rcases (show y = 0 ∨ y = 1 by omega) with z | z <;> rw [z]
        · exact ⟨4, atI_nat (j := 0) rfl, by decide, by decide⟩
        · exact ⟨40, atI_nat (j := 1) rfl, by decide, by decide⟩
      have hs4 := hs3.weak (same_new (o := .lst [.int 4, .int 40]) (hs1.free ne1))
      walk_at "sq go"
      refine ⟨⟨by decide, by decide, w2, by omega, by omega⟩, fun pr ns H3 gp len row hs5 => ?_⟩
      have hpr := hs5.get (upd_same (H := upd H ra (.lst [])) (a := pr) (o := .lst (iv ns)))
      have npr : pr ≠ ra := fun z => by rw [z, upd_same] at gp; cases gp
      have hprq := seqL_of (K := K) hpr
      have gra5 := upd_keep (o := .lst (iv ns)) gp (upd_same (H := H) (a := ra) (o := .lst []))
      have t2 := t1.trans (same_new (o := .lst (iv ns)) gp)
      walk_at "sq go"
      refine for_list (K := K) (a := pr) (xs := iv ns) (fun j σ H4 => Keep (∃ rs G2 b5, σ = [some (.ref p0), some (.ref r), some (.int (0 + (i : Nat))), some (.ref ra), some (.int (prodL rs)), b5, a7, a8, a9, a10, a11, a12, a13, a14] ∧ Sep (rgB r d (10000 * i + 300 + j)) G2 H4 ∧ Same H G2 ∧ G2 ra = some (.lst (iv rs)) ∧ G2 pr = some (.lst (iv ns)) ∧ Two rs ∧ prodL rs ≤ 2000 ∧ j ≤ 8))
        ⟨[], _, _, rfl, SepB.mono hs5 (by omega), t2, gra5, upd_same, (fun k hk => nomatch hk), by decide, by omega⟩ (fun j σ H4 _ h => ?_) (fun j x σ H4 hx h => ?_) (fun σ H4 h => ?_)
      · obtain ⟨_, _, _, _, hs6, _, _, g2, _⟩ := h.o
        exact seqL_of (hs6.get g2)
      · obtain ⟨rs, G2, b5, rfl, hs6, t3, g1, g2, two, pb, j8⟩ := h.o
        obtain ⟨k, hk, rfl⟩ := iv_get hx
        have j9 : j + 1 ≤ 8 := by
          have := (List.getElem?_eq_some_iff.mp hk).1
          omega
        obtain ⟨k2, k40⟩ := row k (List.mem_of_getElem? hk)
        have wm : CMulW (prodL rs) k := Sm.wide (a := 30) (b := 30) (by have := prodL_pos two; unfold Sm; omega) (by unfold Sm; omega) (by decide) (by decide) (by decide)
        walk_at "sq go"
        intro e2 ne2
        have hs7 := hs6.new ne2 (.lst [.int 2000, .int 60])
        walk_at "sq go"
        refine ⟨⟨by decide, by decide, by omega⟩, fun y2 H5 y20 y21 hs8 => ?_⟩
        have he8 : H5 e2 = some (.lst [.int 2000, .int 60]) := hs8.get upd_same
        obtain ⟨lim, el, l2k⟩ : ∃ v, atI [V.int 2000, .int 60] y2 = some (.int v) ∧ v ≤ 2000 := by
          rcases (show y2 = 0 ∨ y2 = 1 by omega) with z | z <;> rw [z]
          · exact ⟨2000, atI_nat (j := 0) rfl, by decide⟩
          · exact ⟨60, atI_nat (j := 1) rfl, by decide⟩
        have hs9 := hs8.weak (same_new (o := .lst [.int 2000, .int 60]) (hs6.free ne2))
        have hra9 := hs9.get g1
        have lrs := len_prod two
        have lz : (iv rs).length < sizeLine := by
          rw [iv_len, sizeLine_eq]
          omega
        walk_at "sq go"
        refine ifD (fun c => ?_) (fun c => ?_)
        · have ep : prodL (rs ++ [k]) = prodL rs * k := prodL_snoc _ _
          walk_at "sq go"
          rw [iv_app]
          refine ⟨rs ++ [k], _, _, by rw [ep]; rfl, SepB.mono (hs9.put g1 (.lst (iv (rs ++ [k])))) (by omega), same_put t3 gra, upd_same, (upd_ne npr).trans g2, fun m hm => ?_, by rw [ep]; omega, j9⟩
          rcases List.mem_append.mp hm with z | z
          · exact two m z
          · rw [List.mem_singleton.mp z]
            exact k2
        · exact ⟨rs, G2, _, rfl, SepB.mono hs9 (by omega), t3, g1, g2, two, pb, j9⟩
      · obtain ⟨rs, G2, b5, rfl, hs6, t3, g1, g2, two, pb, j8⟩ := h.o
        have hra6 := seqL_of (K := K) (hs6.get g1)
        walk_at "sq go"
        refine ⟨⟨two, rfl, by omega⟩, fun l1 S H5 s7 nl1 sgS asS hl1 => ?_⟩
        have hs7 := hs6.grow s7 nl1 hl1
        have bS : ∀ x ∈ S, 1 ≤ x ∧ x ≤ 2000 := fun x hx => by
          have h1 := (sgS x).mp hx
          have h2 := (sgl_top two sgS).2 x hx
          omega
        have lS := asc_len asS bS (by decide)
        have gl1 : G2 l1 = none := hs6.free nl1
        have g1a := upd_keep (o := .lst (iv S)) gl1 g1
        walk_at "sq go"
        refine ⟨⟨by omega, by omega, by omega⟩, fun l2 ms G3 H6 nl2 t4 g3 pm hs8 => ?_⟩
        have t5 := t3.trans ((same_new (o := .lst (iv S)) gl1).trans t4)
        have gra3 := t4 _ _ g1a
        have hs8 := SepB.mono (N' := 10000 * i + 3000) hs8 (by omega)
        have hsome := seqL_of (K := K) (hs8.get g3)
        have lms : ms.length ≤ 2000 := by rw [pm.length_eq]; omega
        have bms : ∀ x ∈ ms, 1 ≤ x ∧ x ≤ 2000 := fun x hx => bS x (pm.mem_iff.mp hx)
        walk_at "sq go"
        refine r_repr hsome (by omega) (fun n hn => by
          have := bms n hn
          exact Nat.lt_trans ((show Sm 20 n by unfold Sm; omega).lg (by decide)) (by decide)) ?_
        have runs : Runs1 ms := ⟨pm.nodup_iff.mpr (asc_nodup asS), fun k hk => by have := bms k hk; omega, by omega⟩
        have tell : ∀ p res, p.Perm ms → p.Pairwise (· < ·) → Lof p res → res = some rs := fun p res pq asc lf =>
          lof_full two (fun x => by rw [pq.mem_iff, pm.mem_iff]; exact sgS x) asc lf
        walk_at "sq go"
        refine ⟨runs, fun p H7 pq asc lf _ => absurd (tell p none pq asc lf) (by simp), fun p row2 lt H7 pq asc lf s9 nlt hlt => ?_⟩
        obtain rfl : row2 = rs := Option.some.inj (tell p _ pq asc lf)
        have hs9 := hs8.grow s9 nlt hlt
        have glt := hs8.free nlt
        have hsome7 := s9.seq hsome
        walk_at "sq go"
        refine ⟨runs, fun p H8 pq asc lf _ => absurd (tell p none pq asc lf) (by simp), fun p row3 lu H8 pq asc lf s10 nlu hlu => ?_⟩
        obtain rfl : row3 = row2 := Option.some.inj (tell p _ pq asc lf)
        have s11 := s9.trans s10
        have hs10 := hs9.on s10
        have hlt8 := hs10.get (upd_same (H := G3) (a := lt) (o := .lst (iv row3)))
        have gra10 : upd G3 lt (.lst (iv row3)) ra = some (.lst (iv row3)) := upd_keep glt gra3
        walk_at "sq go"
        intro L1 nL1
        have v1 := same_new (o := .lst [.ref lt, .ref lu]) nL1
        walk_at "sq go"
        intro L2 nL2
        have v2 := v1.trans (same_new (o := .lst [.ref ra]) nL2)
        have hL2 : (upd (upd H8 L1 (.lst [.ref lt, .ref lu])) L2 (.lst [.ref ra])) L2 = some (.lst [.ref ra]) := upd_same
        walk_at "sq go"
        intro L3 nL3
        have v3 := v2.trans (same_new (o := .lst (List.replicate (Int.toNat 2) [V.ref ra]).flatten) nL3)
        have hL1 := upd_keep (o := .lst (List.replicate (Int.toNat 2) [V.ref ra]).flatten) nL3 (upd_keep (o := .lst [.ref ra]) nL2 (upd_same (H := H8) (a := L1) (o := .lst [.ref lt, .ref lu])))
        have lrs := len_prod two
        have hra8 := hs10.get gra10
        walk_at "sq go"
        refine ⟨⟨alike_two (p1 := lt) (p2 := lu) (q1 := ra) (q2 := ra) (ns := row3) (seqL_of hL1) (seqL_of upd_same) (seqL_of (v3 _ _ hlt8)) (seqL_of (v3 _ _ hlu)) (seqL_of (v3 _ _ hra8)) (seqL_of (v3 _ _ hra8)) (by omega) (by decide)⟩, fun H9 s12 => ?_⟩
        have v4 := v3.trans s12
        have hs11 := hs10.on v4
        have hsome9 := (s11.trans v4).seq hsome
        walk_at "sq go"
        refine r_repr hsome9 (by omega) (fun n hn => by
          have := bms n hn
          exact Nat.lt_trans ((show Sm 20 n by unfold Sm; omega).lg (by decide)) (by decide)) ?_
        walk_at "sq go"
        have eS : decide (V.str (dI ms).shown = V.str (dI ms).shown) = true := decide_eq_true rfl
        rw [eS]
        have hlt9 := hs11.get (upd_same (H := G3) (a := lt) (o := .lst (iv row3)))
        have lzt : (iv row3).length < sizeLine := by
          rw [iv_len, sizeLine_eq]
          omega
        have nlt2 : l2 ≠ lt := ne_newL (hs8.get g3) nlt
        have nlra : ra ≠ lt := ne_newL (hs8.get gra3) nlt
        have hs12 := hs11.put (u := .lst (iv row3)) (upd_same (H := G3) (a := lt)) (.lst (iv row3 ++ [V.int 1]))
        have hsome12 : SqL K (upd H9 lt (.lst (iv row3 ++ [V.int 1]))) l2 (iv ms) := seqL_of ((upd_ne nlt2).trans (hs11.get (upd_keep glt g3)))
        have hra12 : SqL K (upd H9 lt (.lst (iv row3 ++ [V.int 1]))) ra (iv row3) := seqL_of ((upd_ne nlra).trans (hs11.get gra10))
        have t6 : Same H (upd (upd G3 lt (.lst (iv row3))) lt (.lst (iv row3 ++ [V.int 1]))) := t5.trans (same_put (same_put (.refl G3) glt) glt)
        have g3b : (upd (upd G3 lt (.lst (iv row3))) lt (.lst (iv row3 ++ [V.int 1]))) l2 = some (.lst (iv ms)) := (upd_ne nlt2).trans ((upd_ne nlt2).trans g3)
        walk_at "sq go"
        refine ⟨runs, fun p H10 pq asc lf _ => absurd (tell p none pq asc lf) (by simp), fun p row4 lv H10 pq asc lf s13 nlv hlv => ?_⟩
        obtain rfl : row4 = row3 := Option.some.inj (tell p _ pq asc lf)
        have hra13 := s13.seq hra12
        walk_at "sq go"
        refine r_neI (seqL_of hlv) hra13 ?_
        walk_at "sq go"
        refine ifN (fun z => absurd rfl z) (fun _ => ?_)
        have hs13 := hs12.on s13
        generalize upd (upd G3 lt (.lst (iv row4))) lt (.lst (iv row4 ++ [V.int 1])) = G5 at *
        walk_at "sq go"
        refine ⟨⟨by omega, by omega⟩, fun H11 hs14 => ?_⟩
        walk_at "sq go"
        refine for_range (lo := 0) (n := 4) (fun j σ H' => Keep (∃ x5 x9 x10 x11 x12 x13, σ = [some (.ref p0), some (.ref r), some (.int (0 + (i : Nat))), some (.ref ra), some (.int (prodL row4)), x5, some (.ref l2), some (.str (dI ms).shown), some (.ref lt), x9, x10, x11, x12, x13] ∧ Sep (rgB r d (10000 * i + 3100 + 40 * j)) G5 H')) ⟨_, _, _, _, _, _, rfl, SepB.mono hs14 (by omega)⟩ (fun j σ H12 hj h => ?_) (fun σ H12 h => ?_)
        · obtain ⟨x5, x9, x10, x11, x12, x13, rfl, hs15⟩ := h.o
          have hms := seqL_of (K := K) (hs15.get g3b)
          walk_at "sq go"
          intro D1 nD1
          refine lc_list (K := K) (a := l2) (xs := iv ms) (fun m H13 => Keep (Same H12 H13 ∧ H13 D1 = some (.lst (iv ((ms.take m).filter fun x => decide (x < 61)))))) ⟨same_new nD1, upd_same⟩ (fun m H13 _ h => ?_) (fun m v H13 hv h => ?_) (fun H13 h => ?_)
          · obtain ⟨s16, _⟩ := h.o
            exact s16.seq hms
          · obtain ⟨s16, hD⟩ := h.o
            obtain ⟨x, hx, rfl⟩ := iv_get hv
            have em : (ms.take (m + 1)).filter (fun x => decide (x < 61)) = (ms.take m).filter (fun x => decide (x < 61)) ++ [x].filter fun x => decide (x < 61) := by
              rw [List.take_add_one, hx, List.filter_append]
              rfl
            have lz : (iv ((ms.take m).filter fun x => decide (x < 61))).length < sizeLine := by
              rw [iv_len, sizeLine_eq]
              refine Nat.lt_of_le_of_lt (List.length_filter_le _ _) ?_
              rw [List.length_take]
              omega
            walk_at "sq go"
            refine ifD (fun c => ?_) (fun c => ?_)
            · walk_at "sq go"
              refine ⟨same_put s16 nD1, ?_⟩
              rw [upd_same, iv_app, em]
              simp [c]
            · refine ⟨s16, ?_⟩
              rw [em]
              simp only [List.filter_cons, List.filter_nil, decide_eq_false c, Bool.false_eq_true, if_false, List.append_nil]
              exact hD
          · obtain ⟨s16, hD⟩ := h.o
            rw [iv_len, List.take_length] at hD
            have hs16 := hs15.grow s16 nD1 hD
            have gD1 := hs15.free nD1
            walk_at "sq go"
            refine ⟨⟨by decide, by decide, by omega⟩, fun o0 H14 o00 o01 hs17 => ?_⟩
            have hD14 := hs17.get (upd_same (H := G5) (a := D1) (o := .lst (iv (ms.filter fun x => decide (x < 61)))))
            generalize hfs1 : (ms.filter fun x => decide (x < 61)) = fs1 at *
            have b1 : ∀ x ∈ fs1, 1 ≤ x ∧ x ≤ 60 := fun x hx => by
              rw [← hfs1] at hx
              obtain ⟨h1, h2⟩ := List.mem_filter.mp hx
              have := of_decide_eq_true h2
              have := bms x h1
              omega
            have n1 : fs1.Nodup := by
              rw [← hfs1]
              exact List.Pairwise.filter _ (pm.nodup_iff.mpr (asc_nodup asS))
            have l1' := nd_len n1 b1 (by decide)
            have hD14q := seqL_of (K := K) hD14
            walk_at "sq go"
            intro D2 nD2
            refine lc_list (K := K) (a := D1) (xs := iv fs1) (fun m H15 => Keep (Same H14 H15 ∧ H15 D2 = some (.lst (iv ((fs1.take m).filter fun x => decide (x ≠ 1 + o0)))))) ⟨same_new nD2, upd_same⟩ (fun m H15 _ h => ?_) (fun m v H15 hv h => ?_) (fun H15 h => ?_)
            · obtain ⟨s18, _⟩ := h.o
              exact s18.seq hD14q
            · obtain ⟨s18, hD⟩ := h.o
              obtain ⟨x, hx, rfl⟩ := iv_get hv
              have em : (fs1.take (m + 1)).filter (fun x => decide (x ≠ 1 + o0)) = (fs1.take m).filter (fun x => decide (x ≠ 1 + o0)) ++ [x].filter fun x => decide (x ≠ 1 + o0) := by
                rw [List.take_add_one, hx, List.filter_append]
                rfl
              have lz : (iv ((fs1.take m).filter fun x => decide (x ≠ 1 + o0))).length < sizeLine := by
                rw [iv_len, sizeLine_eq]
                refine Nat.lt_of_le_of_lt (List.length_filter_le _ _) ?_
                rw [List.length_take]
                omega
              walk_at "sq go"
              refine ifIN (fun c => ?_) (fun c => ?_)
              · walk_at "sq go"
                refine ⟨same_put s18 nD2, ?_⟩
                rw [upd_same, iv_app, em]
                have c2 : x ≠ 1 + o0 := c
                simp [c2]
              · refine ⟨s18, ?_⟩
                rw [em]
                have c2 : ¬ (x ≠ 1 + o0) := fun z => z c
                simp only [List.filter_cons, List.filter_nil, decide_eq_false c2, Bool.false_eq_true, if_false, List.append_nil]
                exact hD
            · obtain ⟨s18, hD⟩ := h.o
              rw [iv_len, List.take_length] at hD
              have hs18 := hs17.on s18
              have hs19 := hs17.grow s18 nD2 hD
              walk_at "sq go"
              intro E1 nE1
              have hs20 := hs19.new nE1 (.lst [.int (1 + o0)])
              walk_at "sq go"
              refine ⟨⟨by decide, by decide, by omega⟩, fun v2 H16 v20 v21 hs21 => ?_⟩
              generalize hfs2 : (fs1.filter fun x => decide (x ≠ 1 + o0)) = fs2 at *
              have b2 : ∀ x ∈ fs2, (1 ≤ x ∧ x ≤ 60) ∧ x ≠ 1 + o0 := fun x hx => by
                rw [← hfs2] at hx
                obtain ⟨h1, h2⟩ := List.mem_filter.mp hx
                exact ⟨b1 x h1, of_decide_eq_true h2⟩
              have n2 : fs2.Nodup := by
                rw [← hfs2]
                exact List.Pairwise.filter _ n1
              obtain ⟨rp, erp, hrp⟩ : ∃ rp : List Int, (List.replicate v2.toNat [V.int (1 + o0)]).flatten = iv rp ∧ (rp = [] ∨ rp = [1 + o0]) := by
                rcases (show v2 = 0 ∨ v2 = 1 by omega) with z | z <;> rw [z]
                · exact ⟨[], rfl, .inl rfl⟩
                · exact ⟨[1 + o0], rfl, .inr rfl⟩
              have lrp : rp.length ≤ 1 := by rcases hrp with z | z <;> rw [z] <;> simp
              have gE := upd_same (H := upd (upd G5 D1 (.lst (iv fs1))) D2 (.lst (iv fs2))) (a := E1) (o := .lst [.int (1 + o0)])
              have hE16 := hs21.get gE
              have gD2' := upd_keep (o := .lst [.int (1 + o0)]) (hs19.free nE1) (upd_same (H := upd G5 D1 (.lst (iv fs1))) (a := D2) (o := .lst (iv fs2)))
              have hD16 := hs21.get gD2'
              have l2' := nd_len n2 (fun x hx => (b2 x hx).1) (by decide)
              walk_at "sq go"
              intro E2 nE2
              rw [erp]
              have hs22 := hs21.new nE2 (.lst (iv rp))
              have hD17 := upd_keep (o := .lst (iv rp)) nE2 hD16
              have hE17 : upd H16 E2 (.lst (iv rp)) E2 = some (.lst (iv rp)) := upd_same
              have szF : (iv fs2).length + (iv rp).length ≤ sizeLine := by
                rw [iv_len, iv_len, sizeLine_eq]
                omega
              walk_at "sq go"
              intro pf npf
              have e3 : iv fs2 ++ iv rp = iv (fs2 ++ rp) := List.map_append.symm
              rw [e3]
              have hs23 := hs22.new npf (.lst (iv (fs2 ++ rp)))
              have b3 : ∀ x ∈ fs2 ++ rp, 1 ≤ x ∧ x ≤ 60 := fun x hx => by
                rcases List.mem_append.mp hx with z | z
                · exact (b2 x z).1
                · rcases hrp with y | y <;> rw [y] at z
                  · cases z
                  · rw [List.mem_singleton.mp z]
                    omega
              have n3 : (fs2 ++ rp).Nodup := by
                refine List.nodup_append.mpr ⟨n2, ?_, fun x hx y hy e => ?_⟩
                · rcases hrp with y | y <;> rw [y] <;> simp
                · rcases hrp with z | z <;> rw [z] at hy
                  · cases hy
                  · rw [List.mem_singleton.mp hy] at e
                    exact (b2 x hx).2 e
              generalize fs2 ++ rp = fs3 at *
              walk_at "sq go"
              refine ⟨⟨by decide, by decide, by omega⟩, fun v3 H17 v30 v31 hs24 => ?_⟩
              have hpf := seqL_of (K := K) (hs24.get (upd_same (a := pf) (o := .lst (iv fs3))))
              have tG5 : Same G5 (upd (upd (upd (upd (upd G5 D1 (.lst (iv fs1))) D2 (.lst (iv fs2))) E1 (.lst [.int (1 + o0)])) E2 (.lst (iv rp))) pf (.lst (iv fs3))) := (same_new gD1).trans ((same_new (hs17.free nD2)).trans ((same_new (hs19.free nE1)).trans ((same_new (hs21.free nE2)).trans (same_new (hs22.free npf)))))
              have hs25 := hs24.weak tG5
              walk_at "sq go"
              refine ifI (fun c3 => ?_) (fun c3 => ?_)
              · walk_at "sq go"
                refine ⟨⟨by decide, by decide, by omega⟩, fun v4 H18 v40 v41 hs26 => ?_⟩
                walk_at "sq go"
                intro D3 nD3
                have gD3 := hs26.free nD3
                refine lc_range (lo := 0) (n := v4.toNat) (fun m H19 => Keep (∃ G6 ks, Sep (rgB r d (10000 * i + 3100 + 40 * j + 10 + m)) G6 H19 ∧ Same G5 G6 ∧ G6 D3 = some (.lst (iv ks)) ∧ ks.length = m ∧ ∀ x ∈ ks, 1 ≤ x ∧ x ≤ 20)) ⟨_, [], SepB.mono (hs26.new nD3 (.lst [])) (by omega), same_new gD3, upd_same, rfl, (fun x hx => nomatch hx)⟩ (fun m H19 hm h => ?_) (fun H19 h => ?_)
                · obtain ⟨G6, ks, hs27, t7, gk, lk, bk⟩ := h.o
                  walk_at "sq go"
                  refine ⟨⟨by decide, by decide, by omega⟩, fun v5 H20 v50 v51 hs28 => ?_⟩
                  have hD20 := hs28.get gk
                  have lz : (iv ks).length < sizeLine := by
                    rw [iv_len, sizeLine_eq]
                    omega
                  walk_at "sq go"
                  rw [iv_app]
                  refine ⟨_, ks ++ [1 + v5], SepB.mono (hs28.put gk (.lst (iv (ks ++ [1 + v5])))) (by omega), same_put t7 gD3, upd_same, by simp [lk], fun x hx => ?_⟩
                  rcases List.mem_append.mp hx with z | z
                  · exact bk x z
                  · rw [List.mem_singleton.mp z]
                    omega
                · obtain ⟨G6, ks, hs27, t7, gk, lk, bk⟩ := h.o
                  have hks := seqL_of (K := K) (hs27.get gk)
                  have hs28 := hs27.weak t7
                  have lks : ks.length < 4000 := by omega
                  walk_at "sq go"
                  intro S1 m1 nS1 le1
                  have sS := same_new (o := SetO w S1 (fun j => decide (j ∈ ks)) m1) nS1
                  have gS : upd H19 S1 (SetO w S1 (fun j => decide (j ∈ ks)) m1) S1 = some (SetO w S1 (fun j => decide (j ∈ ks)) m1) := upd_same
                  have lm1 : m1 ≤ sizeLine := by
                    rw [sizeLine_eq]
                    omega
                  walk_at "sq go"
                  intro fs4 p4 as4 ml4 ll4 np4
                  have hsL := SepB.mono (N' := 10000 * i + 3100 + 40 * j + 30) ((hs28.on sS).on (same_new (o := .lst (iv fs4)) np4)) (by omega)
                  have hfs : SqL K (upd (upd H19 S1 (SetO w S1 (fun j => decide (j ∈ ks)) m1)) p4 (.lst (iv fs4))) p4 (iv fs4) := seqL_of upd_same
                  have ndf := asc_nodup as4
                  have bfs : ∀ x ∈ fs4, 1 ≤ x ∧ x ≤ 60 := fun x hx => by
                    have := bk x ((ml4 x).mp hx)
                    omega
                  walk_at "sq go"
                  have lfs := nd_len ndf bfs (by decide)
                  walk_at "sq go"
                  refine ⟨⟨ndf, fun k hk => by have := bfs k hk; omega, by omega⟩, fun p H20 pq asc lf s20 => ?_, fun p row5 ly H20 pq asc lf s20 nly hly => ?_⟩
                  · have hfq := s20.seq hfs
                    walk_at "sq go"
                    refine ⟨⟨ndf, bfs, by omega⟩, fun H21 s21 _ => ?_, fun row6 lw H21 s21 due _ _ => ?_⟩
                    · walk_at "sq go"
                      refine ⟨⟨alike_non⟩, fun H22 s22 => ?_⟩
                      walk_at "sq go"
                      exact ⟨_, _, _, _, _, _, rfl, SepB.mono (((hsL.on s20).on s21).on s22) (by omega)⟩
                    · have z := due p pq asc
                      exact absurd (lof_full z.1 z.2 asc lf) (by simp)
                  · have sg5 := lof_sound lf row5 rfl asc fun k hk => (bfs k (pq.mem_iff.mp hk)).1
                    have l5 : row5.length ≤ 1000000 := by
                      have h1 := len_prod sg5.1
                      have h2 := (bfs _ (pq.mem_iff.mp (sgl_top sg5.1 sg5.2).1)).2
                      omega
                    have hfq := s20.seq hfs
                    walk_at "sq go"
                    refine ⟨⟨ndf, bfs, by omega⟩, fun H21 s21 due => absurd sg5.2 (due p pq asc row5 sg5.1), fun row6 lw H21 s21 due nlw hlw => ?_⟩
                    have z := due p pq asc
                    have e6 : row6 = row5 := sgl_inj z.1 sg5.1 fun x x1 => by
                      have a := z.2 x
                      have b := sg5.2 x
                      constructor
                      · intro y
                        exact (b.mp (a.mpr ⟨x1, y⟩)).2
                      · intro y
                        exact (a.mp (b.mpr ⟨x1, y⟩)).2
                    subst e6
                    walk_at "sq go"
                    refine ⟨⟨alike_ints (seqL_of (s21 _ _ hly)) (seqL_of hlw) l5 (by decide)⟩, fun H22 s22 => ?_⟩
                    walk_at "sq go"
                    exact ⟨_, _, _, _, _, _, rfl, SepB.mono (((hsL.on s20).on s21).on s22) (by omega)⟩
              · walk_at "sq go"
                have hsL := hs25
                have hfs := hpf
                have ndf := n3
                have bfs := b3
                have lfs := nd_len ndf bfs (by decide)
                walk_at "sq go"
                refine ⟨⟨ndf, fun k hk => by have := bfs k hk; omega, by omega⟩, fun p H20 pq asc lf s20 => ?_, fun p row5 ly H20 pq asc lf s20 nly hly => ?_⟩
                · have hfq := s20.seq hfs
                  walk_at "sq go"
                  refine ⟨⟨ndf, bfs, by omega⟩, fun H21 s21 _ => ?_, fun row6 lw H21 s21 due _ _ => ?_⟩
                  · walk_at "sq go"
                    refine ⟨⟨alike_non⟩, fun H22 s22 => ?_⟩
                    walk_at "sq go"
                    exact ⟨_, _, _, _, _, _, rfl, SepB.mono (((hsL.on s20).on s21).on s22) (by omega)⟩
                  · have z := due p pq asc
                    exact absurd (lof_full z.1 z.2 asc lf) (by simp)
                · have sg5 := lof_sound lf row5 rfl asc fun k hk => (bfs k (pq.mem_iff.mp hk)).1
                  have l5 : row5.length ≤ 1000000 := by
                    have h1 := len_prod sg5.1
                    have h2 := (bfs _ (pq.mem_iff.mp (sgl_top sg5.1 sg5.2).1)).2
                    omega
                  have hfq := s20.seq hfs
                  walk_at "sq go"
                  refine ⟨⟨ndf, bfs, by omega⟩, fun H21 s21 due => absurd sg5.2 (due p pq asc row5 sg5.1), fun row6 lw H21 s21 due nlw hlw => ?_⟩
                  have z := due p pq asc
                  have e6 : row6 = row5 := sgl_inj z.1 sg5.1 fun x x1 => by
                    have a := z.2 x
                    have b := sg5.2 x
                    constructor
                    · intro y
                      exact (b.mp (a.mpr ⟨x1, y⟩)).2
                    · intro y
                      exact (a.mp (b.mpr ⟨x1, y⟩)).2
                  subst e6
                  walk_at "sq go"
                  refine ⟨⟨alike_ints (seqL_of (s21 _ _ hly)) (seqL_of hlw) l5 (by decide)⟩, fun H22 s22 => ?_⟩
                  walk_at "sq go"
                  exact ⟨_, _, _, _, _, _, rfl, SepB.mono (((hsL.on s20).on s21).on s22) (by omega)⟩
        · obtain ⟨x5, x9, x10, x11, x12, x13, rfl, hs15⟩ := h.o
          exact ⟨_, _, _, _, _, _, _, _, _, _, _, _, rfl, SepB.mono (hs15.weak t6) (by omega), hi12⟩
    · obtain ⟨a3, a4, a5, a6, a7, a8, a9, a10, a11, a12, a13, a14, rfl, hs, hi11⟩ := h.o
      walk_at "sq go"
      refine ⟨by unfold RgOk; decide, fun l0 nl0 => ?_⟩
      rw [show rgV 1 1025 = iv fx0 from rfl]
      walk_at "sq go"
      refine ⟨fix0.1, fun p J pq asc lf _ => absurd (fix_tell fix0 pq asc lf) (by simp), fun p row l1 J1 pq asc lf u1 nl1 hl1 => ?_⟩
      obtain rfl : row = _ := Option.some.inj (fix_tell fix0 pq asc lf)
      walk_at "sq go"
      intro c1 nc1
      have w1 := same_new (o := .lst (iv [1000000, 2, 999999, 1])) nc1
      have hc1 : SqL K (upd J1 c1 (.lst (iv [1000000, 2, 999999, 1]))) c1 (iv [1000000, 2, 999999, 1]) := seqL_of upd_same
      change _
      walk_at "sq go"
      refine ⟨fix1.1, fun p J pq asc lf _ => absurd (fix_tell fix1 pq asc lf) (by simp), fun p row1 d1 J2 pq asc lf u2 nd1 hd1 => ?_⟩
      obtain rfl : row1 = _ := Option.some.inj (fix_tell fix1 pq asc lf)
      have y1 := w1.trans u2
      walk_at "sq go"
      intro c2 nc2
      have w2 := same_new (o := .lst (iv [1000, 1])) nc2
      have hc2 : SqL K (upd J2 c2 (.lst (iv [1000, 1]))) c2 (iv [1000, 1]) := seqL_of upd_same
      change _
      walk_at "sq go"
      refine ⟨fix2.1, fun p J pq asc lf _ => absurd (fix_tell fix2 pq asc lf) (by simp), fun p row2 d2 J3 pq asc lf u3 nd2 hd2 => ?_⟩
      obtain rfl : row2 = _ := Option.some.inj (fix_tell fix2 pq asc lf)
      have y2 := w2.trans u3
      have g1 := (y1.trans y2) _ _ hl1
      have g2 := y2 _ _ hd1
      have g3 := hd2
      walk_at "sq go"
      intro F0 nF0
      have w3 := same_new (o := .lst [.ref l1, .ref d1, .ref d2]) nF0
      have hF0 : upd J3 F0 (.lst [.ref l1, .ref d1, .ref d2]) F0 = some (.lst [.ref l1, .ref d1, .ref d2]) := upd_same
      have k1 := w3 _ _ g1
      have k2 := w3 _ _ g2
      have k3 := w3 _ _ g3
      have n1F := ne_newL g1 nF0
      have n2F := ne_newL g2 nF0
      have n3F := ne_newL g3 nF0
      generalize upd J3 F0 (.lst [.ref l1, .ref d1, .ref d2]) = J4 at *
      walk_at "sq go"
      intro c3 nc3
      have w4 := same_new (o := .lst (iv [2, 1, 500001, 500000, 1000000])) nc3
      have hc3 : SqL K (upd J4 c3 (.lst (iv [2, 1, 500001, 500000, 1000000]))) c3 (iv [2, 1, 500001, 500000, 1000000]) := seqL_of upd_same
      walk_at "sq go"
      refine ⟨fix3.1, fun p J pq asc lf _ => absurd (fix_tell fix3 pq asc lf) (by simp), fun p row3 d3 J5 pq asc lf u4 nd3 hd3 => ?_⟩
      obtain rfl : row3 = _ := Option.some.inj (fix_tell fix3 pq asc lf)
      have y3 := w4.trans u4
      have m1 := y3 _ _ k1
      have m2 := y3 _ _ k2
      have m3 := y3 _ _ k3
      have mF := y3 _ _ hF0
      have n4F : d3 ≠ F0 := (ne_newL ((w4 _ _ hF0)) nd3).symm
      walk_at "sq go"
      have hF1 : upd J5 F0 (.lst ([.ref l1, .ref d1, .ref d2] ++ [.ref d3])) F0 = some (.lst ([.ref l1, .ref d1, .ref d2] ++ [.ref d3])) := upd_same
      have o1 : upd J5 F0 (.lst ([.ref l1, .ref d1, .ref d2] ++ [.ref d3])) l1 = some (.lst (iv (List.replicate 10 2))) := (upd_ne n1F).trans m1
      have o2 : upd J5 F0 (.lst ([.ref l1, .ref d1, .ref d2] ++ [.ref d3])) d1 = some (.lst (iv [2, 500000])) := (upd_ne n2F).trans m2
      have o3 : upd J5 F0 (.lst ([.ref l1, .ref d1, .ref d2] ++ [.ref d3])) d2 = some (.lst (iv [1000])) := (upd_ne n3F).trans m3
      have o4 : upd J5 F0 (.lst ([.ref l1, .ref d1, .ref d2] ++ [.ref d3])) d3 = some (.lst (iv [500000, 2])) := (upd_ne n4F).trans hd3
      generalize upd J5 F0 (.lst ([.ref l1, .ref d1, .ref d2] ++ [.ref d3])) = J6 at *
      walk_at "sq go"
      intro b0 nb0
      have z0 := same_new (o := .lst [V.int 2]) nb0
      have hb0 : upd J6 b0 (.lst [V.int 2]) b0 = some (.lst [V.int 2]) := upd_same
      walk_at "sq go"
      intro b1 nb1
      have z1 := z0.trans (same_new (o := .lst (iv (List.replicate 10 2))) nb1)
      have hb1 : upd (upd J6 b0 (.lst [V.int 2])) b1 (.lst (iv (List.replicate 10 2))) b1 = some (.lst (iv (List.replicate 10 2))) := upd_same
      walk_at "sq go"
      intro b2 nb2
      have z2 := z1.trans (same_new (o := .lst (iv [2, 500000])) nb2)
      have hb2 := upd_same (H := upd (upd J6 b0 (.lst [V.int 2])) b1 (.lst (iv (List.replicate 10 2)))) (a := b2) (o := .lst (iv [2, 500000]))
      have hb1' := upd_keep (o := .lst (iv [2, 500000])) nb2 hb1
      walk_at "sq go"
      intro b3 nb3
      have z3 := z2.trans (same_new (o := .lst (iv [1000])) nb3)
      have hb3 := upd_same (H := upd (upd (upd J6 b0 (.lst [V.int 2])) b1 (.lst (iv (List.replicate 10 2)))) b2 (.lst (iv [2, 500000]))) (a := b3) (o := .lst (iv [1000]))
      have hb1'' := upd_keep (o := .lst (iv [1000])) nb3 hb1'
      have hb2' := upd_keep (o := .lst (iv [1000])) nb3 hb2
      walk_at "sq go"
      intro b4 nb4
      have z4 := z3.trans (same_new (o := .lst (iv [500000, 2])) nb4)
      have hb4 := upd_same (H := upd (upd (upd (upd J6 b0 (.lst [V.int 2])) b1 (.lst (iv (List.replicate 10 2)))) b2 (.lst (iv [2, 500000]))) b3 (.lst (iv [1000]))) (a := b4) (o := .lst (iv [500000, 2]))
      have q1' := upd_keep (o := .lst (iv [500000, 2])) nb4 hb1''
      have q2' := upd_keep (o := .lst (iv [500000, 2])) nb4 hb2'
      have q3' := upd_keep (o := .lst (iv [500000, 2])) nb4 hb3
      walk_at "sq go"
      intro b5 nb5
      have z5 := z4.trans (same_new (o := .lst [.ref b1, .ref b2, .ref b3, .ref b4]) nb5)
      walk_at "sq go"
      refine ⟨⟨alike_four (n1 := List.replicate 10 2) (n2 := [2, 500000]) (n3 := [1000]) (n4 := [500000, 2]) (seqL_of (z5 _ _ hF1)) (seqL_of upd_same) (seqL_of (z5 _ _ o1)) (seqL_of (z5 _ _ o2)) (seqL_of (z5 _ _ o3)) (seqL_of (z5 _ _ o4))
        (seqL_of (upd_keep nb5 q1')) (seqL_of (upd_keep nb5 q2')) (seqL_of (upd_keep nb5 q3')) (seqL_of (upd_keep nb5 hb4)) (by decide) (by decide) (by decide) (by decide) (by decide)⟩, fun J7 z6 => ?_⟩
      walk_at "sq go"
      intro e1 ne1
      have x1 := same_new (o := .lst (iv [1, 2, 3, 4, 6])) ne1
      have he1 : SqL K (upd J7 e1 (.lst (iv [1, 2, 3, 4, 6]))) e1 (iv [1, 2, 3, 4, 6]) := seqL_of upd_same
      walk_at "sq go"
      refine ⟨fix4.1, fun p J pq asc lf _ => absurd (fix_tell fix4 pq asc lf) (by simp), fun p rw1 i1 I1 pq asc lf v1 ni1 hi1 => ?_⟩
      obtain rfl : rw1 = _ := Option.some.inj (fix_tell fix4 pq asc lf)
      walk_at "sq go"
      intro t1 nt1
      refine r_eqI (xs := [3, 2]) (ys := [3, 2]) ((same_new nt1).seq (seqL_of hi1)) (seqL_of upd_same) ?_
      
      walk_at "sq go"
      intro e2 ne2
      have he2 : SqL K (upd (upd I1 t1 (.lst (iv [3, 2]))) e2 (.lst (iv [1]))) e2 (iv [1]) := seqL_of upd_same
      walk_at "sq go"
      refine ⟨fix5.1, fun p J pq asc lf _ => absurd (fix_tell fix5 pq asc lf) (by simp), fun p rw2 i2 I2 pq asc lf v2 ni2 hi2 => ?_⟩
      obtain rfl : rw2 = _ := Option.some.inj (fix_tell fix5 pq asc lf)
      walk_at "sq go"
      intro t2 nt2
      refine r_eqI (xs := []) (ys := []) ((same_new nt2).seq (seqL_of hi2)) (seqL_of upd_same) ?_
      walk_at "sq go"
      intro e3 ne3
      have he3 : SqL K (upd (upd I2 t2 (.lst [])) e3 (.lst (iv [3, 1]))) e3 (iv [3, 1]) := seqL_of upd_same
      walk_at "sq go"
      refine ⟨fix6.1, fun p J pq asc lf _ => absurd (fix_tell fix6 pq asc lf) (by simp), fun p rw3 i3 I3 pq asc lf v3 ni3 hi3 => ?_⟩
      obtain rfl : rw3 = _ := Option.some.inj (fix_tell fix6 pq asc lf)
      walk_at "sq go"
      intro t3 nt3
      refine r_eqI (xs := [3]) (ys := [3]) ((same_new nt3).seq (seqL_of hi3)) (seqL_of upd_same) ?_
      walk_at "sq go"
      exact q _
end
end Sq
open PySem PySem.W PyProof.Rows in
set_option maxRecDepth 100000 in
set_option maxHeartbeats 0 in
theorem PySem.Challenge.cw_squeezelists_k15_lists_read_back_holds : PySem.Challenge.rw_squeezelists_k15_lists_read_back.Holds := by
  w_on; o_law; k_head; (case hw => w_witness2)
  k_fill
  refine Sq.walk_ofG (l := PySem.Challenge.rw_squeezelists_k15_lists_read_back) (n := 63) (k := 7) (x := "script") (sp := Sq.spLaw) rfl (by decide) rfl ⟨rfl, by decide, by decide⟩ (fun w h Y => PySem.W.kIn_of Y) ?F (fun K H a ns hl hS => ⟨a, ns, rfl, hS, hl, fun _ => rfl⟩)
  case F =>
    intro w mg fa h KX G hmg
    have B : Sq.Bt mg := by
      refine' ⟨PySem.W.mg_none_of KX G ?z0, PySem.W.mg_none_of KX G ?z1, PySem.W.mg_none_of KX G ?z2, PySem.W.mg_none_of KX G ?z3, PySem.W.mg_none_of KX G ?z4, PySem.W.mg_none_of KX G ?z5, PySem.W.mg_none_of KX G ?z6, PySem.W.mg_none_of KX G ?z7, PySem.W.mg_none_of KX G ?z8, PySem.W.mg_none_of KX G ?z9, PySem.W.mg_none_of KX G ?z10, PySem.W.mg_none_of KX G ?z11, PySem.W.mg_none_of KX G ?z12, PySem.W.mg_none_of KX G ?z13⟩
      (case z0 => k_is)
      (case z1 => k_is)
      (case z2 => k_is)
      (case z3 => k_is)
      (case z4 => k_is)
      (case z5 => k_is)
      (case z6 => k_is)
      (case z7 => k_is)
      (case z8 => k_is)
      (case z9 => k_is)
      (case z10 => k_is)
      (case z11 => k_is)
      (case z12 => k_is)
      (case z13 => k_is)
    have g_SINGLE : ∃ u, mg "SINGLE" = some u ∧ L2.RelV (L2.V.int 1) u := by
      refine' ⟨?u_SINGLE, PySem.W.mg_of KX G ?a_SINGLE, ?r_SINGLE⟩
      (case a_SINGLE => k_is)
      (case r_SINGLE => first | exact ⟨_, rfl⟩ | exact ⟨_, congrArg (fun z => PySem.Value.str z _) (by decide +kernel)⟩)
    refine' Sq.cutD (Sq.DefAt.mk1 (x := "squeezed_once") (st := Sq.s_squeezed_once) (ps := ["length", "replacement"]) KX G ?a_squeezed_once ?l_squeezed_once ?c_squeezed_once ?k_squeezed_once (fun _ _ _ _ _ _ us hl => match us, hl with | [_, _], _ => rfl)) ?_
    (case a_squeezed_once => k_is); (case l_squeezed_once => k_is); (case c_squeezed_once => k_is); (case k_squeezed_once => k_is)
    intro D_squeezed_once
    refine' Sq.cutD (Sq.DefAt.mk1 (x := "list_of") (st := Sq.s_list_of) (ps := ["singles"]) KX G ?a_list_of ?l_list_of ?c_list_of ?k_list_of (fun _ _ _ _ _ _ us hl => match us, hl with | [_], _ => rfl)) ?_
    (case a_list_of => k_is); (case l_list_of => k_is); (case c_list_of => k_is); (case k_list_of => k_is)
    intro D_list_of
    refine' Sq.cutD (Sq.DefAt.mk1 (x := "is_complete") (st := Sq.s_is_complete) (ps := ["present", "later", "replacement"]) KX G ?a_is_complete ?l_is_complete ?c_is_complete ?k_is_complete (fun _ _ _ _ _ _ us hl => match us, hl with | [_, _, _], _ => rfl)) ?_
    (case a_is_complete => k_is); (case l_is_complete => k_is); (case c_is_complete => k_is); (case k_is_complete => k_is)
    intro D_is_complete
    refine' Sq.cutD (Sq.DefAt.mk1 (x := "_law_source") (st := Sq.s_law_source) (ps := ["script"]) KX G ?a_law_source ?l_law_source ?c_law_source ?k_law_source (fun _ _ _ _ _ _ us hl => match us, hl with | [_], _ => rfl)) ?_
    (case a_law_source => k_is); (case l_law_source => k_is); (case c_law_source => k_is); (case k_law_source => k_is)
    intro D_law_source
    refine' Sq.cutD (Sq.DefAt.mk1 (x := "_law_draw") (st := Sq.s_law_draw) (ps := ["source", "many"]) KX G ?a_law_draw ?l_law_draw ?c_law_draw ?k_law_draw (fun _ _ _ _ _ _ us hl => match us, hl with | [_, _], _ => rfl)) ?_
    (case a_law_draw => k_is); (case l_law_draw => k_is); (case c_law_draw => k_is); (case k_law_draw => k_is)
    intro D_law_draw
    refine' Sq.cutD (Sq.DefAt.mk1 (x := "_law_row") (st := Sq.s_law_row) (ps := ["source", "many", "wide"]) KX G ?a_law_row ?l_law_row ?c_law_row ?k_law_row (fun _ _ _ _ _ _ us hl => match us, hl with | [_, _, _], _ => rfl)) ?_
    (case a_law_row => k_is); (case l_law_row => k_is); (case c_law_row => k_is); (case k_law_row => k_is)
    intro D_law_row
    refine' Sq.cutD (Sq.DefAt.mk1 (x := "_law_same") (st := Sq.s_law_same) (ps := ["found", "wanted"]) KX G ?a_law_same ?l_law_same ?c_law_same ?k_law_same (fun _ _ _ _ _ _ us hl => match us, hl with | [_, _], _ => rfl)) ?_
    (case a_law_same => k_is); (case l_law_same => k_is); (case c_law_same => k_is); (case k_law_same => k_is)
    intro D_law_same
    refine' Sq.cutD (Sq.DefAt.mk1 (x := "_law_once") (st := Sq.s_law_once) (ps := ["run", "one"]) KX G ?a_law_once ?l_law_once ?c_law_once ?k_law_once (fun _ _ _ _ _ _ us hl => match us, hl with | [_, _], _ => rfl)) ?_
    (case a_law_once => k_is); (case l_law_once => k_is); (case c_law_once => k_is); (case k_law_once => k_is)
    intro D_law_once
    refine' Sq.cutD (Sq.DefAt.mk1 (x := "_law_squeezed") (st := Sq.s_law_squeezed) (ps := ["run", "row"]) KX G ?a_law_squeezed ?l_law_squeezed ?c_law_squeezed ?k_law_squeezed (fun _ _ _ _ _ _ us hl => match us, hl with | [_, _], _ => rfl)) ?_
    (case a_law_squeezed => k_is); (case l_law_squeezed => k_is); (case c_law_squeezed => k_is); (case k_law_squeezed => k_is)
    intro D_law_squeezed
    refine' Sq.cutD (Sq.DefAt.mk1 (x := "_law_products") (st := Sq.s_law_products) (ps := ["top"]) KX G ?a_law_products ?l_law_products ?c_law_products ?k_law_products (fun _ _ _ _ _ _ us hl => match us, hl with | [_], _ => rfl)) ?_
    (case a_law_products => k_is); (case l_law_products => k_is); (case c_law_products => k_is); (case k_law_products => k_is)
    intro D_law_products
    refine' Sq.cutD (Sq.DefAt.mk1 (x := "_law_singles") (st := Sq.s_law_singles) (ps := ["row", "top"]) KX G ?a_law_singles ?l_law_singles ?c_law_singles ?k_law_singles (fun _ _ _ _ _ _ us hl => match us, hl with | [_, _], _ => rfl)) ?_
    (case a_law_singles => k_is); (case l_law_singles => k_is); (case c_law_singles => k_is); (case k_law_singles => k_is)
    intro D_law_singles
    refine' Sq.cutD (Sq.DefAt.mk1 (x := "_law_shuffled") (st := Sq.s_law_shuffled) (ps := ["source", "some"]) KX G ?a_law_shuffled ?l_law_shuffled ?c_law_shuffled ?k_law_shuffled (fun _ _ _ _ _ _ us hl => match us, hl with | [_, _], _ => rfl)) ?_
    (case a_law_shuffled => k_is); (case l_law_shuffled => k_is); (case c_law_shuffled => k_is); (case k_law_shuffled => k_is)
    intro D_law_shuffled
    refine' Sq.cutD (Sq.DefAt.mk1 (x := "_law_due") (st := Sq.s_law_due) (ps := ["some"]) KX G ?a_law_due ?l_law_due ?c_law_due ?k_law_due (fun _ _ _ _ _ _ us hl => match us, hl with | [_], _ => rfl)) ?_
    (case a_law_due => k_is); (case l_law_due => k_is); (case c_law_due => k_is); (case k_law_due => k_is)
    intro D_law_due
    refine' Sq.cutD (Sq.DefAt.mk1 (x := "_law_great_right") (st := Sq.s_law_great_right) (ps := ["source"]) KX G ?a_law_great_right ?l_law_great_right ?c_law_great_right ?k_law_great_right (fun _ _ _ _ _ _ us hl => match us, hl with | [_], _ => rfl)) ?_
    (case a_law_great_right => k_is); (case l_law_great_right => k_is); (case c_law_great_right => k_is); (case k_law_great_right => k_is)
    intro D_law_great_right
    refine' Sq.cutD (Sq.DefAt.mk1 (x := "_law_due_runs") (st := Sq.s_law_due_runs) (ps := ["row"]) KX G ?a_law_due_runs ?l_law_due_runs ?c_law_due_runs ?k_law_due_runs (fun _ _ _ _ _ _ us hl => match us, hl with | [_], _ => rfl)) ?_
    (case a_law_due_runs => k_is); (case l_law_due_runs => k_is); (case c_law_due_runs => k_is); (case k_law_due_runs => k_is)
    intro D_law_due_runs
    refine' Sq.cutD (Sq.DefAt.mk1 (x := "law") (st := Sq.s_law) (ps := ["script"]) KX G ?a_law ?l_law ?c_law ?k_law (fun _ _ _ _ _ _ us hl => match us, hl with | [_], _ => rfl)) ?_
    (case a_law => k_is); (case l_law => k_is); (case c_law => k_is); (case k_law => k_is)
    intro D_law
    obtain ⟨fd, F, hb⟩ := D_law.law hmg (fun _ _ _ _ _ _ us hl => match us, hl with | [_], _ => rfl)
    refine ⟨fd, hb, fun base _ _ => ?_⟩
    have cso := Sq.cal_squeezed_once (P := PySem.Challenge.rw_squeezelists_k15_lists_read_back.prog) (w := w) (base := base) D_squeezed_once B
    have lo := Sq.two_listOf (P := PySem.Challenge.rw_squeezelists_k15_lists_read_back.prog) (w := w) (base := base) D_list_of B g_SINGLE cso (Sq.cal_whole D_is_complete B)
    have lk : Sq.CalK PySem.Challenge.rw_squeezelists_k15_lists_read_back.prog w _ mg base 2 "list_of" ["singles"] (Sq.spListOfK _) := lo.calK (fun {α} (l : List α) => l) (fun {vs us} r => r) (fun kV doc pm an cdv ct ws hl => match ws, hl with | [_], _ => rfl) (by
      rintro zs H Q E ⟨a, rfl, h⟩
      exact ⟨rfl, h⟩)
    have cd := Sq.cal_draw (P := PySem.Challenge.rw_squeezelists_k15_lists_read_back.prog) (w := w) (base := base) D_law_draw B
    have cq := Sq.cal_squeezed (P := PySem.Challenge.rw_squeezelists_k15_lists_read_back.prog) (w := w) (base := base) D_law_squeezed B (Sq.cal_once D_law_once B)
    have cs := Sq.cal_same (P := PySem.Challenge.rw_squeezelists_k15_lists_read_back.prog) (w := w) (base := base) D_law_same B 2
    have sg := Sq.cal_singT (P := PySem.Challenge.rw_squeezelists_k15_lists_read_back.prog) (w := w) (base := base) D_law_singles B cq
    have du := Sq.cal_dueT (P := PySem.Challenge.rw_squeezelists_k15_lists_read_back.prog) (w := w) (base := base) D_law_due B (Sq.cal_products D_law_products B) sg
    have gr := Sq.cal_great (P := PySem.Challenge.rw_squeezelists_k15_lists_read_back.prog) (w := w) (base := base) D_law_great_right B cd lo.cal cs (Sq.cal_dueRuns D_law_due_runs B)
    refine Sq.ok_law F B (Sq.cal_source D_law_source B) cd (Sq.cal_row D_law_row B cd) sg (Sq.cal_shuf D_law_shuffled B cd) lo.cal lk cs gr du
