import PyProof.Rows.All
import Wide.All
import OpenK.AllK
import Wide.FinOn
import HandS.ForMost
import HandS.Wide
import HandS.Style
import HandS.SortInts
import HandS.Deep
import HandS.Defaults
import HandS.Flow
import HandS.IsInst
import HandS.Codes
import HandS.NoneIn
import HandS.Property
import HandS.RaiseMore
import PyProof.ReprRoads
import PyProof.LongRange
import HandS.Exc
import HandS.ExcInit
import HandS.NestedK
import KE.KExcSuper
import HandS.ExcIs
import HandS.ExcField
import KE.KExcIs
import HandS.WordsExc
import HandS.MakeKwOnly
import HandS.SetFor
import KE.RegKIsAll
import HandS.Walk
import HandS.Star
import KE.KUnpackStar
import PyProof.GenQ
import PyProof.GenRules
import HandS.GenOver
import HandS.GenList
import HandS.GenCall
import HandS.GenYield
import PyProof.GenComp
import HandS.ExcCtx
import HandS.HotCalls
import HandS.Hot
import PyProof.TupleIter
import PySem.Challenge.RW_squeezelists_k11_errors_of_reaches_and_o
set_option Elab.async false
set_option linter.all false
set_option maxRecDepth 100000
set_option maxHeartbeats 4000000
namespace Sq
open PySem PySem.Spec PyProof.Rows L2
/-! ## operators -/
/-- a power whose base has at most 100000 bits -/
def CPowW (i j : Int) : Prop := 0 ≤ j ∧ j ≤ 1000 ∧ i.natAbs.log2 < 100000
theorem bitsOf_le (i : Int) : Builtin.Int.intBits i ≤ i.natAbs.log2 + 1 := by
  unfold Builtin.Int.intBits
  split <;> omega
theorem op_powW {X : Cx} : OpR X (binaryOp .Pow) (rI CPowW fun i j => .int (i ^ j.toNat)) := opI fun i j _ _ _ _ _ hc q => by
  obtain ⟨h1, h2, h3⟩ := hc
  refine pow_int h1 ?_ q
  have hb := bitsOf_le i
  have h4 : ((Builtin.Int.intBits i : Nat) : Int) ≤ 100000 := by omega
  have h5 := Int.mul_le_mul h4 h2 h1 (by decide : (0 : Int) ≤ 100000)
  exact Int.le_trans h5 (by decide)
def ipIC (C : Int → Int → Prop) (f : Int → Int → Int) : TIp := fun x y H Q => ∃ i j, x = .int i ∧ y = .int j ∧ C i j ∧ Q (.int (f i j)) H
section
variable {X : Cx}
theorem ip_mulW : PIp X .Mult (ipIC CMulW fun i j => i * j) := by
  intro pins s σ H x y v u Q I r1 r2 h
  obtain ⟨i, j, e1, e2, c, q⟩ := h
  subst e1; subst e2
  obtain ⟨t, rfl⟩ := r1
  obtain ⟨t', rfl⟩ := r2
  exact imul_int ⟨.int _, H, I.tok _, ⟨_, rfl⟩, q⟩ c.ok
theorem ip_fdivW : PIp X .FloorDiv (ipIC CDivW fun i j => i / j) := by
  intro pins s σ H x y v u Q I r1 r2 h
  obtain ⟨i, j, e1, e2, c, q⟩ := h
  subst e1; subst e2
  obtain ⟨t, rfl⟩ := r1
  obtain ⟨t', rfl⟩ := r2
  have h1 : (0 : Int) < j := c.1
  refine ifloordiv_int (by omega) ?_ (.inl (PyProof.noPylong_of_log2 c.2))
  rw [Int.fdiv_eq_ediv_of_nonneg i (by omega)]
  exact ⟨.int _, H, I.tok _, ⟨_, rfl⟩, q⟩
end
/-- numbers below 2 ^ n have a small log2 -/
theorem lg_lt {i : Int} {n : Nat} (h : i.natAbs < 2 ^ n) (h0 : 0 < n) : i.natAbs.log2 < n := PySem.Flt.log2_lt_of h0 h

/-! ## sizes -/
/-- at most b bits -/
def Sm (b : Nat) (i : Int) : Prop := i.natAbs < 2 ^ b
theorem Sm.mono {a b : Nat} {i : Int} (h : Sm a i) (hab : a ≤ b) : Sm b i := Nat.lt_of_lt_of_le h (Nat.pow_le_pow_right (by decide) hab)
theorem Sm.lg {b : Nat} {i : Int} (h : Sm b i) (h0 : 0 < b) : i.natAbs.log2 < b := PySem.Flt.log2_lt_of h0 h
theorem Sm.add {b : Nat} {i j : Int} (h : Sm b i) (h' : Sm b j) : Sm (b + 1) (i + j) := by
  have e : 2 ^ (b + 1) = 2 ^ b + 2 ^ b := by rw [Nat.pow_succ]; omega
  unfold Sm at *
  omega
theorem Sm.neg {b : Nat} {i : Int} (h : Sm b i) : Sm b (-i) := by
  unfold Sm at *
  rw [Int.natAbs_neg]
  exact h
theorem Sm.sub {b : Nat} {i j : Int} (h : Sm b i) (h' : Sm b j) : Sm (b + 1) (i - j) := by
  rw [Int.sub_eq_add_neg]
  exact h.add h'.neg
theorem Sm.mul {a b : Nat} {i j : Int} (h : Sm a i) (h' : Sm b j) : Sm (a + b) (i * j) := by
  unfold Sm at *
  rw [Int.natAbs_mul, Nat.pow_add]
  exact Nat.mul_lt_mul'' h h'
theorem Sm.le {b : Nat} {i j : Int} (h : Sm b j) (h0 : 0 ≤ i) (hij : i ≤ j) : Sm b i := by
  unfold Sm at *
  omega
theorem Sm.wide {a b : Nat} {i j : Int} (h : Sm a i) (h' : Sm b j) (ha : 0 < a) (hb : 0 < b) (hab : a + b ≤ 1000000) : CMulW i j := by
  have h1 := h.lg ha
  have h2 := h'.lg hb
  unfold CMulW
  omega
/-- a small number -/
theorem Sm.of {b : Nat} {i : Int} (h : i.natAbs < 2 ^ 10) (hb : 10 ≤ b) : Sm b i := Sm.mono (a := 10) h hb
theorem div_ok {i k : Int} (h : 0 < k) (h2 : k < 2 ^ 240) : CDivW i k := ⟨h, Nat.lt_trans ((show Sm 240 k by unfold Sm; omega).lg (by decide)) (by decide)⟩
theorem pow_ok {b : Nat} {i j : Int} (h : Sm b i) (h0 : 0 < b) (hb : b ≤ 100000) (j0 : 0 ≤ j) (j1 : j ≤ 1000) : CPowW i j := ⟨j0, j1, Nat.lt_of_lt_of_le (h.lg h0) hb⟩
/-! ## rules whose reading speaks of the written part K itself (a comprehension's block has it too) -/
section
variable {X : Cx} {K : PySem.W.Frag}
theorem ix_listK (h : X.K = K := by rfl) : IxR X (rIxL K) := by subst h; exact ix_list
theorem ix_tupK (h : X.K = K := by rfl) : IxR X (rIxT K) := by subst h; exact ix_tup
theorem sl_listK (h : X.K = K := by rfl) : SlR X (rSlL K) := by subst h; exact sl_list
theorem sl_tupK (h : X.K = K := by rfl) : SlR X (rSlT K) := by subst h; exact sl_tup
def rLenQ (K : PySem.W.Frag) : List V → Hp → VK → Prop := fun xs H Q => ∃ p ys, xs = [.ref p] ∧ SqL K H p ys ∧ Q (.int ys.length) H
theorem len_seqK (h : X.K = K := by rfl) : CallR X (.builtin "len") (rLenQ K) := by
  subst h
  intro pins s σ H xs us Q I r q
  obtain ⟨p, ys, e, hs, q⟩ := q
  exact call_len_seq pins s σ H xs us Q I r ⟨p, ys, e, .inl hs, q⟩
/-- readings that are not to be opened by themselves -/
@[irreducible] def rEqQ (K : PySem.W.Frag) : R2 := rEqD K
@[irreducible] def rNeQ (K : PySem.W.Frag) : R2 := rNeD K
@[irreducible] def rInQ (K : PySem.W.Frag) : R2 := rInD K
@[irreducible] def rNotInQ (K : PySem.W.Frag) : R2 := rNotInD K
theorem rEqQ_of {H : Hp} {x y : V} {Q : VK} (h : rEqD K x y H Q) : rEqQ K x y H Q := by unfold rEqQ; exact h
theorem rNeQ_of {H : Hp} {x y : V} {Q : VK} (h : rNeD K x y H Q) : rNeQ K x y H Q := by unfold rNeQ; exact h
theorem rInQ_of {H : Hp} {x y : V} {Q : VK} (h : rInD K x y H Q) : rInQ K x y H Q := by unfold rInQ; exact h
theorem rNotInQ_of {H : Hp} {x y : V} {Q : VK} (h : rNotInD K x y H Q) : rNotInQ K x y H Q := by unfold rNotInQ; exact h
theorem op_eqDK (hu : X.A.units + 64 < cLine) (h : X.K = K := by rfl) : OpR X (compareOp .Eq) (rEqQ K) := by subst h; unfold rEqQ; exact op_eqD hu
theorem op_neDK (hu : X.A.units + 64 < cLine) (h : X.K = K := by rfl) : OpR X (compareOp .NotEq) (rNeQ K) := by subst h; unfold rNeQ; exact op_neD hu
theorem op_inDK (hu : X.A.units + 65 < cLine) (h : X.K = K := by rfl) : OpR X (compareOp .In) (rInQ K) := by subst h; unfold rInQ; exact op_inD hu
theorem op_notInDK (hu : X.A.units + 65 < cLine) (h : X.K = K := by rfl) : OpR X (compareOp .NotIn) (rNotInQ K) := by subst h; unfold rNotInQ; exact op_notInD hu
theorem isiK (h : X.K = K := by rfl) : CallR X (.builtin "isinstance") (rIsi K) := by subst h; exact call_isi
def rListOf (K : PySem.W.Frag) : List V → Hp → VK → Prop := fun xs H Q => ∃ p ys, xs = [.ref p] ∧ SqL K H p ys ∧ ∀ l, H l = none → Q (.ref l) (upd H l (.lst ys))
theorem list_ofK (h : X.K = K := by rfl) : CallR X (.type "list") (rListOf K) := by
  subst h
  intro pins s σ H xs us Q I r q
  obtain ⟨p, ys, e, hs, q⟩ := q
  exact call_list_of pins s σ H xs us Q I r ⟨p, ys, e, .inl hs, q⟩
theorem cr_sumK (hc : X.calm = true) (h : X.K = K := by rfl) : CallR X (.builtin "sum") (rSum K) := by subst h; exact cr_sum hc
theorem cr_maxK (hc : X.calm = true) (h : X.K = K := by rfl) : CallR X (.builtin "max") (rMax K) := by subst h; exact cr_max hc
theorem cr_minK (hc : X.calm = true) (h : X.K = K := by rfl) : CallR X (.builtin "min") (rMin K) := by subst h; exact cr_min hc
theorem cr_allK (hc : X.calm = true) (h : X.K = K := by rfl) : CallR X (.builtin "all") (rAll K) := by subst h; exact cr_all hc
theorem cr_anyK (hc : X.calm = true) (h : X.K = K := by rfl) : CallR X (.builtin "any") (rAny K) := by subst h; exact cr_any hc
theorem cr_sortedIK (h : X.K = K := by rfl) : CallR X (.builtin "sorted") (rSortedI K) := by subst h; exact cr_sortedI
variable {e a b : Expr} {te ta tb : TE} {es : List Expr} {t : TA} {tgs : TGs} {tg : Expr} {pos p q : Pos} {n : Nat}
theorem pi_listK (he : PE X e te) (h : X.K = K := by rfl) : PI X tg e (iList K te) := by subst h; exact pi_list he
theorem pg_tupK {k : Nat} (hc : X.calm = true) (hg : PGs X es tgs) (hn : (assignEach es X.env).length = n := by rfl) (hst : (assignEach es X.env).findIdx? (·.1) = none := by rfl) (h : X.K = K := by rfl) : PG X (.Tuple es k pos) (gTup K n tgs) := by
  subst h
  exact pg_tup hc hg hn hst
theorem pg_lstK {k : Nat} (hc : X.calm = true) (hg : PGs X es tgs) (hn : (assignEach es X.env).length = n := by rfl) (hst : (assignEach es X.env).findIdx? (·.1) = none := by rfl) (h : X.K = K := by rfl) : PG X (.Tuple es k pos) (gUnl K n tgs) := by
  subst h
  exact pg_unl hc hg hn hst
theorem pi_enumK {elts : List Expr} {kk : Nat} (hg : Gl X "enumerate") (hm : X.mg "enumerate" = none) (ha : PA X [e] t) (hs : starEach [e] X.env = [(false, eval e X.env)] := by rfl) (h : X.K = K := by rfl) :
    PI X (.Tuple elts kk p) (.Call (.Name "enumerate" q) [e] [] pos) (iEnum K t) := by
  subst h
  exact pi_enum hg hm ha hs
theorem pi_zipK {elts : List Expr} {kk : Nat} (hg : Gl X "zip") (hm : X.mg "zip" = none) (ha : PA X [a, b] t) (hs : starEach [a, b] X.env = (false, eval a X.env) :: starEach [b] X.env := by rfl)
    (hpl : (backTo pos (starEach [b] X.env)).any (·.1) = false := by rfl) (h : X.K = K := by rfl) : PI X (.Tuple elts kk p) (.Call (.Name "zip" q) [a, b] [] pos) (iZip K t) := by
  subst h
  exact pi_zip hg hm ha hs hpl
theorem pe_revLK {k : Nat} {p1 p2 p3 : Pos} (he : PE X e te) (h : X.K = K := by rfl) : PE X (.Subscript e (.Slice none none (some (.UnaryOp .USub (.Constant (.int 1) k p1) p2)) p3) pos) (tRevL K te) := by
  subst h
  exact pe_revL he
theorem pe_fldK {f : Str} (he : PE X e te) (hb : attributeBase e f X.env (eval e X.env) = eval e X.env := by rfl) (h : X.K = K := by rfl) : PE X (.Attribute e f pos) (tFld K te f) := by
  subst h
  exact pe_fld he hb
end

/-! ## heaps -/
/-- what holds between the turns of a loop (a wrapper: it is not taken apart by itself) -/
structure Keep (P : Prop) : Prop where
  o : P

theorem Same.get {H H' : Hp} {a : Addr} {o : HO} (s : Same H H') (h : H a = some o) : H' a = some o := s a o h
theorem same_new {H : Hp} {p : Addr} {o : HO} (h : H p = none) : Same H (upd H p o) := fun b u e => by
  rw [upd_ne (ne_of_none e h)]
  exact e
theorem upd_keep {H : Hp} {p a : Addr} {o u : HO} (n : H p = none) (h : H a = some u) : upd H p o a = some u := same_new n a u h
theorem upd_off {H : Hp} {p a : Addr} {o u : HO} (n : a ≠ p) (h : H a = some u) : upd H p o a = some u := by
  rw [upd_ne n]
  exact h
/-- a source of draws: what is true of it, where it stands -/
structure Rg where
  I : Hp → Prop
  S : Addr → Prop
  loc : ∀ H H' : Hp, (∀ a, S a → H' a = H a) → I H → I H'
  has : ∀ (H : Hp) (a : Addr), I H → S a → H a ≠ none
/-- the heap H is the quiet part G and the source -/
structure Sep (R : Rg) (G H : Hp) : Prop where
  inv : R.I H
  same : Same G H
  off : ∀ a, R.S a → G a = none
section
variable {R : Rg} {G G' H H' : Hp} {p a : Addr} {o u : HO}
theorem Sep.get (s : Sep R G H) (h : G a = some o) : H a = some o := s.same a o h
theorem Sep.free (s : Sep R G H) (h : H p = none) : G p = none := s.same.free h
theorem Sep.weak (s : Sep R G H) (h : Same G' G) : Sep R G' H := ⟨s.inv, h.trans s.same, fun a ha => by
  cases q : G' a with
  | none => rfl
  | some o =>
    have z := h a o q
    rw [s.off a ha] at z
    cases z⟩
theorem Sep.new (s : Sep R G H) (h : H p = none) (o : HO) : Sep R (upd G p o) (upd H p o) := by
  have np : ∀ a, R.S a → a ≠ p := fun a ha e => R.has H a s.inv ha (by rw [e]; exact h)
  refine ⟨R.loc H _ (fun a ha => upd_ne (np a ha)) s.inv, fun b x e => ?_, fun a ha => by rw [upd_ne (np a ha)]; exact s.off a ha⟩
  by_cases hb : b = p
  · rw [hb, upd_same] at e
    rw [hb, upd_same]
    exact e
  · rw [upd_ne hb] at e
    rw [upd_ne hb]
    exact s.same b x e
/-- a store into an object of the quiet part -/
theorem Sep.put (s : Sep R G H) (h : G p = some u) (o : HO) : Sep R (upd G p o) (upd H p o) := by
  have np : ∀ a, R.S a → a ≠ p := fun a ha e => by
    have z := s.off a ha
    rw [e, h] at z
    cases z
  refine ⟨R.loc H _ (fun a ha => upd_ne (np a ha)) s.inv, fun b x e => ?_, fun a ha => by rw [upd_ne (np a ha)]; exact s.off a ha⟩
  by_cases hb : b = p
  · rw [hb, upd_same] at e
    rw [hb, upd_same]
    exact e
  · rw [upd_ne hb] at e
    rw [upd_ne hb]
    exact s.same b x e
/-- behind something that only makes new things -/
theorem Sep.on (s : Sep R G H) (h : Same H H') : Sep R G H' := by
  refine ⟨R.loc H _ (fun a ha => ?_) s.inv, s.same.trans h, s.off⟩
  cases q : H a with
  | none => exact absurd q (R.has H a s.inv ha)
  | some o => exact h a o q
theorem Sep.grow (s : Sep R G H) (h : Same H H') (n : H p = none) (e : H' p = some o) : Sep R (upd G p o) H' := by
  have s' := s.on h
  have np : ∀ a, R.S a → a ≠ p := fun a ha z => R.has H a s.inv ha (by rw [z]; exact n)
  refine ⟨s'.inv, fun b x q => ?_, fun a ha => by rw [upd_ne (np a ha)]; exact s.off a ha⟩
  by_cases hb : b = p
  · rw [hb, upd_same] at q
    rw [hb, e]
    exact q
  · rw [upd_ne hb] at q
    exact s'.same b x q
end
/-- a source of draws that is a list of three ints: digits, a mix, a count that is at most N -/
def R3 (r : Addr) (N a b c : Int) (H : Hp) : Prop := H r = some (.lst [.int a, .int b, .int c]) ∧ 0 ≤ a ∧ 0 ≤ b ∧ b < 2 ^ 100 ∧ 0 ≤ c ∧ c ≤ N
def rg3 (r : Addr) (N : Int) : Rg where
  I := fun H => ∃ a b c, R3 r N a b c H
  S := fun x => x = r
  loc := fun H H' e ⟨a, b, c, h1, h2⟩ => ⟨a, b, c, (e r rfl).trans h1, h2⟩
  has := fun H x ⟨a, b, c, h1, _⟩ hx => by
    subst hx
    rw [h1]
    exact fun z => nomatch z
theorem Sep3.redo {r : Addr} {N N' : Int} {G H : Hp} {o : HO} (s : Sep (rg3 r N) G H) (h : ∃ a b c, R3 r N' a b c (upd H r o)) : Sep (rg3 r N') G (upd H r o) := by
  refine ⟨h, fun b u q => ?_, s.off⟩
  have nr : b ≠ r := fun z => by
    have := s.off b z
    rw [q] at this
    cases this
  rw [upd_ne nr]
  exact s.same b u q
theorem Sep3.mono {r : Addr} {N N' : Int} {G H : Hp} (s : Sep (rg3 r N) G H) (h : N ≤ N') : Sep (rg3 r N') G H := by
  obtain ⟨a, b, c, h1, h2, h3, h4, h5, h6⟩ := s.inv
  exact ⟨⟨a, b, c, h1, h2, h3, h4, h5, by omega⟩, s.same, s.off⟩
/-- a draw from it -/
def spDraw3 : Sp := fun vs H Q _ => ∃ (r : Addr) (m N : Int) (G : Hp), vs = [.ref r, .int m] ∧ Sep (rg3 r N) G H ∧ Keep (0 < m ∧ m < 2 ^ 240 ∧ N < 2 ^ 60) ∧ ∀ v H', 0 ≤ v → v < m → Sep (rg3 r (N + 1)) G H' → Q (.int v) H'
theorem seqL_of {K : PySem.W.Frag} {H : Hp} {a : Addr} {xs : List V} (h : H a = some (.lst xs)) : SqL K H a xs := .inl (.inl h)
/-- ints as values -/
abbrev iv (ns : List Int) : List V := ns.map V.int
theorem iv_app (ns : List Int) (x : Int) : iv ns ++ [V.int x] = iv (ns ++ [x]) := by simp
theorem iv_len (ns : List Int) : (iv ns).length = ns.length := List.length_map _
theorem iv_get {ns : List Int} {i : Nat} {x : V} (h : (iv ns)[i]? = some x) : ∃ n, ns[i]? = some n ∧ x = .int n := by
  rw [List.getElem?_map] at h
  cases e : ns[i]? with
  | none =>
    rw [e] at h
    cases h
  | some n =>
    rw [e] at h
    exact ⟨n, rfl, (Option.some.inj h).symm⟩

theorem atI_iv {ns : List Int} {i : Int} (h0 : 0 ≤ i) (h1 : i < ns.length) : ∃ n, atI (iv ns) i = some (.int n) := by
  obtain ⟨j, rfl⟩ := Int.eq_ofNat_of_zero_le h0
  have hj : j < ns.length := by omega
  exact ⟨ns[j], atI_nat (by rw [List.getElem?_map, List.getElem?_eq_getElem hj]; rfl)⟩
theorem seqIx0 {n : Nat} (h : 0 < n) : seqIndex? 0 n = some 0 := by
  unfold seqIndex?
  simp
  omega
theorem lit_len {n : Nat} (h : n ≤ 1000) : n ≤ sizeLine := Nat.le_of_lt (small1000 h)
/-- for i, x in enumerate(xs) -/
theorem for_enum {K : PySem.W.Frag} {a : Addr} {xs : List V} {g : TG} {tb : TS} {D : Ends} {σ : L2.St} {H : Hp} (Pv : Nat → L2.St → Hp → Prop) (h0 : Pv 0 σ H) (hq : ∀ i σ H, Pv i σ H → SqL K H a xs)
    (hs : ∀ (i : Nat) (x : V) (T : Addr) (σ : L2.St) (H : Hp), xs[i]? = some x → Pv i σ H → H T = none → g (.ref T) σ (upd H T (.tup [.int (i : Nat), x])) fun σ2 H2 => tb { D with nx := Pv (i + 1), ct := Pv (i + 1), bk := D.nx } σ2 H2) (hd : ∀ σ H, Pv xs.length σ H → D.nx σ H) :
    ∃ W : Nat → Nat → L2.St → Hp → Prop, (∃ m, W 0 m σ H) ∧ ∀ i m σ H, W i m σ H → ((Ite K a).stop i H ∧ D.nx σ H) ∨
      ((Ite K a).go i H ∧ ∃ N : L2.St → Hp → Prop, (∀ σ' H', N σ' H' → ∃ m', m' < m ∧ W (i + 1) m' σ' H') ∧ ∀ v H', (Ite K a).yld i H v H' → g v σ H' fun σ2 H2 => tb { D with nx := N, ct := N, bk := D.nx } σ2 H2) := by
  refine ⟨fun i m σ H => m + i = xs.length ∧ Pv i σ H, ⟨xs.length, rfl, h0⟩, fun i m σ H hW => ?_⟩
  obtain ⟨em, p⟩ := hW
  have q := hq i σ H p
  by_cases lt : i < xs.length
  · have ex : xs[i]? = some xs[i] := List.getElem?_eq_getElem lt
    refine .inr ⟨⟨xs, _, q, ex⟩, Pv (i + 1), fun σ' H' p' => ⟨m - 1, by omega, by omega, p'⟩, fun v H' hy => ?_⟩
    obtain ⟨T, x, rfl, nT, rfl, f⟩ := hy
    exact hs i x T σ H (f xs q) p nT
  · have ei : i = xs.length := by omega
    subst ei
    exact .inl ⟨⟨xs, q, Nat.le_refl _⟩, hd σ H p⟩

/-! ## repr of data, where no repr is under way -/
@[irreducible] def rReprD (K : PySem.W.Frag) : List V → Hp → VK → Prop := fun xs H Q => ∃ (a : Addr) (d : PyData), xs = [.ref a] ∧ Dp K H (.ref a) d ∧ d.showable = true ∧ d.hasDict = false ∧ d.depth ≤ 30 ∧ d.shown.length ≤ sizeLine ∧ Q (.str d.shown) H
theorem call_reprDK {X : Cx} {K : PySem.W.Frag} (hG : X.A.guards = some []) (hu : X.A.units + 64 < cLine) (h : X.K = K := by rfl) : CallR X (.builtin "repr") (rReprD K) := by
  subst h
  intro pins s σ H xs us Q I r h
  unfold rReprD at h
  obtain ⟨a, d, rfl, hd, hs, hn, hdp, hz, q⟩ := h
  obtain ⟨v, rfl, rv⟩ := vals1 r
  cases rv
  obtain ⟨as, rd⟩ := Dp.reads I d _ _ hd rfl
  refine repr_of_reads' rd hs (PyData.noDict_hsm hn) hG (by omega) (fun b o e => e) (fun h' t tk hk => ?_) hz
  exact ⟨.str d.shown, H, I.kept hk, ⟨_, rfl⟩, q⟩
/-! ## lists of ints as data -/
def dI (ns : List Int) : PyData := .list (ns.map .int)
theorem dpall_iv {K : PySem.W.Frag} {H : Hp} : ∀ ns : List Int, DpAll K H (iv ns) (ns.map .int)
  | [] => .nil
  | n :: r => .cons (.int n) (dpall_iv r)
theorem dp_iv {K : PySem.W.Frag} {H : Hp} {a : Addr} {ns : List Int} (h : SqL K H a (iv ns)) : Dp K H (.ref a) (dI ns) := .lst h (dpall_iv ns)
theorem can_ints : ∀ ns : List Int, PyData.canLayAll0 (ns.map .int) = true
  | [] => by simp [PyData.canLayAll0]
  | n :: r => by simp [PyData.canLayAll0, PyData.canLay0, can_ints r]
theorem dep_ints : ∀ ns : List Int, PyData.depthAll (ns.map .int) = 0
  | [] => by simp [PyData.depthAll]
  | n :: r => by simp [PyData.depthAll, PyData.depth, dep_ints r]
theorem eqv_ints : ∀ xs ys : List Int, PyData.eqvAll (xs.map .int) (ys.map .int) = decide (xs = ys)
  | [], [] => by simp [PyData.eqvAll]
  | [], _ :: _ => by simp [PyData.eqvAll]
  | _ :: _, [] => by simp [PyData.eqvAll]
  | x :: r, y :: t => by
    have ih := eqv_ints r t
    simp only [List.map_cons, PyData.eqvAll, PyData.eqv, ih, List.cons.injEq]
    by_cases e : x = y <;> by_cases e2 : r = t <;> simp [e, e2]
theorem shaped_dI (ns : List Int) : SeqAt.shaped (dI ns) = true := by
  unfold SeqAt.shaped dI
  simp only [PyData.canLay0, can_ints, PyData.depth, dep_ints]
  decide
theorem eqv_dI (xs ys : List Int) : PyData.eqv (dI xs) (dI ys) = decide (xs = ys) := by
  unfold dI
  simp only [PyData.eqv, eqv_ints]
theorem shown_ints_len : ∀ ns : List Int, (∀ n ∈ ns, n.natAbs.log2 < 1920) → ((PyData.shownAll (ns.map .int)).map (·.length)).sum ≤ 2000 * ns.length ∧ (PyData.shownAll (ns.map .int)).length = ns.length
  | [], _ => by simp [PyData.shownAll]
  | n :: r, h => by
    obtain ⟨h1, h2⟩ := shown_ints_len r fun m hm => h m (List.mem_cons_of_mem _ hm)
    have e := int_text_length_le (k := 1920) (by decide) (h n (List.mem_cons_self ..))
    have e2 : (PyData.shown (.int n)).length ≤ 2000 := by
      show (Str.ofString (toString n)).length ≤ 2000
      rw [PySem.ofString_length]
      omega
    simp only [List.map_cons, PyData.shownAll, List.sum_cons, List.length_cons]
    omega
theorem show_ints : ∀ ns : List Int, (∀ n ∈ ns, n.natAbs.log2 < 1920) → PyData.showableAll (ns.map .int) = true
  | [], _ => by simp [PyData.showableAll]
  | n :: r, h => by simp [PyData.showableAll, PyData.showable, h n (List.mem_cons_self ..), show_ints r fun m hm => h m (List.mem_cons_of_mem _ hm)]
theorem nod_ints : ∀ ns : List Int, PyData.hasDictAll (ns.map .int) = false
  | [] => by simp [PyData.hasDictAll]
  | n :: r => by simp [PyData.hasDictAll, PyData.hasDict, nod_ints r]
theorem r_eqI {K : PySem.W.Frag} {H : Hp} {a b : Addr} {xs ys : List Int} {Q : VK} (h1 : SqL K H a (iv xs)) (h2 : SqL K H b (iv ys)) (q : Q (.bl (decide (xs = ys))) H) : rEqQ K (.ref a) (.ref b) H Q :=
  rEqQ_of ⟨dI xs, dI ys, dp_iv h1, dp_iv h2, shaped_dI xs, shaped_dI ys, by rw [eqv_dI]; exact q⟩
theorem r_neI {K : PySem.W.Frag} {H : Hp} {a b : Addr} {xs ys : List Int} {Q : VK} (h1 : SqL K H a (iv xs)) (h2 : SqL K H b (iv ys)) (q : Q (.bl (!decide (xs = ys))) H) : rNeQ K (.ref a) (.ref b) H Q :=
  rNeQ_of ⟨dI xs, dI ys, dp_iv h1, dp_iv h2, shaped_dI xs, shaped_dI ys, by rw [eqv_dI]; exact q⟩
theorem r_repr {K : PySem.W.Frag} {H : Hp} {a : Addr} {ns : List Int} {Q : VK} (h1 : SqL K H a (iv ns)) (hl : ns.length ≤ 5000) (hz : ∀ n ∈ ns, n.natAbs.log2 < 1920) (q : Q (.str (dI ns).shown) H) : rReprD K [.ref a] H Q := by
  unfold rReprD
  refine ⟨a, dI ns, rfl, dp_iv h1, ?_, ?_, ?_, ?_, q⟩
  · simp only [dI, PyData.showable]
    exact show_ints ns hz
  · simp only [dI, PyData.hasDict]
    exact nod_ints ns
  · simp only [dI, PyData.depth, dep_ints]
    decide
  · obtain ⟨e1, e2⟩ := shown_ints_len ns hz
    have e3 := listText_len_le (PyData.shownAll (ns.map .int))
    simp only [dI, PyData.shown]
    rw [sizeLine_eq]
    omega
mutual
theorem dp_same {K : PySem.W.Frag} {H H' : Hp} (s : Same H H') : ∀ (d : PyData) (x : V), Dp K H x d → Dp K H' x d
  | .none, _, h => by cases h; exact .non
  | .bool _, _, h => by cases h; exact .bl _
  | .int _, _, h => by cases h; exact .int _
  | .str _, _, h => by cases h; exact .str _
  | .list ds, _, h => by
    cases h with
    | lst a b => exact .lst (s.seq a) (dpall_same s ds _ b)
  | .tuple ds, _, h => by
    cases h with
    | tup a b =>
      refine .tup ?_ (dpall_same s ds _ b)
      rcases a with (a | ⟨o, a⟩) | a
      · exact .inl (.inl (s _ _ a))
      · exact .inl (.inr ⟨o, s _ _ a⟩)
      · exact .inr a
  | .dict _, _, h => nomatch h
theorem dpall_same {K : PySem.W.Frag} {H H' : Hp} (s : Same H H') : ∀ (ds : List PyData) (xs : List V), DpAll K H xs ds → DpAll K H' xs ds
  | [], _, h => by cases h; exact .nil
  | d :: ds, _, h => by
    cases h with
    | cons a b => exact .cons (dp_same s d _ a) (dpall_same s ds _ b)
end
theorem dpall_len {K : PySem.W.Frag} {H : Hp} : ∀ (ds : List PyData) (xs : List V), DpAll K H xs ds → xs.length = ds.length
  | [], _, h => by cases h; rfl
  | d :: ds, _, h => by
    cases h with
    | cons a b => rw [List.length_cons, List.length_cons, dpall_len ds _ b]
theorem dpall_get {K : PySem.W.Frag} {H : Hp} : ∀ (ds : List PyData) (xs : List V), DpAll K H xs ds → ∀ (i : Nat) (d : PyData), ds[i]? = some d → ∃ x, xs[i]? = some x ∧ Dp K H x d
  | [], _, _, _, _, e => by simp at e
  | d :: ds, _, h, i, d', e => by
    cases h with
    | cons a b =>
      cases i with
      | zero =>
        have z : d = d' := by simpa using e
        subst z
        exact ⟨_, rfl, a⟩
      | succ i => exact dpall_get ds _ b i d' (by simpa using e)
theorem tyx_lst {K : PySem.W.Frag} {H : Hp} {a : Addr} {xs : List V} (h : SqL K H a xs) : TyX K H (.ref a) (.type "list") := by
  rcases h with (h | ⟨o, h⟩) | ⟨o, its, n, h1, h2, _⟩
  · exact .base (.lst h)
  · exact .base (.frz h)
  · exact .kList h1 h2
theorem tyx_tup {K : PySem.W.Frag} {H : Hp} {a : Addr} {xs : List V} (h : SqT K H a xs) : TyX K H (.ref a) (.type "tuple") := by
  rcases h with (h | ⟨o, h⟩) | ⟨o, its, n, h1, h2, _⟩
  · exact .base (.tup h)
  · exact .fTuple h
  · exact .kTuple h1 h2
theorem kit_no {K : PySem.W.Frag} : PySem.W.kitOne K (.type "int") (.type "bool") = some false ∧ PySem.W.kitOne K (.type "str") (.type "bool") = some false ∧ PySem.W.kitOne K (.type "list") (.type "bool") = some false ∧
    PySem.W.kitOne K (.type "bool") (.type "int") = some true ∧ PySem.W.kitOne K (.type "int") (.type "int") = some true := ⟨rfl, rfl, rfl, rfl, rfl⟩
/-! ## tests -/
theorem ifD {p A B : Prop} [Decidable p] (h1 : p → A) (h2 : ¬ p → B) : if decide p = true then A else B := by
  by_cases h : p
  · rw [decide_eq_true h]; exact iteT (h1 h)
  · rw [decide_eq_false h]; exact iteF (h2 h)
theorem ifN {p A B : Prop} [Decidable p] (h1 : ¬ p → A) (h2 : p → B) : if (!decide p) = true then A else B := by
  by_cases h : p
  · rw [decide_eq_true h]; exact iteF (h2 h)
  · rw [decide_eq_false h]; exact iteT (h1 h)
theorem ifI {i j : Int} {A B : Prop} (h1 : i = j → A) (h2 : i ≠ j → B) : if decide (V.int i = V.int j) = true then A else B :=
  ifD (fun e => h1 (V.int.inj e)) fun e => h2 fun z => e (congrArg V.int z)
theorem ifIN {i j : Int} {A B : Prop} (h1 : i ≠ j → A) (h2 : i = j → B) : if (!decide (V.int i = V.int j)) = true then A else B :=
  ifN (fun e => h1 fun z => e (congrArg V.int z)) fun e => h2 (V.int.inj e)
/-! ## defs that may ask for repr: called where no repr is under way -/
structure FnG (P : Program) (w : World) (K : PySem.W.Frag) (mg : Str → Option Value) (base : Heap) (CX : CXT) (k : Nat) (f : Addr) (fd : FuncData) (ps : List Str) (sp : Sp) : Prop where
  len : ∀ vs H Q E, sp vs H Q E → vs.length = ps.length
  run : ∀ (A : Around) (outer : List Env) (s : Shared) (H : Hp) (args : Args) (us : List Value) (vs : List V) (Q : VK) (E : XK), Room k A → A.guards = some [] →
    Env0 P w K mg base A outer s H → BindsTo s fd args (ps.zip us) → Vals vs us → sp vs H Q E → codeAny (model P w) A (.call (.ref f) args) (CR CX outer P w H s Q E) s
section
variable {P : Program} {w : World} {K : PySem.W.Frag} {mg : Str → Option Value} {base : Heap} {CX : CXT}
theorem FnG.of {k : Nat} {f : Addr} {fd : FuncData} {ps : List Str} {sp : Sp} (F : FnOk P w K mg base CX k f fd ps sp) : FnG P w K mg base CX k f fd ps sp :=
  ⟨F.len, fun A outer s H args us vs Q E hr _ => F.run A outer s H args us vs Q E hr⟩
theorem fnG_of {k : Nat} {f : Addr} {nm qual : Str} {pms : Arguments} {body : List Stmt} {sc : Scope} {dV kV dc pm cdv ct oc : Value} {an od : Option Addr} {sl : Array (Option Value)} {N ps : List Str} {sp : Sp}
    (lk : K.lookup f = some ⟨oc, od, .func (PySem.W.fnOf nm qual pms body sc dV kV dc pm an cdv ct), sl⟩) (hcd : PySem.W.codeIn K cdv qual = true) (S : FnScope N ps sc) (len : ∀ vs H Q E, sp vs H Q E → vs.length = ps.length)
    (hb : ∀ (A : Around) (outer : List Env) (s : Shared) (H : Hp) (vs : List V) (Q : VK) (E : XK), A.guards = some [] → Room k (A.deeper (envOfC qual sc s.heap.objs.size f cdv)) → sp vs H Q E →
      ∃ t, PSs (cxOf CX P w K mg base N qual sc f cdv A outer s H E) body t ∧ t { nx := fun _ H' => Q .non H', rt := Q } (start N vs) H) :
    FnG P w K mg base CX (k + 1) f (PySem.W.fnOf nm qual pms body sc dV kV dc pm an cdv ct) ps sp := by
  refine ⟨len, ?_⟩
  intro A out s H args us vs Q E room hG env bnd rel pre
  have ln := len _ _ _ _ pre
  have kin : K.In s.heap := env.mod.kin.keeps fun b o e => (env.bs b o e).1
  have nl : s.heap.NoLimit := env.mod.nolimit.keeps fun b o e => (env.bs b o e).1
  have kinds : ∀ y ∈ ps.zip us, sc.names.lookup y.1 = some .local ∨ (sc.names.lookup y.1 = some .cell ∧ ((cellsFrom (s.heap.objs.size + 1) sc.names []).lookup y.1).isSome = true) := by
    rintro ⟨x, v⟩ hy
    rcases S.par x (List.of_mem_zip hy).1 with z | z
    · exact .inl z
    · exact .inr ⟨z, PySem.W.cellsFrom_some _ _ _ (.inl z)⟩
  refine codeAny_call_function room.depth (kin _ _ lk) rfl S.co S.gen rfl (PySem.W.codeRec_of kin hcd) (bnd _ _ _ _ ?_)
  refine wpAny_newFunctionEnv_cells S.kind kinds fun en hen s1 x1 => ?_
  cases hen
  refine ⟨nl.keeps x1.toInCall.keep, codeAny_func ?_⟩
  obtain ⟨t, ht, hq⟩ := hb A out s H vs Q E hG (room.deeper _) pre
  have J0 : Inv (cxOf CX P w K mg base N qual sc f cdv A out s H E) [] (start N vs) H s1 := inv_start S room.hd env ln rel x1
  refine wpAny_mono (ht.run [] s1 (start N vs) H _ J0 hq) (fun fl s2 hs => ?_) fun e s2 hs => hs
  cases fl with
  | ret u =>
    obtain ⟨v, τ, H2, J, rv, q⟩ := hs
    exact ⟨v, H2, J.os, J.bare, J.base, J.hok, rv, q⟩
  | next =>
    obtain ⟨τ, H2, J, q⟩ := hs
    exact ⟨V.non, H2, J.os, J.bare, J.base, J.hok, rfl, q⟩
  | brk =>
    obtain ⟨_, _, _, q⟩ := hs
    cases q
  | cont =>
    obtain ⟨_, _, _, q⟩ := hs
    cases q
end
/-! ## a def of the text: where it stands; its promise -/
structure DefAt (K : PySem.W.Frag) (mg : Str → Option Value) (x : Str) (st : Stmt) (ps : List Str) : Prop where
  ex : ∃ (f : Addr) (fd : FuncData), Fun K x x st f fd ∧ mg x = some (.ref f) ∧ Binds K fd ps []
/-- a def that may be called by its name; dvs: the defaults that fill up -/
structure Cal (P : Program) (w : World) (K : PySem.W.Frag) (mg : Str → Option Value) (base : Heap) (k : Nat) (x : Str) (sp : Sp) (dvs : List V) : Prop where
  ex : ∃ (f : Addr) (fd : FuncData) (ps : List Str) (ds : List Value), FnOk P w K mg base CX0 k f fd ps sp ∧ mg x = some (.ref f) ∧ PySem.W.keepIn K (.ref f) = true ∧ L2.Binds K fd ps ds ∧ Vals dvs ds
/-- a def that may be called by its name; it may ask for repr -/
structure CalG (P : Program) (w : World) (K : PySem.W.Frag) (mg : Str → Option Value) (base : Heap) (k : Nat) (x : Str) (sp : Sp) : Prop where
  ex : ∃ (f : Addr) (fd : FuncData) (ps : List Str), FnG P w K mg base CX0 k f fd ps sp ∧ mg x = some (.ref f) ∧ PySem.W.keepIn K (.ref f) = true ∧ Binds K fd ps []
section
variable {P : Program} {w : World} {K : PySem.W.Frag} {mg : Str → Option Value} {base : Heap}
theorem DefAt.cal {x : Str} {st : Stmt} {ps N : List Str} {k : Nat} {sp : Sp} (D : DefAt K mg x st ps) (S : FnScope N ps (defScope st)) (len : ∀ vs H Q E, sp vs H Q E → vs.length = ps.length)
    (hb : ∀ (f : Addr) (cdv : Value) (A : Around) (outer : List Env) (s : Shared) (H : Hp) (vs : List V) (Q : VK) (E : XK), Room k (A.deeper (envOfC x (defScope st) s.heap.objs.size f cdv)) → sp vs H Q E →
      ∃ t, PSs (cxOf CX0 P w K mg base N x (defScope st) f cdv A outer s H E).nox (defBody st) t ∧ t { nx := fun _ H' => Q .non H', rt := Q } (start N vs) H) : Cal P w K mg base (k + 1) x sp [] := by
  obtain ⟨f, fd, F, hm, b⟩ := D.ex
  exact ⟨f, fd, ps, [], F.ok S len fun cdv A outer s H vs Q E => hb f cdv A outer s H vs Q E, hm, F.kp, b, .nil⟩
theorem DefAt.calG {x : Str} {st : Stmt} {ps N : List Str} {k : Nat} {sp : Sp} (D : DefAt K mg x st ps) (S : FnScope N ps (defScope st)) (len : ∀ vs H Q E, sp vs H Q E → vs.length = ps.length)
    (hb : ∀ (f : Addr) (cdv : Value) (A : Around) (outer : List Env) (s : Shared) (H : Hp) (vs : List V) (Q : VK) (E : XK), A.guards = some [] → Room k (A.deeper (envOfC x (defScope st) s.heap.objs.size f cdv)) → sp vs H Q E →
      ∃ t, PSs (cxOf CX0 P w K mg base N x (defScope st) f cdv A outer s H E).nox (defBody st) t ∧ t { nx := fun _ H' => Q .non H', rt := Q } (start N vs) H) : CalG P w K mg base (k + 1) x sp := by
  obtain ⟨f, fd, ⟨⟨oc, od, kV, doc, pm, an, cdv, ct, osl, rfl, lk, hcd⟩, kp⟩, hm, b⟩ := D.ex
  refine ⟨f, _, ps, fnG_of lk hcd S len fun A outer s H vs Q E hG hr hsp => ?_, hm, kp, b⟩
  obtain ⟨t, h, q⟩ := hb f cdv A outer s H vs Q E hG hr hsp
  exact ⟨t, h.nox, q⟩
theorem okG {x qual : Str} {st : Stmt} {f : Addr} {fd : FuncData} {N ps : List Str} {k : Nat} {sp : Sp} (F : Fun K x qual st f fd) (S : FnScope N ps (defScope st)) (len : ∀ vs H Q E, sp vs H Q E → vs.length = ps.length)
    (hb : ∀ (cdv : Value) (A : Around) (outer : List Env) (s : Shared) (H : Hp) (vs : List V) (Q : VK) (E : XK), A.guards = some [] → Room k (A.deeper (envOfC qual (defScope st) s.heap.objs.size f cdv)) → sp vs H Q E →
      ∃ t, PSs (cxOf CX0 P w K mg base N qual (defScope st) f cdv A outer s H E).nox (defBody st) t ∧ t { nx := fun _ H' => Q .non H', rt := Q } (start N vs) H) : FnG P w K mg base CX0 (k + 1) f fd ps sp := by
  obtain ⟨⟨oc, od, kV, doc, pm, an, cdv, ct, osl, rfl, lk, hcd⟩, kp⟩ := F
  refine fnG_of lk hcd S len fun A outer s H vs Q E hG hr hsp => ?_
  obtain ⟨t, h, q⟩ := hb cdv A outer s H vs Q E hG hr hsp
  exact ⟨t, h.nox, q⟩
theorem calG_of {x : Str} {k : Nat} {sp : Sp} (c : Cal P w K mg base k x sp []) : CalG P w K mg base k x sp := by
  obtain ⟨f, fd, ps, ds, F, hm, kp, b, d⟩ := c.ex
  cases d
  exact ⟨f, fd, ps, FnG.of F, hm, kp, b⟩
theorem Cal.imp {x : Str} {k j : Nat} {sp sp' : Sp} {dvs : List V} (c : Cal P w K mg base k x sp dvs) (hk : k ≤ j) (h : ∀ vs H Q E, sp' vs H Q E → sp vs H Q E) : Cal P w K mg base j x sp' dvs := by
  obtain ⟨f, fd, ps, ds, F, hm, kp, b, d⟩ := c.ex
  exact ⟨f, fd, ps, ds, (F.mono hk).imp h, hm, kp, b, d⟩
end
section
variable {X : Cx} {k j : Nat} {x : Str} {sp : Sp} {p pos : Pos} {e : Expr} {es : List Expr} {t : TA}
theorem pe_c {dvs : List V} (c : Cal X.prog X.w X.K X.mg X.base k x sp dvs) (hr : Room j X.A) (hk : k ≤ j) (hg : Gl X x) (ha : PA X (e :: es) t)
    (hdb : (x == ("__debug__" : Str)) = false := by decide) (he : starEach (e :: es) X.env = (false, eval e X.env) :: starEach es X.env := by rfl) (hpl : (backTo pos (starEach es X.env)).any (·.1) = false := by rfl) :
    PE X (.Call (.Name x p) (e :: es) [] pos) (tCall sp dvs E0 t) := by
  obtain ⟨f, fd, ps, ds, F, hm, kp, bd, vd⟩ := c.ex
  exact L2.pe_call F (hr.mono hk) hg hm kp bd vd pass0 ha hdb he hpl
/-- a call of a def that may ask for repr -/
theorem pe_cG (c : CalG X.prog X.w X.K X.mg X.base k x sp) (hG : X.A.guards = some []) (hr : Room j X.A) (hk : k ≤ j) (hg : Gl X x) (ha : PA X (e :: es) t)
    (hdb : (x == ("__debug__" : Str)) = false := by decide) (he : starEach (e :: es) X.env = (false, eval e X.env) :: starEach es X.env := by rfl) (hpl : (backTo pos (starEach es X.env)).any (·.1) = false := by rfl) :
    PE X (.Call (.Name x p) (e :: es) [] pos) (tCall sp [] E0 t) := by
  obtain ⟨f, fd, ps, F, hm, kp, b⟩ := c.ex
  refine ⟨fun pins s σ H Q I h => wpAny_Call_Name_kw (ld_glob I hg hm ?_ hdb)⟩
  refine PySem.W.callWith_K (h₀ := X.base) I.ok.mod.kin kp (thn (ha.run pos pins s σ H _ I h) fun us s1 hx => ?_) he hpl
  obtain ⟨vs, H1, I1, r, q⟩ := hx
  rw [List.append_nil] at q
  have ln : us.length = ps.length := by rw [← r.length]; exact F.len _ _ _ _ q
  have bb : BindsTo s1 fd ⟨us, []⟩ (ps.zip us) := by
    have z := b s1 us I1.kIn (by rw [List.append_nil]; exact ln)
    rw [List.append_nil] at z
    exact z
  refine ⟨I1.kIn, wpAny_call (codeAny_mono (F.run X.A X.stack s1 H1 ⟨us, []⟩ us vs Q E0 (hr.mono hk) hG I1.env0 bb r q) fun r s' hq => ?_)⟩
  cases r with
  | error e => exact False.elim hq
  | ok fl =>
    cases fl with
    | ret u => exact I1.after hq
    | next => exact False.elim hq
    | brk => exact False.elim hq
    | cont => exact False.elim hq
end
/-! ## methods, properties, new objects -/
structure Met (P : Program) (w : World) (K : PySem.W.Frag) (mg : Str → Option Value) (base : Heap) (k : Nat) (C : Addr) (m : Str) (sp : Sp) : Prop where
  ex : ∃ (f : Addr) (fd : FuncData) (ps : List Str), Cls K C ∧ Meth K C m f ∧ FnOk P w K mg base CX0 k f fd ps sp ∧ L2.Binds K fd ps []
structure Prp (P : Program) (w : World) (K : PySem.W.Frag) (mg : Str → Option Value) (base : Heap) (k : Nat) (C : Addr) (m : Str) (sp : Sp) : Prop where
  ex : ∃ (f p : Addr) (fd : FuncData) (ps : List Str), Cls K C ∧ PropOf K C m p f ∧ FnOk P w K mg base CX0 k f fd ps sp ∧ L2.Binds K fd ps []
structure Mak (P : Program) (w : World) (K : PySem.W.Frag) (mg : Str → Option Value) (base : Heap) (k : Nat) (x : Str) (C : Addr) (sp : Sp) : Prop where
  ex : ∃ (f : Addr) (fd : FuncData) (ps : List Str), Mk K C f ∧ FnOk P w K mg base CX0 k f fd ps sp ∧ mg x = some (.ref C) ∧ L2.Binds K fd ps []
section
variable {X : Cx} {k j : Nat} {C : Addr} {x m : Str} {sp : Sp} {p pos apos : Pos} {e o : Expr} {es : List Expr} {ta : TE} {t : TA}
theorem pe_m {pl : Sem Bool} (c : Met X.prog X.w X.K X.mg X.base k C m sp) (hr : Room j X.A) (hk : k ≤ j) (he : PE X o ta) (ha : PA X (e :: es) t)
    (ht : eval (.Call (.Attribute o m apos) (e :: es) [] pos) X.env = (do
      let ov ← eval o X.env
      standAt apos.atName
      let (f, first) ← holding [ov] (getMethod ov m pl)
      callWith pos f first (backTo pos (starEach (e :: es) X.env)) (backToKw pos (keywordEach [] X.env))) := by rfl)
    (hst : starEach (e :: es) X.env = (false, eval e X.env) :: starEach es X.env := by rfl) (hpl : (backTo pos (starEach es X.env)).any (·.1) = false := by rfl) : PE X (.Call (.Attribute o m apos) (e :: es) [] pos) (tMeth C m sp [] E0 ta t) := by
  obtain ⟨f, fd, ps, c1, c2, F, b⟩ := c.ex
  exact L2.pe_meth (pl := pl) he c1 c2 F (hr.mono hk) b .nil pass0 ha hst hpl ht
theorem pe_mk (c : Mak X.prog X.w X.K X.mg X.base k x C sp) (hr : Room j X.A) (hk : k + 1 ≤ j) (hg : Gl X x) (ha : PA X (e :: es) t)
    (hdb : (x == ("__debug__" : Str)) = false := by decide) (he : starEach (e :: es) X.env = (false, eval e X.env) :: starEach es X.env := by rfl) (hpl : (backTo pos (starEach es X.env)).any (·.1) = false := by rfl) :
    PE X (.Call (.Name x p) (e :: es) [] pos) (tMake C sp [] E0 t) := by
  obtain ⟨f, fd, ps, M, F, hm, b⟩ := c.ex
  exact L2.pe_make M F (hr.mono hk) hg hm b .nil pass0 ha hdb he hpl
theorem pe_p (c : Prp X.prog X.w X.K X.mg X.base k C m sp) (hr : Room j X.A) (hk : k + 1 ≤ j) (he : PE X e ta) (hab : attributeBase e m X.env (eval e X.env) = eval e X.env := by rfl) : PE X (.Attribute e m pos) (tProp C sp [] E0 ta) := by
  obtain ⟨f, q, fd, ps, c1, c2, F, b⟩ := c.ex
  exact L2.pe_prop he c1 c2 F (hr.mono hk) b .nil pass0 hab
end
section
variable {X : Cx} {K : PySem.W.Frag} {C : Addr} {k j : Nat} {m f : Str} {sp : Sp} {ta tv : TE} {o value : Expr} {pos pos' apos tpos : Pos}
theorem pe_m0 {pl : Sem Bool} (c : Met X.prog X.w X.K X.mg X.base k C m sp) (hr : Room j X.A) (hk : k ≤ j) (he : PE X o ta)
    (ht : eval (.Call (.Attribute o m apos) [] [] pos) X.env = (do
      let ov ← eval o X.env
      standAt apos.atName
      let (f, first) ← holding [ov] (getMethod ov m pl)
      callWith pos f first (backTo pos (starEach [] X.env)) (backToKw pos (keywordEach [] X.env))) := by rfl) : PE X (.Call (.Attribute o m apos) [] [] pos) (tMeth C m sp [] E0 ta tNil) := by
  obtain ⟨f, fd, ps, c1, c2, F, b⟩ := c.ex
  exact L2.pe_meth0 (pl := pl) he c1 c2 F (hr.mono hk) b .nil pass0 ht
theorem ps_fldK (ha : PE X o ta) (hv : PE X value tv) (hs : swapsWith value (some (.Attribute o f pos')) pos.line X.env = pure false) (h : X.K = K := by rfl) : PS X (.Assign [.Attribute o f pos'] value pos) (sFld K ta tv f) := by
  subst h
  exact ps_fld ha hv hs
theorem ps_fldaugK {op : Operator} {rd : V → V → Hp → VK → Prop} (ha : PE X o ta) (hv : PE X value tv) (hop : InOp X op rd) (h : X.K = K := by rfl) : PS X (.AugAssign (.Attribute o f tpos) op value pos) (sFldAug K ta tv rd f) := by
  subst h
  exact ps_fldaug ha hv hop
end
/-- a method of the text -/
structure MetAt (K : PySem.W.Frag) (C : Addr) (m qual : Str) (st : Stmt) (ps : List Str) : Prop where
  ex : ∃ (f : Addr) (fd : FuncData), Fun K m qual st f fd ∧ Meth K C m f ∧ L2.Binds K fd ps []
section
variable {P : Program} {w : World} {K : PySem.W.Frag} {mg : Str → Option Value} {base : Heap} {C : Addr} {m x qual : Str} {st : Stmt} {ps N : List Str} {k : Nat} {sp : Sp}
theorem MetAt.met (D : MetAt K C m qual st ps) (cl : Cls K C) (S : FnScope N ps (defScope st)) (len : ∀ vs H Q E, sp vs H Q E → vs.length = ps.length)
    (hb : ∀ (f : Addr) (cdv : Value) (A : Around) (outer : List Env) (s : Shared) (H : Hp) (vs : List V) (Q : VK) (E : XK), Room k (A.deeper (envOfC qual (defScope st) s.heap.objs.size f cdv)) → sp vs H Q E →
      ∃ t, PSs (cxOf CX0 P w K mg base N qual (defScope st) f cdv A outer s H E).nox (defBody st) t ∧ t { nx := fun _ H' => Q .non H', rt := Q } (start N vs) H) : Met P w K mg base (k + 1) C m sp := by
  obtain ⟨f, fd, F, hm, b⟩ := D.ex
  exact ⟨f, fd, ps, cl, hm, F.ok S len fun cdv A outer s H vs Q E => hb f cdv A outer s H vs Q E, b⟩
end
/-- a class's __init__ of the text -/
structure IniAt (K : PySem.W.Frag) (mg : Str → Option Value) (C : Addr) (x qual : Str) (st : Stmt) (ps : List Str) : Prop where
  ex : ∃ (f : Addr) (fd : FuncData), Fun K "__init__" qual st f fd ∧ Mk K C f ∧ mg x = some (.ref C) ∧ L2.Binds K fd ps []
/-- a property of the text -/
structure PrpAt (K : PySem.W.Frag) (C : Addr) (m qual : Str) (st : Stmt) (ps : List Str) : Prop where
  ex : ∃ (f p : Addr) (fd : FuncData), Fun K m qual st f fd ∧ PropOf K C m p f ∧ L2.Binds K fd ps []
section
variable {P : Program} {w : World} {K : PySem.W.Frag} {mg : Str → Option Value} {base : Heap} {C : Addr} {m x qual : Str} {st : Stmt} {ps N : List Str} {k : Nat} {sp : Sp}
theorem IniAt.mak (D : IniAt K mg C x qual st ps) (S : FnScope N ps (defScope st)) (len : ∀ vs H Q E, sp vs H Q E → vs.length = ps.length)
    (hb : ∀ (f : Addr) (cdv : Value) (A : Around) (outer : List Env) (s : Shared) (H : Hp) (vs : List V) (Q : VK) (E : XK), Room k (A.deeper (envOfC qual (defScope st) s.heap.objs.size f cdv)) → sp vs H Q E →
      ∃ t, PSs (cxOf CX0 P w K mg base N qual (defScope st) f cdv A outer s H E).nox (defBody st) t ∧ t { nx := fun _ H' => Q .non H', rt := Q } (start N vs) H) : Mak P w K mg base (k + 1) x C sp := by
  obtain ⟨f, fd, F, hm, hg, b⟩ := D.ex
  exact ⟨f, fd, ps, hm, F.ok S len fun cdv A outer s H vs Q E => hb f cdv A outer s H vs Q E, hg, b⟩
theorem PrpAt.prp (D : PrpAt K C m qual st ps) (cl : Cls K C) (S : FnScope N ps (defScope st)) (len : ∀ vs H Q E, sp vs H Q E → vs.length = ps.length)
    (hb : ∀ (f : Addr) (cdv : Value) (A : Around) (outer : List Env) (s : Shared) (H : Hp) (vs : List V) (Q : VK) (E : XK), Room k (A.deeper (envOfC qual (defScope st) s.heap.objs.size f cdv)) → sp vs H Q E →
      ∃ t, PSs (cxOf CX0 P w K mg base N qual (defScope st) f cdv A outer s H E).nox (defBody st) t ∧ t { nx := fun _ H' => Q .non H', rt := Q } (start N vs) H) : Prp P w K mg base (k + 1) C m sp := by
  obtain ⟨f, p, fd, F, hm, b⟩ := D.ex
  exact ⟨f, p, fd, ps, cl, hm, F.ok S len fun cdv A outer s H vs Q E => hb f cdv A outer s H vs Q E, b⟩
end
/-- all but o stands -/
def But (o : Addr) (H H' : Hp) : Prop := ∀ b u, b ≠ o → H b = some u → H' b = some u
theorem But.refl (o : Addr) (H : Hp) : But o H H := fun _ _ _ h => h
theorem But.trans {o : Addr} {H H1 H2 : Hp} (a : But o H H1) (b : But o H1 H2) : But o H H2 := fun c u n h => b c u n (a c u n h)
theorem But.of {o : Addr} {H H1 : Hp} (s : Same H H1) : But o H H1 := fun b u _ h => s b u h
theorem But.put {o : Addr} {H : Hp} {u : HO} : But o H (upd H o u) := fun b x n h => by
  rw [upd_ne n]
  exact h
theorem But.seq {K : PySem.W.Frag} {o a : Addr} {H H' : Hp} {xs : List V} (b : But o H H') (n : a ≠ o) (h : H a = some (.lst xs)) : SqL K H' a xs := seqL_of (b a _ n h)
theorem Sep.but {R : Rg} {G H H' : Hp} {o : Addr} {u u' : HO} (s : Sep R G H) (h : G o = some u) (b : But o H H') (e : H' o = some u') : Sep R (upd G o u') H' := by
  have no : ∀ a, R.S a → a ≠ o := fun a ha z => by
    have q := s.off a ha
    rw [z, h] at q
    cases q
  refine ⟨R.loc H _ (fun a ha => ?_) s.inv, fun c x q => ?_, fun a ha => by rw [upd_ne (no a ha)]; exact s.off a ha⟩
  · cases q : H a with
    | none => exact absurd q (R.has H a s.inv ha)
    | some z => exact b a z (no a ha) q
  · by_cases hc : c = o
    · rw [hc, upd_same] at q
      rw [hc, e]
      exact q
    · rw [upd_ne hc] at q
      exact b c x hc (s.same c x q)

theorem Sep.add {R : Rg} {G0 H0 G H : Hp} {l : Addr} {u : HO} (s0 : Sep R G0 H0) (n : H0 l = none) (s : Sep R G H) (e : H l = some u) : Sep R (upd G l u) H := by
  have nl : ∀ a, R.S a → a ≠ l := fun a ha z => R.has H0 a s0.inv ha (by rw [z]; exact n)
  refine ⟨s.inv, fun b x q => ?_, fun a ha => by rw [upd_ne (nl a ha)]; exact s.off a ha⟩
  by_cases hb : b = l
  · rw [hb, upd_same] at q
    rw [hb, e]
    exact q
  · rw [upd_ne hb] at q
    exact s.same b x q

/-! ## calls by keywords alone -/
/-- a def called with the keywords ks alone: sp speaks of their values -/
structure CalK (P : Program) (w : World) (K : PySem.W.Frag) (mg : Str → Option Value) (base : Heap) (k : Nat) (x : Str) (ks : List Str) (sp : Sp) : Prop where
  ex : ∃ (f : Addr) (fd : FuncData) (ps : List Str) (spf : Sp) (g : List Value → List Value → List Value) (gV : List V → List V → List V),
    FnOk P w K mg base CX0 k f fd ps spf ∧ mg x = some (.ref f) ∧ PySem.W.keepIn K (.ref f) = true ∧ KBn K fd ps 0 ks g gV ∧ ∀ zs H Q E, sp zs H Q E → zs.length = ks.length ∧ spf (gV [] zs) H Q E
def tCk (sp : Sp) (tk : TA) : TE := fun σ H Q => tk σ H fun zs H1 => sp zs H1 Q E0
section
variable {X : Cx} {k j : Nat} {x : Str} {ks : List Str} {sp : Sp} {p pos : Pos} {kws : List Keyword} {tk : TA}
theorem pe_ck (c : CalK X.prog X.w X.K X.mg X.base k x ks sp) (hr : Room j X.A) (hk : k ≤ j) (hg : Gl X x) (hkw : PK X kws tk)
    (hall : (backToKw pos (keywordEach kws X.env)).all (·.1.isSome) = true := by rfl) (hks : (backToKw pos (keywordEach kws X.env)).filterMap (·.1) = ks := by rfl) (hdb : (x == ("__debug__" : Str)) = false := by decide)
    (hpl : ((backTo pos (starEach [] X.env)).any (·.1) || (backToKw pos (keywordEach kws X.env)).any (·.1.isNone)) = false := by rfl) : PE X (.Call (.Name x p) [] kws pos) (tCk sp tk) := by
  obtain ⟨f, fd, ps, spf, g, gV, F, hm, kp, hb, hs⟩ := c.ex
  refine ⟨fun pins s σ H Q I h => wpAny_Call_Name_kw (ld_glob I hg hm ?_ hdb)⟩
  refine PySem.W.callWith_KW0 (h₀ := X.base) I.ok.mod.kin kp hall (thn (hkw.run pos pins s σ H _ I h) fun ws s1 hx => ?_) hpl
  obtain ⟨zs, H1, I1, rz, q⟩ := hx
  obtain ⟨lz, q⟩ := hs _ _ _ _ q
  refine ⟨I1.kIn, ?_⟩
  rw [hks]
  exact run_fnN F (hr.mono hk) hb pass0 I1 .nil rz rfl lz q
end

/-! ## a def with defaults, called by place or by keywords -/
section
variable {P : Program} {w : World} {K : PySem.W.Frag} {mg : Str → Option Value} {base : Heap} {x qual : Str} {pms : Arguments} {body : List Stmt} {sc : Scope} {dvs : List V} {f : Addr} {fd : FuncData} {ps ks : List Str}
/-- all parameters by keywords; g brings the values in the parameters' order -/
theorem kbn_dflt (F : FunD K x qual pms body sc dvs [] f fd) (hd : dvs ≠ []) (g : {α : Type} → List α → List α) (hg : ∀ {vs : List V} {us : List Value}, Vals vs us → Vals (g vs) (g us))
    (h : ∀ (T : Addr) (kV doc pm : Value) (an : Option Addr) (cdv ct : Value) (ws its : List Value), ws.length = ks.length → its.length = dvs.length →
      ∃ k, bindArgs (PySem.W.fnOf x qual pms body sc (.ref T) kV doc pm an cdv ct) ⟨[], ks.zip ws⟩ = seqItems? (.ref T) >>= k ∧ k (some its.toArray) = pure (ps.zip (g ws))) : KBn K fd ps 0 ks (fun _ ws => g ws) (fun _ zs => g zs) := by
  obtain ⟨oc, od, dV, kV, doc, pm, an, cdv, ct, osl, rfl, lk, hcd, hD, hK⟩ := F.ex
  rcases hD with ⟨e, _⟩ | ⟨_, T, o, its, m, rfl, lT, oT, rT⟩
  · exact absurd e hd
  · refine ⟨fun s us ws X l1 l2 => ?_, fun r1 r2 => hg r2⟩
    cases us with
    | cons u us => cases l1
    | nil =>
      obtain ⟨k, e1, e2⟩ := h T kV doc pm an cdv ct ws its l2 rT.length.symm
      refine BindsTo.of_looks fun M => ?_
      rw [e1]
      exact looks_items X lT oT (.of_pure e2)
/-- .. of a def without defaults -/
theorem kbn_plain {st : Stmt} (F : Fun K x qual st f fd) (g : {α : Type} → List α → List α) (hg : ∀ {vs : List V} {us : List Value}, Vals vs us → Vals (g vs) (g us))
    (h : ∀ (kV doc pm : Value) (an : Option Addr) (cdv ct : Value) (ws : List Value), ws.length = ks.length →
      bindArgs (PySem.W.fnOf x qual (defArgs st) (defBody st) (defScope st) .none kV doc pm an cdv ct) ⟨[], ks.zip ws⟩ = pure (ps.zip (g ws))) : KBn K fd ps 0 ks (fun _ ws => g ws) (fun _ zs => g zs) := by
  obtain ⟨oc, od, kV, doc, pm, an, cdv, ct, osl, rfl, lk, hcd⟩ := F.ex
  refine ⟨fun s us ws X l1 l2 => ?_, fun r1 r2 => hg r2⟩
  cases us with
  | cons u us => cases l1
  | nil => exact .of_eq (h kV doc pm an cdv ct ws l2)
theorem calK_mk {k : Nat} {spf sp : Sp} {g : List Value → List Value → List Value} {gV : List V → List V → List V} (F : FnOk P w K mg base CX0 k f fd ps spf) (hm : mg x = some (.ref f)) (kp : PySem.W.keepIn K (.ref f) = true) (b : KBn K fd ps 0 ks g gV)
    (h : ∀ zs H Q E, sp zs H Q E → zs.length = ks.length ∧ spf (gV [] zs) H Q E) : CalK P w K mg base k x ks sp := ⟨f, fd, ps, spf, g, gV, F, hm, kp, b, h⟩
end
/-- a def without defaults that is called by place and by keywords -/
structure Def2 (P : Program) (w : World) (K : PySem.W.Frag) (mg : Str → Option Value) (base : Heap) (k : Nat) (x : Str) (st : Stmt) (ps : List Str) (sp : Sp) : Prop where
  ex : ∃ (f : Addr) (fd : FuncData), Fun K x x st f fd ∧ mg x = some (.ref f) ∧ Binds K fd ps [] ∧ FnOk P w K mg base CX0 k f fd ps sp
section
variable {P : Program} {w : World} {K : PySem.W.Frag} {mg : Str → Option Value} {base : Heap} {x : Str} {st : Stmt} {ps ks N : List Str} {k : Nat} {sp sp' : Sp}
theorem DefAt.two (D : DefAt K mg x st ps) (S : FnScope N ps (defScope st)) (len : ∀ vs H Q E, sp vs H Q E → vs.length = ps.length)
    (hb : ∀ (f : Addr) (cdv : Value) (A : Around) (outer : List Env) (s : Shared) (H : Hp) (vs : List V) (Q : VK) (E : XK), Room k (A.deeper (envOfC x (defScope st) s.heap.objs.size f cdv)) → sp vs H Q E →
      ∃ t, PSs (cxOf CX0 P w K mg base N x (defScope st) f cdv A outer s H E).nox (defBody st) t ∧ t { nx := fun _ H' => Q .non H', rt := Q } (start N vs) H) : Def2 P w K mg base (k + 1) x st ps sp := by
  obtain ⟨f, fd, F, hm, b⟩ := D.ex
  exact ⟨f, fd, F, hm, b, F.ok S len fun cdv A outer s H vs Q E => hb f cdv A outer s H vs Q E⟩
theorem Def2.cal (D : Def2 P w K mg base k x st ps sp) : Cal P w K mg base k x sp [] := by
  obtain ⟨f, fd, F, hm, b, ok⟩ := D.ex
  exact ⟨f, fd, ps, [], ok, hm, F.kp, b, .nil⟩
theorem Def2.calK (D : Def2 P w K mg base k x st ps sp) (g : {α : Type} → List α → List α) (hg : ∀ {vs : List V} {us : List Value}, Vals vs us → Vals (g vs) (g us))
    (h : ∀ (kV doc pm : Value) (an : Option Addr) (cdv ct : Value) (ws : List Value), ws.length = ks.length →
      bindArgs (PySem.W.fnOf x x (defArgs st) (defBody st) (defScope st) .none kV doc pm an cdv ct) ⟨[], ks.zip ws⟩ = pure (ps.zip (g ws))) (hs : ∀ zs H Q E, sp' zs H Q E → zs.length = ks.length ∧ sp (g zs) H Q E) : CalK P w K mg base k x ks sp' := by
  obtain ⟨f, fd, F, hm, b, ok⟩ := D.ex
  exact calK_mk ok hm F.kp (kbn_plain F g hg h) hs
end
theorem perm_sorted_eq : ∀ {xs ys : List Int}, xs.Perm ys → xs.Pairwise (· ≤ ·) → ys.Pairwise (· ≤ ·) → xs = ys
  | [], ys, p, _, _ => (List.nil_perm.mp p).symm
  | x :: r, [], p, _, _ => absurd (List.perm_nil.mp p) (by simp)
  | x :: r, y :: t, p, h1, h2 => by
    have a1 := (List.pairwise_cons.mp h1).1
    have a2 := (List.pairwise_cons.mp h2).1
    have m1 : x ∈ y :: t := p.mem_iff.mp (List.mem_cons_self ..)
    have m2 : y ∈ x :: r := p.mem_iff.mpr (List.mem_cons_self ..)
    have e : x = y := by
      rcases List.mem_cons.mp m1 with z | z
      · exact z
      · rcases List.mem_cons.mp m2 with z2 | z2
        · exact z2.symm
        · have := a1 y z2
          have := a2 x z
          omega
    subst e
    rw [perm_sorted_eq (List.Perm.cons_inv p) (List.pairwise_cons.mp h1).2 (List.pairwise_cons.mp h2).2]

/-! ## a law's end, of a law that may ask for repr -/
theorem law_endG {P : Program} {w : World} {K : PySem.W.Frag} {mg mb : Str → Option Value} {k : Nat} {fa a : Addr} {fd : FuncData} {x : Str} {sp : Sp} {s₁ : Shared} {vs : List Value} {ns : List Int}
    (KX : K.In s₁.heap) (hns : s₁.heap.Ns mainGlobals mg) (hb : s₁.heap.Ns builtinsNs mb) (hbb : ∀ x : Str, x ≠ "__name__" → mb x = bootBuiltins x) (hlim : s₁.heap.NoLimit) (hg : s₁.gens = #[])
    (ha : s₁.heap.get? a = some { cls := .type "list", data := .seq vs.toArray }) (hi : IntsAre vs ns) (hl : ns.length ≤ sizeLine) (hr : Room k callerA)
    (F : ∀ base : Heap, K.In base → base.Ns mainGlobals mg → FnG P w K mg base CX0 k fa fd [x] sp) (hbind : ∀ (s : Shared) (u : Value), BindsTo s fd ⟨[u], []⟩ [(x, u)])
    (hsp : ∀ H : Hp, Only H → SqL K H a (iv ns) → sp [.ref a] H (fun v _ => v = .bl true) fun _ _ _ => False) :
    codeAny (model P w) callerA (.call (.ref fa) ⟨[.ref a], []⟩) (fun r s' => r = .ok (.ret (.bool true)) ∧ OldK s₁.heap s'.heap ∧ s'.os = s₁.os ∧ AllBare s'.gens) s₁ := by
  have rel := vals_ints hi
  have same : ∀ H : Hp, Only H → SqL K H a (iv ns) → HOk P w H s₁.heap → (∀ b, H b ≠ none → b = a) → (H a ≠ none → K.lookup a = none) →
      codeAny (model P w) callerA (.call (.ref fa) ⟨[.ref a], []⟩) (fun r s' => r = .ok (.ret (.bool true)) ∧ OldK s₁.heap s'.heap ∧ s'.os = s₁.os ∧ AllBare s'.gens) s₁ := by
    intro H only sq hok at_a k_a
    have nonK : ∀ {b : Addr} {o : Obj}, K.lookup b = some o → H b = none := by
      intro b o e
      cases q : H b with
      | none => rfl
      | some u =>
        have z := at_a b (by rw [q]; simp)
        subst z
        rw [k_a (by rw [q]; simp)] at e
        cases e
    have nonD : ∀ {b : Addr} {o : Obj} {es : Array DictEntry} {ep : Nat}, s₁.heap.get? b = some o → o.data = .dict es ep → H b = none := by
      intro b o es ep e d
      cases q : H b with
      | none => rfl
      | some u =>
        have z := at_a b (by rw [q]; simp)
        subst z
        rw [ha] at e
        cases e
        cases d
    have nsB : ∀ {b : Addr} {m : Str → Option Value}, s₁.heap.Ns b m → (hidT s₁.heap H).Ns b m := by
      rintro b m ⟨o, es, ep, e, d, r⟩
      exact ⟨o, es, ep, hidT_get e (nonD e d), d, r⟩
    have kinB : K.In (hidT s₁.heap H) := fun b o e => hidT_get (KX b o e) (nonK e)
    have md : Mod K mg (hidT s₁.heap H) := by
      obtain ⟨mc, h1, h2⟩ := hlim
      exact ⟨kinB, nsB hns, ⟨mb, nsB hb, hbb⟩, ⟨mc, nsB h1, h2⟩⟩
    have noIn : ∀ b : Addr, b ∉ frs [] := fun b z => by cases z
    have env : Env0 P w K mg (hidT s₁.heap H) callerA [] s₁ H := ⟨rfl, md, fun b o e => of_hidT e, Nat.le_of_eq (hidT_size _ _), trivial, fun b z => absurd z (noIn b), hok, .of_eq hg⟩
    refine codeAny_mono ((F _ kinB (nsB hns)).run callerA [] s₁ H ⟨[.ref a], []⟩ [.ref a] [.ref a] _ _ hr rfl env (hbind s₁ (.ref a)) (.cons rfl .nil) (hsp H only sq)) fun r s' h => ?_
    cases r with
    | error e => exact False.elim h
    | ok fl =>
      cases fl with
      | next => exact False.elim h
      | brk => exact False.elim h
      | cont => exact False.elim h
      | ret u =>
        obtain ⟨v, H', os, bare, un, hok', rv, q⟩ := h
        have ev : v = .bl true := q
        subst ev
        have eu : u = Value.bool true := rv
        subst eu
        refine ⟨rfl, OldK.of_keep fun b o e => ?_, os, bare⟩
        cases q : H b with
        | none => exact un.keep b o e q (noIn b) (by simp)
        | some u =>
          rcases only b with z | ⟨ob, xs, z⟩
          · rw [q] at z
            cases z
          · obtain ⟨e1, _⟩ := hok b _ z
            obtain ⟨e2, _⟩ := hok' b _ (un.frzs b ob _ z)
            rw [e] at e1
            cases e1
            exact e2
  cases hk : K.lookup a with
  | some o =>
    have e := KX a o hk
    rw [ha] at e
    cases e
    refine same (fun _ => none) (fun _ => .inl rfl) (.inr ⟨_, vs.toArray, _, hk, rfl, rfl, rfl, ?_, by simpa using rel⟩) (fun b u z => ?_) (fun b z => absurd rfl z) fun z => absurd rfl z
    · rw [List.size_toArray, hi.length]
      exact hl
    · exact nomatch (show (none : Option HO) = some u from z)
  | none =>
    let H0 : Hp := fun b => if b = a then some (.frz { cls := .type "list", data := .seq vs.toArray } (.lst (iv ns))) else none
    have at1 : H0 a = some (.frz { cls := .type "list", data := .seq vs.toArray } (.lst (iv ns))) := if_pos rfl
    have at0 : ∀ b, b ≠ a → H0 b = none := fun b hb => if_neg hb
    refine same H0 (fun b => ?_) (.inl (.inr ⟨_, at1⟩)) (fun b u z => ?_) (fun b z => ?_) fun _ => hk
    · by_cases hb : b = a
      · exact .inr ⟨_, _, by rw [hb]; exact at1⟩
      · exact .inl (at0 b hb)
    · by_cases hb : b = a
      · subst hb
        rw [at1] at z
        cases z
        exact ⟨ha, by rw [iv_len]; exact hl, vs, _, rel, ha⟩
      · rw [at0 b hb] at z
        cases z
    · by_cases hb : b = a
      · exact hb
      · exact absurd (at0 b hb) z
theorem walk_ofG {l : PySem.W.OpenLaw} {n k : Nat} {q : Program} {loose : List Str} {XP : (Str → Option Value) → Heap → Prop} {YP : World → Heap → Prop} {d : DefRec} {K : Params → PySem.W.Frag} {sp : PySem.W.Frag → Sp} {x : Str}
    (hn : l.most = some n) (hn2 : n ≤ sizeLine) (hdf : d.params.defaults = []) (hr : Room k callerA) (hY : ∀ (w : World) (h : Heap), YP w h → (K w.params).In h)
    (F : ∀ (w : World) (mg : Str → Option Value) (fa : Addr) (h : Heap), (K w.params).In h → h.Ns mainGlobals mg → mg d.name = some (.ref fa) →
      ∃ fd : FuncData, (∀ (s : Shared) (u : Value), BindsTo s fd ⟨[u], []⟩ [(x, u)]) ∧
        ∀ base : Heap, (K w.params).In base → base.Ns mainGlobals mg → FnG l.prog w (K w.params) mg base CX0 k fa fd [x] (sp (K w.params)))
    (hsp : ∀ (K : PySem.W.Frag) (H : Hp) (a : Addr) (ns : List Int), ns.length ≤ n → SqL K H a (iv ns) → sp K [.ref a] H (fun v _ => v = .bl true) fun _ _ _ => False) :
    PySem.W.WalkO q loose XP YP l.row.toRowW d [] (fun f vs => PySem.call f vs) := by
  refine Att.attach_call hn hdf fun w s₀ s₁ mg mb fa o pm cd doc a vs ns G Y ho hd hcd hmg hobj hints hlen hg => ?_
  have KX := hY w _ Y
  obtain ⟨fd, hb, hF⟩ := F w mg fa _ KX G.T.g hmg
  exact law_endG KX G.T.g G.T.b G.T.builtins G.T.nolimit hg hobj hints (Nat.le_trans hlen hn2) hr hF hb fun H _ hS => hsp (K w.params) H a ns hlen hS

/-! ## a def of the text, out of what the top has written -/
theorem DefAt.mk1 {K : PySem.W.Frag} {h : Heap} {mg : Str → Option Value} {x : Str} {st : Stmt} {ps : List Str} {f : Addr} {od an : Option Addr} {sl : Array (Option Value)} {oc kV dc pm cd ct : Value} (X : K.In h) (G : h.Ns mainGlobals mg)
    (a : PySem.W.nsIn K mainGlobals x = some (some (.ref f))) (l : K.lookup f = some ⟨oc, od, .func (PySem.W.fnOf x x (defArgs st) (defBody st) (defScope st) .none kV dc pm an cd ct), sl⟩) (c : PySem.W.codeIn K cd x = true) (k : PySem.W.keepIn K (.ref f) = true)
    (hb : ∀ (kV doc pm : Value) (an : Option Addr) (cdv ct : Value) (us : List Value), us.length = ps.length → bindArgs (PySem.W.fnOf x x (defArgs st) (defBody st) (defScope st) .none kV doc pm an cdv ct) ⟨us, []⟩ = pure (ps.zip us)) : DefAt K mg x st ps :=
  ⟨f, _, fun_mk (st := st) l c k, PySem.W.mg_of X G a, (fun_mk (st := st) l c k).binds hb⟩
theorem cutD {p q : Prop} (h : p) (k : p → q) : q := k h
/-- a class: what its facts say -/
theorem cls_mk {K : PySem.W.Frag} {h : Heap} {mg : Str → Option Value} {x : Str} {C : Addr} (X : K.In h) (hC : mg x = some (.ref C)) (pg : PySem.W.plainGet K C Str.empty = true) (hd : PySem.W.hasDictIn K C = true) (po : PySem.W.plainOver K C = true) (sa : PySem.W.findIn K (.ref C) "__setattr__" = some (some (.builtin "object.__setattr__"))) : Cls K C := ⟨pg, hd, po, sa⟩
theorem noat_mk {K : PySem.W.Frag} {h : Heap} {mg : Str → Option Value} {x : Str} {C : Addr} {m : Str} (X : K.In h) (hC : mg x = some (.ref C)) (n : PySem.W.findIn K (.ref C) m = some none) : NoAttr K C m := n
theorem IniAt.mk1 {K : PySem.W.Frag} {h : Heap} {mg : Str → Option Value} {C : Addr} {x qual : Str} {st : Stmt} {ps : List Str} {f : Addr} {od an : Option Addr} {sl : Array (Option Value)} {oc kV dc pm cd ct : Value} (X : K.In h) (hm : mg x = some (.ref C))
    (a : PySem.W.findIn K (.ref C) "__init__" = some (some (.ref f))) (l : K.lookup f = some ⟨oc, od, .func (PySem.W.fnOf "__init__" qual (defArgs st) (defBody st) (defScope st) .none kV dc pm an cd ct), sl⟩) (c : PySem.W.codeIn K cd qual = true) (k : PySem.W.keepIn K (.ref f) = true)
    (mk : PySem.W.makesIn K C = true) (i : PySem.W.isFn K (.ref f) = true) (kc : PySem.W.keepIn K (.ref C) = true)
    (hb : ∀ (kV doc pm : Value) (an : Option Addr) (cdv ct : Value) (us : List Value), us.length = ps.length → bindArgs (PySem.W.fnOf "__init__" qual (defArgs st) (defBody st) (defScope st) .none kV doc pm an cdv ct) ⟨us, []⟩ = pure (ps.zip us)) : IniAt K mg C x qual st ps :=
  ⟨f, _, fun_mk (st := st) l c k, ⟨mk, a, i, kc⟩, hm, (fun_mk (st := st) l c k).binds hb⟩
theorem MetAt.mk1 {K : PySem.W.Frag} {h : Heap} {mg : Str → Option Value} {x : Str} {C : Addr} {m qual : Str} {st : Stmt} {ps : List Str} {f : Addr} {od an : Option Addr} {sl : Array (Option Value)} {oc kV dc pm cd ct : Value} (X : K.In h) (hC : mg x = some (.ref C))
    (a : PySem.W.findIn K (.ref C) m = some (some (.ref f))) (l : K.lookup f = some ⟨oc, od, .func (PySem.W.fnOf m qual (defArgs st) (defBody st) (defScope st) .none kV dc pm an cd ct), sl⟩) (c : PySem.W.codeIn K cd qual = true) (k : PySem.W.keepIn K (.ref f) = true) (i : PySem.W.isFn K (.ref f) = true)
    (hb : ∀ (kV doc pm : Value) (an : Option Addr) (cdv ct : Value) (us : List Value), us.length = ps.length → bindArgs (PySem.W.fnOf m qual (defArgs st) (defBody st) (defScope st) .none kV doc pm an cdv ct) ⟨us, []⟩ = pure (ps.zip us)) : MetAt K C m qual st ps :=
  ⟨f, _, fun_mk (st := st) l c k, ⟨a, i, k⟩, (fun_mk (st := st) l c k).binds hb⟩
theorem PrpAt.mk1 {K : PySem.W.Frag} {h : Heap} {mg : Str → Option Value} {x : Str} {C : Addr} {m qual : Str} {st : Stmt} {ps : List Str} {f p : Addr} {rest : List Value} {od an : Option Addr} {sl : Array (Option Value)} {oc kV dc pm cd ct : Value} (X : K.In h) (hC : mg x = some (.ref C))
    (a : PySem.W.findIn K (.ref C) m = some (some (.ref p))) (g : PySem.W.specialIn K (.ref p) "__get__" = some (some (.builtin "property.__get__"))) (t : PySem.W.takesIn K (.ref p) = some true) (r : PySem.W.recIn K p "property" = some (.ref f :: rest))
    (l : K.lookup f = some ⟨oc, od, .func (PySem.W.fnOf m qual (defArgs st) (defBody st) (defScope st) .none kV dc pm an cd ct), sl⟩) (c : PySem.W.codeIn K cd qual = true) (k : PySem.W.keepIn K (.ref f) = true)
    (hb : ∀ (kV doc pm : Value) (an : Option Addr) (cdv ct : Value) (us : List Value), us.length = ps.length → bindArgs (PySem.W.fnOf m qual (defArgs st) (defBody st) (defScope st) .none kV doc pm an cdv ct) ⟨us, []⟩ = pure (ps.zip us)) : PrpAt K C m qual st ps :=
  ⟨f, p, _, fun_mk (st := st) l c k, ⟨a, g, t, rest, r⟩, (fun_mk (st := st) l c k).binds hb⟩
theorem glob_mk {K : PySem.W.Frag} {h : Heap} {mg : Str → Option Value} {x : Str} {C : Addr} (X : K.In h) (G : h.Ns mainGlobals mg) (a : PySem.W.nsIn K mainGlobals x = some (some (.ref C))) : mg x = some (.ref C) := PySem.W.mg_of X G a
/-- a def with defaults -/
theorem funD_mk {K : PySem.W.Frag} {h : Heap} {mg : Str → Option Value} {x : Str} {st : Stmt} {dvs : List V} {f T : Addr} {o : Obj} {its : List Value} {n : Nat} {od an : Option Addr} {sl : Array (Option Value)} {oc kV dc pm cd ct : Value} (X : K.In h) (G : h.Ns mainGlobals mg)
    (a : PySem.W.nsIn K mainGlobals x = some (some (.ref f))) (l : K.lookup f = some ⟨oc, od, .func (PySem.W.fnOf x x (defArgs st) (defBody st) (defScope st) (.ref T) kV dc pm an cd ct), sl⟩) (c : PySem.W.codeIn K cd x = true) (k : PySem.W.keepIn K (.ref f) = true)
    (t : K.lookup T = some o) (e : o.data = .seq its.toArray n) (hv : Vals dvs its) (hd : dvs ≠ []) : FunD K x x (defArgs st) (defBody st) (defScope st) dvs [] f (PySem.W.fnOf x x (defArgs st) (defBody st) (defScope st) (.ref T) kV dc pm an cd ct) ∧ mg x = some (.ref f) :=
  ⟨⟨⟨oc, od, _, kV, dc, pm, an, cd, ct, sl, rfl, l, c, .inr ⟨hd, T, o, its, n, rfl, t, e, hv⟩, .inl rfl⟩, k⟩, PySem.W.mg_of X G a⟩
/-- the law's own def -/
theorem DefAt.law {K : PySem.W.Frag} {mg : Str → Option Value} {x : Str} {st : Stmt} {fa : Addr} {p : Str} (D : DefAt K mg x st [p]) (hfa : mg x = some (.ref fa))
    (hb : ∀ (kV doc pm : Value) (an : Option Addr) (cdv ct : Value) (us : List Value), us.length = 1 → bindArgs (PySem.W.fnOf x x (defArgs st) (defBody st) (defScope st) .none kV doc pm an cdv ct) ⟨us, []⟩ = pure ([p].zip us)) :
    ∃ fd : FuncData, Fun K x x st fa fd ∧ ∀ (s : Shared) (u : Value), BindsTo s fd ⟨[u], []⟩ [(p, u)] := by
  obtain ⟨f, fd, F, hm, b⟩ := D.ex
  rw [hfa] at hm
  cases hm
  obtain ⟨oc, od, kV, doc, pm, an, cdv, ct, osl, rfl, lk, hcd⟩ := F.ex
  exact ⟨_, F, fun s u => .of_eq (hb kV doc pm an cdv ct [u] rfl)⟩
end Sq

/-! the mathematics of replacements on lengths of runs -/
namespace Sq
def once (n k : Int) : Int := n / k + n % k
def sqz (n : Int) (row : List Int) : Int := row.foldl once n
def rb (R k : Int) : Int := if k > R + 1 then R else (R + 3 - k) * k - 2
def reachOf (row : List Int) (most : Int) : Int := row.foldr (fun k R => rb R k) most
abbrev Two (row : List Int) : Prop := ∀ k ∈ row, (2 : Int) ≤ k
def Mid (ns : List Int) : Prop := ∀ k ∈ ns, (2 : Int) ≤ k ∧ k < 2 ^ 240
theorem Mid.two {ns : List Int} (h : Mid ns) : Two ns := fun k hk => (h k hk).1
theorem sqz_cons (n k : Int) (r : List Int) : sqz n (k :: r) = sqz (once n k) r := rfl
theorem sqz_app (n : Int) (a b : List Int) : sqz n (a ++ b) = sqz (sqz n a) b := by simp [sqz, List.foldl_append]
theorem sqz_snoc (n k : Int) (a : List Int) : sqz n (a ++ [k]) = once (sqz n a) k := by rw [sqz_app]; rfl
theorem sqz_take {row : List Int} {n k : Int} {i : Nat} (h : row[i]? = some k) : sqz n (row.take (i + 1)) = once (sqz n (row.take i)) k := by
  rw [List.take_add_one, h]
  exact sqz_snoc _ _ _
theorem once_nn {n k : Int} (hn : 0 ≤ n) (hk : 2 ≤ k) : 0 ≤ once n k := by
  unfold once
  have h1 := Int.ediv_nonneg hn (by omega : (0 : Int) ≤ k)
  have h2 := Int.emod_nonneg n (by omega : k ≠ 0)
  omega
/-- quotient and rest -/
theorem qr (n : Int) {k : Int} (hk : 2 ≤ k) : ∃ q r, n = q * k + r ∧ 0 ≤ r ∧ r < k ∧ n / k = q ∧ n % k = r :=
  ⟨n / k, n % k, by have := Int.mul_ediv_add_emod n k; rw [Int.mul_comm] at this; omega, Int.emod_nonneg n (by omega), Int.emod_lt_of_pos n (by omega), rfl, rfl⟩
theorem qr_of {q r k : Int} (h0 : 0 ≤ r) (h1 : r < k) : (q * k + r) / k = q ∧ (q * k + r) % k = r := by
  have hk : k ≠ 0 := by omega
  constructor
  · rw [Int.add_comm, Int.add_mul_ediv_right _ _ hk, Int.ediv_eq_zero_of_lt h0 h1]; omega
  · rw [Int.add_comm, Int.add_mul_emod_self_right, Int.emod_eq_of_lt h0 h1]
theorem once_qr {q r k : Int} (h0 : 0 ≤ r) (h1 : r < k) : once (q * k + r) k = q + r := by
  obtain ⟨a, b⟩ := qr_of (q := q) h0 h1
  unfold once
  rw [a, b]
theorem once_le {n k : Int} (hn : 0 ≤ n) (hk : 2 ≤ k) : once n k ≤ n := by
  obtain ⟨q, r, e, h0, h1, e1, e2⟩ := qr n hk
  unfold once
  rw [e1, e2]
  have hq : 0 ≤ q := by rw [← e1]; exact Int.ediv_nonneg hn (by omega)
  have := Int.mul_le_mul_of_nonneg_left (by omega : (1 : Int) ≤ k) hq
  omega
theorem once_small {n k : Int} (hn : 0 ≤ n) (h : n < k) : once n k = n := by
  unfold once
  rw [Int.ediv_eq_zero_of_lt hn h, Int.emod_eq_of_lt hn h]
  omega
theorem once_pos {n k : Int} (hn : 1 ≤ n) (hk : 2 ≤ k) : 1 ≤ once n k := by
  obtain ⟨q, r, e, h0, h1, e1, e2⟩ := qr n hk
  unfold once
  rw [e1, e2]
  have hq : 0 ≤ q := by rw [← e1]; exact Int.ediv_nonneg (by omega) (by omega)
  rcases Int.lt_or_eq_of_le hq with h | h
  · omega
  · subst h; omega
theorem sqz_nn : ∀ {row : List Int} {n : Int}, 0 ≤ n → Two row → 0 ≤ sqz n row
  | [], n, h, _ => h
  | k :: r, n, h, t => sqz_nn (row := r) (once_nn h (t k (List.mem_cons_self ..))) fun j hj => t j (List.mem_cons_of_mem _ hj)
theorem sqz_le : ∀ {row : List Int} {n : Int}, 0 ≤ n → Two row → sqz n row ≤ n
  | [], n, h, _ => Int.le_refl n
  | k :: r, n, h, t => Int.le_trans (sqz_le (row := r) (once_nn h (t k (List.mem_cons_self ..))) fun j hj => t j (List.mem_cons_of_mem _ hj)) (once_le h (t k (List.mem_cons_self ..)))
theorem sqz_pos : ∀ {row : List Int} {n : Int}, 1 ≤ n → Two row → 1 ≤ sqz n row
  | [], n, h, _ => h
  | k :: r, n, h, t => sqz_pos (row := r) (once_pos h (t k (List.mem_cons_self ..))) fun j hj => t j (List.mem_cons_of_mem _ hj)
/-- one step of the reach -/
theorem rb_pos {R k : Int} (hR : 1 ≤ R) (hk : 2 ≤ k) : R ≤ rb R k := by
  unfold rb
  split
  · omega
  · rename_i h
    have e : (R + 3 - k) * k - 2 - R = (R + 1 - k) * (k - 1) + (k - 1) := by
      have e1 : R + 3 - k = (R + 1 - k) + 2 := by omega
      have e2 : k = (k - 1) + 1 := by omega
      rw [e1]
      have e3 : (R + 1 - k) * k = (R + 1 - k) * (k - 1) + (R + 1 - k) := by
        have := Int.mul_sub (R + 1 - k) k 1
        omega
      have e4 : (R + 1 - k + 2) * k = (R + 1 - k) * k + 2 * k := Int.add_mul _ _ _
      omega
    have := Int.mul_nonneg (by omega : (0 : Int) ≤ R + 1 - k) (by omega : (0 : Int) ≤ k - 1)
    omega
theorem rb_all {R k n : Int} (hR : 1 ≤ R) (hk : 2 ≤ k) (h0 : 0 ≤ n) (h : n ≤ rb R k) : once n k ≤ R := by
  unfold rb at h
  split at h
  · rw [once_small h0 (by omega)]; exact h
  · rename_i hh
    obtain ⟨q, r, e, h1, h2, e1, e2⟩ := qr n hk
    unfold once
    rw [e1, e2]
    have e3 : (R + 3 - k) * k = (R + 2 - k) * k + k := by
      have : R + 3 - k = (R + 2 - k) + 1 := by omega
      rw [this, Int.add_mul, Int.one_mul]
    rcases Int.lt_or_le q (R + 2 - k) with hq | hq
    · omega
    · rcases Int.lt_or_eq_of_le hq with hq | hq
      · have := Int.mul_le_mul_of_nonneg_right (by omega : R + 3 - k ≤ q) (by omega : (0 : Int) ≤ k)
        omega
      · subst hq
        omega
theorem rb_next {R k : Int} (hR : 1 ≤ R) (hk : 2 ≤ k) : once (rb R k + 1) k = R + 1 := by
  unfold rb
  split
  · rw [once_small (by omega) (by omega)]
  · have e3 : (R + 3 - k) * k - 2 + 1 = (R + 2 - k) * k + (k - 1) := by
      have : R + 3 - k = (R + 2 - k) + 1 := by omega
      rw [this, Int.add_mul, Int.one_mul]; omega
    rw [e3, once_qr (by omega) (by omega)]
    omega
theorem reach_pos : ∀ {row : List Int} {m : Int}, 1 ≤ m → Two row → m ≤ reachOf row m
  | [], m, _, _ => Int.le_refl m
  | k :: r, m, h, t => by
    have ih := reach_pos (row := r) h fun j hj => t j (List.mem_cons_of_mem _ hj)
    exact Int.le_trans ih (rb_pos (by omega) (t k (List.mem_cons_self ..)))
theorem reach_all : ∀ {row : List Int} {m n : Int}, 1 ≤ m → Two row → 0 ≤ n → n ≤ reachOf row m → sqz n row ≤ m
  | [], m, n, _, _, _, h => h
  | k :: r, m, n, h, t, h0, hn => by
    have t' : Two r := fun j hj => t j (List.mem_cons_of_mem _ hj)
    have hk := t k (List.mem_cons_self ..)
    have p := reach_pos h t'
    exact reach_all (row := r) h t' (once_nn h0 hk) (rb_all (by omega) hk h0 hn)
theorem reach_next : ∀ {row : List Int} {m : Int}, 1 ≤ m → Two row → sqz (reachOf row m + 1) row = m + 1
  | [], m, _, _ => rfl
  | k :: r, m, h, t => by
    have t' : Two r := fun j hj => t j (List.mem_cons_of_mem _ hj)
    have hk := t k (List.mem_cons_self ..)
    have p := reach_pos h t'
    show sqz (once (rb (reachOf r m) k + 1) k) r = m + 1
    rw [rb_next (by omega) hk]
    exact reach_next h t'
/-- the reach is where the first greater one stands -/
theorem reach_is {row : List Int} {m n : Int} (h : 1 ≤ m) (t : Two row) (h0 : 0 ≤ n) (hn : m < sqz n row) (ha : ∀ j, 0 ≤ j → j < n → sqz j row ≤ m) : reachOf row m = n - 1 := by
  have p := reach_pos h t
  rcases Int.lt_or_le (reachOf row m) n with a | a
  · rcases Int.lt_or_le (reachOf row m + 1) n with b | b
    · have := ha _ (by omega) b
      rw [reach_next h t] at this
      omega
    · omega
  · have := reach_all h t h0 a
    omega
theorem reach_mono {row : List Int} {m m' : Int} (h : 1 ≤ m) (hm : m ≤ m') (t : Two row) : reachOf row m ≤ reachOf row m' := by
  rcases Int.lt_or_le (reachOf row m') (reachOf row m) with a | a
  · have p := reach_pos (m := m') (by omega) t
    have := reach_all h t (n := reachOf row m' + 1) (by omega) (by omega)
    rw [reach_next (by omega) t] at this
    omega
  · exact a
end Sq


namespace Sq
def prodL (ns : List Int) : Int := ns.foldr (fun k p => k * p) 1
def slack (ns : List Int) : Int := (ns.map fun k => k - 1).sum
theorem prodL_cons (k : Int) (r : List Int) : prodL (k :: r) = k * prodL r := rfl
theorem prodL_app (a b : List Int) : prodL (a ++ b) = prodL a * prodL b := by
  induction a with
  | nil => simp [prodL]
  | cons k r ih => rw [List.cons_append, prodL_cons, prodL_cons, ih, Int.mul_assoc]
theorem prodL_snoc (a : List Int) (k : Int) : prodL (a ++ [k]) = prodL a * k := by rw [prodL_app]; simp [prodL]
theorem prodL_pos : ∀ {ns : List Int}, Two ns → 1 ≤ prodL ns
  | [], _ => Int.le_refl 1
  | k :: r, h => by
    have ih := prodL_pos (ns := r) fun j hj => h j (List.mem_cons_of_mem _ hj)
    have hk := h k (List.mem_cons_self ..)
    rw [prodL_cons]
    have := Int.mul_le_mul (show (1 : Int) ≤ k by omega) ih (by decide) (by omega)
    omega
theorem prodL_one : ∀ {ns : List Int}, Two ns → prodL ns ≤ 1 → ns = []
  | [], _, _ => rfl
  | k :: r, h, h1 => by
    have ih := prodL_pos (ns := r) fun j hj => h j (List.mem_cons_of_mem _ hj)
    have hk := h k (List.mem_cons_self ..)
    rw [prodL_cons] at h1
    have := Int.mul_le_mul hk ih (by decide) (by omega)
    omega
theorem once_mul (n : Int) {k : Int} (hk : 2 ≤ k) : k * once n k = n + (k - 1) * (n % k) := by
  have e := Int.mul_ediv_add_emod n k
  unfold once
  rw [Int.mul_add, Int.sub_mul, Int.one_mul]
  omega
theorem sqz_ge : ∀ {ns : List Int} {n : Int}, 0 ≤ n → Two ns → n ≤ prodL ns * sqz n ns
  | [], n, _, _ => by simp [prodL, sqz]
  | k :: r, n, h0, h => by
    have t : Two r := fun j hj => h j (List.mem_cons_of_mem _ hj)
    have hk := h k (List.mem_cons_self ..)
    have ih := sqz_ge (ns := r) (once_nn h0 hk) t
    have e := once_mul n hk
    have hm := Int.emod_nonneg n (show k ≠ 0 by omega)
    have := Int.mul_nonneg (show 0 ≤ k - 1 by omega) hm
    have := Int.mul_le_mul_of_nonneg_left ih (show 0 ≤ k by omega)
    rw [prodL_cons, sqz_cons, Int.mul_assoc]
    omega
theorem slack_cons (k : Int) (r : List Int) : slack (k :: r) = (k - 1) + slack r := by simp [slack]
theorem slack_nn : ∀ {ns : List Int}, Two ns → 0 ≤ slack ns
  | [], _ => Int.le_refl 0
  | k :: r, h => by
    have ih := slack_nn (ns := r) fun j hj => h j (List.mem_cons_of_mem _ hj)
    have hk := h k (List.mem_cons_self ..)
    rw [slack_cons]
    omega
theorem sqz_up : ∀ {ns : List Int} {n : Int}, 0 ≤ n → Two ns → prodL ns * sqz n ns ≤ n + prodL ns * slack ns
  | [], n, _, _ => by simp [prodL, sqz, slack]
  | k :: r, n, h0, h => by
    have t : Two r := fun j hj => h j (List.mem_cons_of_mem _ hj)
    have hk := h k (List.mem_cons_self ..)
    have ih := sqz_up (ns := r) (once_nn h0 hk) t
    have e := once_mul n hk
    have hl := Int.emod_lt_of_pos n (show 0 < k by omega)
    have p := prodL_pos t
    have a1 : (k - 1) * (n % k) ≤ (k - 1) * k := Int.mul_le_mul_of_nonneg_left (by omega) (by omega)
    have a2 := Int.mul_le_mul_of_nonneg_left ih (show 0 ≤ k by omega)
    -- k * (prodL r * x) ≤ k * once n k + k * prodL r * slack r
    have a3 : k * prodL r * (k - 1) = (k - 1) * k * prodL r := by
      rw [Int.mul_comm (k * prodL r), Int.mul_assoc]
    have a4 : (k - 1) * k * 1 ≤ (k - 1) * k * prodL r := Int.mul_le_mul_of_nonneg_left p (Int.mul_nonneg (by omega) (by omega))
    rw [prodL_cons, sqz_cons, slack_cons, Int.mul_add (k * prodL r), a3, Int.mul_assoc k (prodL r) (sqz _ _)]
    rw [Int.mul_add, ← Int.mul_assoc] at a2
    rw [← Int.mul_assoc] at a2
    rw [← Int.mul_assoc]
    omega
theorem sqz_mul : ∀ {ns : List Int} {m : Int}, Two ns → sqz (m * prodL ns) ns = m
  | [], m, _ => by simp [prodL, sqz]
  | k :: r, m, h => by
    have hk := h k (List.mem_cons_self ..)
    have e : m * prodL (k :: r) = (m * prodL r) * k + 0 := by
      rw [prodL_cons, Int.add_zero, Int.mul_assoc, Int.mul_comm k]
    rw [sqz_cons, e, once_qr (by omega) (by omega), Int.add_zero]
    exact sqz_mul fun j hj => h j (List.mem_cons_of_mem _ hj)
theorem slack_le : ∀ {ns : List Int} {g : Int}, (∀ k ∈ ns, k ≤ g) → slack ns ≤ ns.length * (g - 1)
  | [], g, _ => by simp [slack]
  | k :: r, g, h => by
    have ih := slack_le (ns := r) (g := g) fun j hj => h j (List.mem_cons_of_mem _ hj)
    have hk := h k (List.mem_cons_self ..)
    rw [slack_cons, List.length_cons]
    have : ((r.length + 1 : Nat) : Int) * (g - 1) = r.length * (g - 1) + (g - 1) := by
      rw [Int.natCast_add, Int.add_mul]
      simp
    omega
theorem prodL_le : ∀ {ns : List Int} {g : Int} {n : Nat}, Two ns → (∀ k ∈ ns, k ≤ g) → ns.length ≤ n → 1 ≤ g → prodL ns ≤ g ^ n
  | [], g, n, _, _, _, hg => by
    show (1 : Int) ≤ g ^ n
    exact Int.pow_pos (show 0 < g by omega)
  | k :: r, g, 0, _, _, hl, _ => by simp at hl
  | k :: r, g, n + 1, h, hk, hl, hg => by
    have ih := prodL_le (ns := r) (g := g) (n := n) (fun j hj => h j (List.mem_cons_of_mem _ hj)) (fun j hj => hk j (List.mem_cons_of_mem _ hj)) (by simpa using hl) hg
    have p := prodL_pos (ns := r) fun j hj => h j (List.mem_cons_of_mem _ hj)
    have k2 := h k (List.mem_cons_self ..)
    rw [prodL_cons, Int.pow_succ, Int.mul_comm]
    exact Int.mul_le_mul ih (hk k (List.mem_cons_self ..)) (by omega) (by omega)
/-- the product is told by one long run -/
theorem told_prod {ns : List Int} {b s : Int} (h : Two ns) (hb : prodL ns ≤ b) (hs : slack ns < s) : ((s * b * (b + 1)) + sqz (s * b * (b + 1)) ns - 1) / sqz (s * b * (b + 1)) ns = prodL ns := by
  have p := prodL_pos h
  have s0 := slack_nn h
  have L0 : 0 ≤ s * b * (b + 1) := Int.mul_nonneg (Int.mul_nonneg (by omega) (by omega)) (by omega)
  have g := sqz_ge L0 h
  have u := sqz_up L0 h
  generalize hL : s * b * (b + 1) = L at *
  generalize hx : sqz L ns = x at *
  generalize hP : prodL ns = Pr at *
  generalize hS : slack ns = S at *
  -- (Pr - 1) * x < L ≤ Pr * x
  have e1 : Pr * S * Pr ≤ S * b * b := by
    have a := Int.mul_le_mul hb hb (by omega) (by omega : 0 ≤ b)
    have c := Int.mul_le_mul_of_nonneg_left a s0
    have d1 : Pr * S * Pr = S * (Pr * Pr) := by rw [Int.mul_comm Pr S, Int.mul_assoc]
    have d2 : S * b * b = S * (b * b) := Int.mul_assoc _ _ _
    omega
  have e2 : S * b * b + b < L := by
    have a1 : (S + 1) * b * (b + 1) ≤ s * b * (b + 1) := Int.mul_le_mul_of_nonneg_right (Int.mul_le_mul_of_nonneg_right (by omega) (by omega)) (by omega)
    have a2 : (S + 1) * b * (b + 1) = S * b * b + S * b + (b * b + b) := by
      rw [Int.add_mul, Int.one_mul, Int.mul_add, Int.mul_one, Int.add_mul]
      omega
    have a3 := Int.mul_nonneg s0 (show 0 ≤ b by omega)
    have a4 := Int.mul_le_mul (show (1 : Int) ≤ b by omega) (show (1 : Int) ≤ b by omega) (by decide) (by omega)
    omega
  have xpos : 0 < x := by
    rcases Int.lt_or_le 0 x with z | z
    · exact z
    · have := Int.mul_nonpos_of_nonneg_of_nonpos (show 0 ≤ Pr by omega) z
      have := Int.mul_nonneg (Int.mul_nonneg s0 (show 0 ≤ b by omega)) (show 0 ≤ b by omega)
      omega
  have lo : (Pr - 1) * x < L := by
    -- Pr * ((Pr - 1) * x) ≤ (Pr - 1) * (L + Pr * S) < Pr * L
    have a1 := Int.mul_le_mul_of_nonneg_left u (show 0 ≤ Pr - 1 by omega)
    have a2 : (Pr - 1) * (Pr * x) = Pr * ((Pr - 1) * x) := by
      rw [← Int.mul_assoc, ← Int.mul_assoc, Int.mul_comm (Pr - 1) Pr]
    have a3 : (Pr - 1) * (L + Pr * S) = Pr * L - L + (Pr * S * Pr - Pr * S) := by
      rw [Int.sub_mul, Int.one_mul, Int.mul_add, Int.mul_comm Pr (Pr * S)]
      omega
    have a4 := Int.mul_nonneg (show 0 ≤ Pr by omega) s0
    rcases Int.lt_or_le ((Pr - 1) * x) L with z | z
    · exact z
    · have := Int.mul_le_mul_of_nonneg_left z (show 0 ≤ Pr by omega)
      omega
  have q1 : L + x - 1 = (L - (Pr - 1) * x - 1) + Pr * x := by
    rw [Int.sub_mul, Int.one_mul]
    omega
  rw [q1, Int.add_mul_ediv_right _ _ (by omega), Int.ediv_eq_zero_of_lt (by omega) (by rw [Int.sub_mul, Int.one_mul]; omega)]
  omega
/-- the next number of the list is told by runs below the product -/
theorem next_hit {k : Int} {r : List Int} (h : Two (k :: r)) : sqz (prodL (k :: r) - k + 1) (k :: r) = 1 := by
  have t : Two r := fun j hj => h j (List.mem_cons_of_mem _ hj)
  have hk := h k (List.mem_cons_self ..)
  have e : prodL (k :: r) - k + 1 = (prodL r - 1) * k + 1 := by
    rw [prodL_cons, Int.sub_mul, Int.one_mul, Int.mul_comm]
  rw [sqz_cons, e, once_qr (by omega) (by omega)]
  have := sqz_mul (m := 1) t
  rw [Int.one_mul] at this
  rw [show prodL r - 1 + 1 = prodL r by omega]
  exact this
theorem next_miss {k j : Int} {r : List Int} (h : Two (k :: r)) (hj : 2 ≤ j) (hjk : j < k) : 1 < sqz (prodL (k :: r) - j + 1) (k :: r) := by
  have t : Two r := fun j hj => h j (List.mem_cons_of_mem _ hj)
  have hk := h k (List.mem_cons_self ..)
  have p := prodL_pos t
  have e : prodL (k :: r) - j + 1 = (prodL r - 1) * k + (k - j + 1) := by
    rw [prodL_cons, Int.sub_mul, Int.one_mul, Int.mul_comm]
    omega
  rw [sqz_cons, e, once_qr (by omega) (by omega)]
  have g := sqz_ge (n := prodL r - 1 + (k - j + 1)) (by omega) t
  rcases Int.lt_or_le 1 (sqz (prodL r - 1 + (k - j + 1)) r) with z | z
  · exact z
  · have := Int.mul_le_mul_of_nonneg_left z (show 0 ≤ prodL r by omega)
    omega
end Sq


namespace Sq
/-! ## a run that two different lists make to different lengths -/
theorem sqz_prod {ns : List Int} (h : Two ns) : sqz (prodL ns) ns = 1 := by
  have e := sqz_mul (m := 1) h
  rw [Int.one_mul] at e
  exact e
theorem sqz_far {ns : List Int} {n : Int} (h : Two ns) (hn : prodL ns < n) : 2 ≤ sqz n ns := by
  have p := prodL_pos h
  have g := sqz_ge (show 0 ≤ n by omega) h
  have s1 : 1 ≤ sqz n ns := sqz_pos (by omega) h
  rcases (show sqz n ns = 1 ∨ 2 ≤ sqz n ns by omega) with z | z
  · rw [z, Int.mul_one] at g
    omega
  · exact z
/-- products differ -/
theorem part_max {as bs : List Int} (ha : Two as) (hb : Two bs) (h : prodL as ≠ prodL bs) {n : Int} (hn : n = if prodL bs > prodL as then prodL bs else prodL as) : 1 ≤ n ∧ sqz n as ≠ sqz n bs := by
  have pa := prodL_pos ha
  have pb := prodL_pos hb
  by_cases c : prodL bs > prodL as
  · rw [if_pos c] at hn
    subst hn
    have e := sqz_prod hb
    have f := sqz_far ha c
    exact ⟨pb, by omega⟩
  · rw [if_neg c] at hn
    subst hn
    have e := sqz_prod ha
    have f := sqz_far hb (n := prodL as) (by omega)
    exact ⟨pa, by omega⟩
theorem part_head {a b : Int} {r t : List Int} (ha : 2 ≤ a) (hr : Two r) (hb : 2 ≤ b) (ht : Two t) (hp : a * prodL r = b * prodL t) (lt : a < b) :
    1 ≤ a * prodL r - a + 1 ∧ sqz (a * prodL r - a + 1) (a :: r) = 1 ∧ 2 ≤ sqz (a * prodL r - a + 1) (b :: t) := by
  have pr := prodL_pos hr
  have pt := prodL_pos ht
  have e1 : a * prodL r - a + 1 = (prodL r - 1) * a + 1 := by
    rw [Int.sub_mul, Int.one_mul, Int.mul_comm a]
  have e2 : a * prodL r - a + 1 = (prodL t - 1) * b + (b - a + 1) := by
    rw [hp, Int.sub_mul, Int.one_mul, Int.mul_comm b]
    omega
  refine ⟨?_, ?_, ?_⟩
  · have := Int.mul_nonneg (show 0 ≤ prodL r - 1 by omega) (show 0 ≤ a by omega)
    omega
  · rw [sqz_cons, e1, once_qr (by omega) (by omega), show prodL r - 1 + 1 = prodL r by omega]
    exact sqz_prod hr
  · rw [sqz_cons, e2, once_qr (by omega) (by omega)]
    exact sqz_far ht (by omega)
theorem pre_mul {pre r : List Int} (h : Two pre) (m : Int) : sqz (m * prodL pre) (pre ++ r) = sqz m r := by
  rw [sqz_app, sqz_mul h]
/-- the first place where they differ -/
theorem part_at {as bs : List Int} {j : Nat} {a b : Int} (ha : Two as) (hb : Two bs) (hp : prodL as = prodL bs) (hj : ∀ i, i < j → as[i]? = bs[i]?) (ea : as[j]? = some a) (eb : bs[j]? = some b) (ne : a ≠ b) :
    let n := (prodL (as.drop j) - (if b < a then b else a) + 1) * prodL (as.take j)
    1 ≤ n ∧ sqz n as ≠ sqz n bs := by
  intro n
  have tk : as.take j = bs.take j := by
    apply List.ext_getElem?
    intro i
    rw [List.getElem?_take, List.getElem?_take]
    split
    · exact hj i (by assumption)
    · rfl
  obtain ⟨la, ga⟩ := List.getElem?_eq_some_iff.mp ea
  obtain ⟨lb, gb⟩ := List.getElem?_eq_some_iff.mp eb
  have da : as.drop j = a :: as.drop (j + 1) := by rw [List.drop_eq_getElem_cons la, ga]
  have db : bs.drop j = b :: bs.drop (j + 1) := by rw [List.drop_eq_getElem_cons lb, gb]
  have sa : as = as.take j ++ (a :: as.drop (j + 1)) := by rw [← da, List.take_append_drop]
  have sb : bs = as.take j ++ (b :: bs.drop (j + 1)) := by rw [tk, ← db, List.take_append_drop]
  have tp : Two (as.take j) := fun k hk => ha k (List.mem_of_mem_take hk)
  have tr : Two (as.drop (j + 1)) := fun k hk => ha k (List.mem_of_mem_drop hk)
  have tt : Two (bs.drop (j + 1)) := fun k hk => hb k (List.mem_of_mem_drop hk)
  have a2 := ha a (List.mem_of_getElem? ea)
  have b2 := hb b (List.mem_of_getElem? eb)
  have pp := prodL_pos tp
  have eq : a * prodL (as.drop (j + 1)) = b * prodL (bs.drop (j + 1)) := by
    have h1 : prodL as = prodL (as.take j) * (a * prodL (as.drop (j + 1))) := by
      conv => lhs; rw [sa, prodL_app, prodL_cons]
    have h2 : prodL bs = prodL (as.take j) * (b * prodL (bs.drop (j + 1))) := by
      conv => lhs; rw [sb, prodL_app, prodL_cons]
    rw [h1, h2] at hp
    exact Int.eq_of_mul_eq_mul_left (by omega) hp
  have nd : prodL (as.drop j) = a * prodL (as.drop (j + 1)) := by rw [da, prodL_cons]
  have key : ∀ m, sqz (m * prodL (as.take j)) as = sqz m (a :: as.drop (j + 1)) ∧ sqz (m * prodL (as.take j)) bs = sqz m (b :: bs.drop (j + 1)) := fun m => ⟨by
    conv => lhs; arg 2; rw [sa]
    exact pre_mul tp m, by
    conv => lhs; arg 2; rw [sb]
    exact pre_mul tp m⟩
  have pos : ∀ m, 1 ≤ m → 1 ≤ m * prodL (as.take j) := fun m hm => by
    have := Int.mul_le_mul hm pp (by decide) (by omega)
    omega
  show 1 ≤ (prodL (as.drop j) - (if b < a then b else a) + 1) * prodL (as.take j) ∧ _
  rw [show n = (prodL (as.drop j) - (if b < a then b else a) + 1) * prodL (as.take j) from rfl, nd, (key _).1, (key _).2]
  by_cases c : b < a
  · rw [if_pos c, eq]
    obtain ⟨h1, h2, h3⟩ := part_head b2 tt a2 tr eq.symm c
    exact ⟨pos _ h1, by omega⟩
  · rw [if_neg c]
    obtain ⟨h1, h2, h3⟩ := part_head a2 tr b2 tt eq (by omega)
    exact ⟨pos _ h1, by omega⟩
/-- there is such a place -/
theorem part_has : ∀ {as bs : List Int}, Two as → Two bs → prodL as = prodL bs → as ≠ bs → ∃ (j : Nat) (a b : Int), as[j]? = some a ∧ bs[j]? = some b ∧ a ≠ b ∧ ∀ i, i < j → as[i]? = bs[i]?
  | [], [], _, _, _, ne => absurd rfl ne
  | [], b :: t, _, hb, hp, ne => absurd (prodL_one hb (by rw [← hp]; exact Int.le_refl 1)) (by simp)
  | a :: r, [], ha, _, hp, ne => absurd (prodL_one ha (by rw [hp]; exact Int.le_refl 1)) (by simp)
  | a :: r, b :: t, ha, hb, hp, ne => by
    by_cases e : a = b
    · subst e
      have a2 := ha a (List.mem_cons_self ..)
      have hp2 : prodL r = prodL t := by
        rw [prodL_cons, prodL_cons] at hp
        exact Int.eq_of_mul_eq_mul_left (by omega) hp
      obtain ⟨j, x, y, h1, h2, h3, h4⟩ := part_has (fun k hk => ha k (List.mem_cons_of_mem _ hk)) (fun k hk => hb k (List.mem_cons_of_mem _ hk)) hp2 (fun z => ne (by rw [z]))
      refine ⟨j + 1, x, y, by simpa using h1, by simpa using h2, h3, fun i hi => ?_⟩
      cases i with
      | zero => rfl
      | succ i => simpa using h4 i (by omega)
    · exact ⟨0, a, b, rfl, rfl, e, fun i hi => absurd hi (by omega)⟩
end Sq


namespace Sq
/-! ## sums -/
def sm (lo : Int) (f : Int → Int) : Nat → Int
  | 0 => 0
  | n + 1 => sm lo f n + f (lo + n)
theorem sm_congr {lo : Int} {f g : Int → Int} : ∀ {n : Nat}, (∀ i : Nat, i < n → f (lo + i) = g (lo + i)) → sm lo f n = sm lo g n
  | 0, _ => rfl
  | n + 1, h => by
    show sm lo f n + _ = sm lo g n + _
    rw [sm_congr fun i hi => h i (by omega), h n (by omega)]
theorem sm_add {lo : Int} {f g : Int → Int} : ∀ n : Nat, sm lo (fun x => f x + g x) n = sm lo f n + sm lo g n
  | 0 => rfl
  | n + 1 => by
    have := sm_add (lo := lo) (f := f) (g := g) n
    simp only [sm]
    omega
theorem sm_sub {lo : Int} {f g : Int → Int} : ∀ n : Nat, sm lo (fun x => f x - g x) n = sm lo f n - sm lo g n
  | 0 => rfl
  | n + 1 => by
    have := sm_sub (lo := lo) (f := f) (g := g) n
    simp only [sm]
    omega
theorem sm_mul {lo c : Int} {f : Int → Int} : ∀ n : Nat, sm lo (fun x => c * f x) n = c * sm lo f n
  | 0 => by simp [sm]
  | n + 1 => by
    simp only [sm]
    rw [sm_mul n, Int.mul_add]
theorem sm_zero {lo : Int} {f : Int → Int} : ∀ {n : Nat}, (∀ i : Nat, i < n → f (lo + i) = 0) → sm lo f n = 0
  | 0, _ => rfl
  | n + 1, h => by
    show sm lo f n + _ = 0
    rw [sm_zero fun i hi => h i (by omega), h n (by omega)]
    rfl
theorem sm_split {lo : Int} {f : Int → Int} (a : Nat) : ∀ b : Nat, sm lo f (a + b) = sm lo f a + sm (lo + a) f b
  | 0 => by simp [sm]
  | b + 1 => by
    show sm lo f (a + b) + f (lo + ((a + b : Nat) : Int)) = _
    rw [sm_split a b]
    show _ = sm lo f a + (sm (lo + a) f b + f (lo + a + b))
    rw [show lo + ((a + b : Nat) : Int) = lo + a + b by omega]
    omega
theorem sm_nn {lo : Int} {f : Int → Int} : ∀ {n : Nat}, (∀ i : Nat, i < n → 0 ≤ f (lo + i)) → 0 ≤ sm lo f n
  | 0, _ => Int.le_refl 0
  | n + 1, h => by
    have a := sm_nn (lo := lo) (f := f) (n := n) fun i hi => h i (by omega)
    have b := h n (by omega)
    simp only [sm]
    omega
theorem sm_up {lo : Int} {f : Int → Int} (h : ∀ x, 0 ≤ f x) {a b : Nat} (hab : a ≤ b) : sm lo f a ≤ sm lo f b := by
  have e := sm_split (lo := lo) (f := f) a (b - a)
  rw [Nat.add_sub_cancel' hab] at e
  have := sm_nn (lo := lo + a) (f := f) (n := b - a) fun i _ => h _
  omega
theorem sm_ind {lo z : Int} {h : Int → Int} : ∀ n : Nat, sm lo (fun t => if t = z then h t else 0) n = if lo ≤ z ∧ z < lo + n then h z else 0
  | 0 => by
    rw [if_neg (by omega)]
    rfl
  | n + 1 => by
    show sm lo _ n + (if lo + (n : Int) = z then h (lo + n) else 0) = _
    rw [sm_ind n]
    by_cases e : lo + (n : Int) = z
    · rw [if_pos e, if_neg (by omega), if_pos (by omega), e, Int.zero_add]
    · rw [if_neg e, Int.add_zero]
      by_cases c : lo ≤ z ∧ z < lo + n
      · rw [if_pos c, if_pos (by omega)]
      · rw [if_neg c, if_neg (by omega)]
theorem sm_one {lo : Int} {f : Int → Int} : ∀ {n : Nat}, (∀ i : Nat, i < n → f (lo + i) = 1) → sm lo f n = n
  | 0, _ => rfl
  | n + 1, h => by
    show sm lo f n + _ = _
    rw [sm_one fun i hi => h i (by omega), h n (by omega)]
    omega
/-! ## counting -/
/-- is the run x made n long -/
def hit (n : Int) (row : List Int) (x : Int) : Int := if sqz x row = n then 1 else 0
theorem hit_nn (n : Int) (row : List Int) (x : Int) : 0 ≤ hit n row x := by
  unfold hit
  split <;> decide
/-- how many runs up to last are made n long -/
def cnt (n : Int) (row : List Int) (last : Int) : Int := sm 1 (hit n row) last.toNat
theorem cnt_zero {n : Int} {row : List Int} {last : Int} (h : last < 1) : cnt n row last = 0 := by
  unfold cnt
  rw [show last.toNat = 0 by omega]
  rfl
theorem cnt_step {n : Int} {row : List Int} {last : Int} (h : 1 ≤ last) : cnt n row last = cnt n row (last - 1) + hit n row last := by
  unfold cnt
  obtain ⟨j, hj⟩ : ∃ j : Nat, last.toNat = j + 1 := ⟨last.toNat - 1, by omega⟩
  rw [hj, show (last - 1).toNat = j by omega]
  show sm 1 _ j + hit n row (1 + (j : Int)) = _
  rw [show (1 : Int) + j = last by omega]
theorem cnt_up {n : Int} {row : List Int} {a b : Int} (h : a ≤ b) : cnt n row a ≤ cnt n row b := sm_up (hit_nn n row) (by omega)
theorem cnt_nn (n : Int) (row : List Int) (a : Int) : 0 ≤ cnt n row a := sm_nn fun i _ => hit_nn n row _
theorem cnt_nil {n last : Int} (hn : 1 ≤ n) (hl : 1 ≤ last) : cnt n [] last = if n ≤ last then 1 else 0 := by
  unfold cnt
  have e : sm 1 (hit n []) last.toNat = sm 1 (fun x => if x = n then 1 else 0) last.toNat := sm_congr fun i _ => rfl
  rw [e, sm_ind]
  by_cases c : n ≤ last
  · rw [if_pos c, if_pos (by omega)]
  · rw [if_neg c, if_neg (by omega)]
/-- how many runs up to last does k alone make m long -/
def cm (k last m : Int) : Int := sm 0 (fun t => if m * k - t * (k - 1) ≤ last then 1 else 0) (min (k - 1) m + 1).toNat
theorem pre_is {k m t last : Int} (hk : 2 ≤ k) (hl : 1 ≤ last) (t0 : 0 ≤ t) (t1 : t ≤ k - 1) (t2 : t ≤ m) : (m * k - t * (k - 1) = last) ↔ (t = last % k ∧ once last k = m) := by
  have e : m * k - t * (k - 1) = (m - t) * k + t := by
    rw [Int.sub_mul, Int.mul_sub, Int.mul_one]
    omega
  rw [e]
  constructor
  · intro h
    obtain ⟨a, b⟩ := qr_of (q := m - t) (k := k) t0 (by omega)
    rw [h] at a b
    refine ⟨b.symm, ?_⟩
    unfold once
    rw [a, b]
    omega
  · rintro ⟨h1, h2⟩
    unfold once at h2
    have := Int.mul_ediv_add_emod last k
    rw [h1, show m - last % k = last / k by omega, Int.mul_comm]
    omega
theorem cm_step {k m last : Int} (hk : 2 ≤ k) (hm : 1 ≤ m) (hl : 1 ≤ last) : cm k last m - cm k (last - 1) m = if m = once last k then 1 else 0 := by
  unfold cm
  rw [← sm_sub]
  have e : sm 0 (fun t => (if m * k - t * (k - 1) ≤ last then (1 : Int) else 0) - if m * k - t * (k - 1) ≤ last - 1 then 1 else 0) (min (k - 1) m + 1).toNat =
      sm 0 (fun t => if t = last % k then (if m = once last k then 1 else 0) else 0) (min (k - 1) m + 1).toNat := sm_congr fun i hi => by
    have p := pre_is (k := k) (m := m) (t := 0 + (i : Int)) (last := last) hk hl (by omega) (by omega) (by omega)
    by_cases c1 : m * k - (0 + (i : Int)) * (k - 1) ≤ last - 1
    · rw [if_pos (by omega), if_pos c1]
      by_cases c2 : 0 + (i : Int) = last % k
      · rw [if_pos c2, if_neg fun c3 => by
          have := p.mpr ⟨c2, c3.symm⟩
          omega]
        rfl
      · rw [if_neg c2]
        rfl
    · rw [if_neg c1]
      by_cases c3 : m * k - (0 + (i : Int)) * (k - 1) ≤ last
      · obtain ⟨p1, p2⟩ := p.mp (by omega)
        rw [if_pos c3, if_pos p1, if_pos p2.symm]
        rfl
      · rw [if_neg c3]
        by_cases c2 : 0 + (i : Int) = last % k
        · rw [if_pos c2, if_neg fun c4 => c3 (by
            have := p.mpr ⟨c2, c4.symm⟩
            omega)]
          rfl
        · rw [if_neg c2]
          rfl
  rw [e, sm_ind]
  by_cases c : m = once last k
  · rw [if_pos c]
    have h1 := Int.emod_nonneg last (show k ≠ 0 by omega)
    have h2 := Int.emod_lt_of_pos last (show 0 < k by omega)
    have h3 : 0 ≤ last / k := Int.ediv_nonneg (by omega) (by omega)
    unfold once at c
    rw [if_pos (by omega)]
  · rw [if_neg c]
    split <;> rfl
theorem cm_zero {k m : Int} (hk : 2 ≤ k) (hm : 1 ≤ m) : cm k 0 m = 0 := by
  refine sm_zero fun i hi => if_neg ?_
  have e : m * k - (0 + (i : Int)) * (k - 1) = (m - i) * k + i := by
    rw [Int.zero_add, Int.sub_mul, Int.mul_sub, Int.mul_one]
    omega
  rw [e]
  have := Int.mul_nonneg (show 0 ≤ m - i by omega) (show 0 ≤ k by omega)
  rcases Nat.eq_zero_or_pos i with z | z
  · have := Int.mul_le_mul (show (1 : Int) ≤ m - i by omega) hk (by decide) (by omega)
    omega
  · omega
theorem cnt_cons {n k : Int} {r : List Int} (hk : 2 ≤ k) (B : Nat) : ∀ a : Nat, a ≤ B → cnt n (k :: r) a = sm 1 (fun m => hit n r m * cm k a m) B
  | 0, _ => by
    rw [cnt_zero (by decide)]
    symm
    exact sm_zero fun i _ => by
      show hit n r (1 + i) * cm k 0 (1 + i) = 0
      rw [cm_zero hk (by omega), Int.mul_zero]
  | a + 1, h => by
    have hl : (1 : Int) ≤ ((a + 1 : Nat) : Int) := by omega
    have ih := cnt_cons hk B a (by omega) (n := n) (r := r)
    rw [cnt_step hl, show ((a + 1 : Nat) : Int) - 1 = (a : Int) by omega, ih]
    have e : sm 1 (fun m => hit n r m * cm k ((a + 1 : Nat) : Int) m) B = sm 1 (fun m => hit n r m * cm k (a : Int) m + (if m = once ((a + 1 : Nat) : Int) k then hit n r m else 0)) B := sm_congr fun i _ => by
      have st := cm_step (k := k) (m := 1 + (i : Int)) (last := ((a + 1 : Nat) : Int)) hk (by omega) hl
      rw [show ((a + 1 : Nat) : Int) - 1 = (a : Int) by omega] at st
      have e2 : cm k ((a + 1 : Nat) : Int) (1 + (i : Int)) = cm k (a : Int) (1 + i) + (if 1 + (i : Int) = once ((a + 1 : Nat) : Int) k then 1 else 0) := by omega
      show hit n r (1 + i) * cm k ((a + 1 : Nat) : Int) (1 + i) = hit n r (1 + i) * cm k (a : Int) (1 + i) + _
      rw [e2, Int.mul_add]
      split <;> simp
    rw [e, sm_add, sm_ind, if_pos ⟨once_pos hl hk, by
      have := once_le (show (0 : Int) ≤ ((a + 1 : Nat) : Int) by omega) hk
      omega⟩]
    rfl
/-- all of them -/
theorem cm_all {k m last : Int} (hk : 2 ≤ k) (hm : 1 ≤ m) (h : m ≤ last / k) : cm k last m = k - (if m ≤ k - 2 then k - m - 1 else 0) := by
  have e : cm k last m = ((min (k - 1) m + 1).toNat : Int) := sm_one fun i hi => if_pos (by
    have h1 : m * k ≤ last := (Int.le_ediv_iff_mul_le (by omega)).mp h
    have := Int.mul_nonneg (show (0 : Int) ≤ 0 + (i : Int) by omega) (show 0 ≤ k - 1 by omega)
    omega)
  rw [e]
  split <;> omega
/-- none of them -/
theorem cm_none {k m last : Int} (hk : 2 ≤ k) (hm : 1 ≤ m) (h : (last + (k - 1) * (k - 1)) / k < m) : cm k last m = 0 := by
  refine sm_zero fun i hi => if_neg fun c => ?_
  have h1 : last + (k - 1) * (k - 1) < m * k := (Int.ediv_lt_iff_lt_mul (by omega)).mp h
  have h2 : (0 + (i : Int)) * (k - 1) ≤ (k - 1) * (k - 1) := Int.mul_le_mul_of_nonneg_right (by omega) (by omega)
  omega
/-- what the program adds up -/
theorem cnt_code {n k last : Int} {r : List Int} (hk : 2 ≤ k) (hl : 1 ≤ last) :
    cnt n (k :: r) last = k * cnt n r (last / k) - sm 1 (fun m => hit n r m * (k - m - 1)) (min (last / k) (k - 2)).toNat +
      sm (last / k + 1) (fun m => hit n r m * cm k last m) ((last + (k - 1) * (k - 1)) / k - last / k).toNat := by
  have hk0 : (0 : Int) < k := by omega
  have q0 : 0 ≤ last / k := Int.ediv_nonneg (by omega) (by omega)
  have sq := Int.mul_nonneg (show 0 ≤ k - 1 by omega) (show 0 ≤ k - 1 by omega)
  have q1 : last / k ≤ (last + (k - 1) * (k - 1)) / k := Int.ediv_le_ediv hk0 (by omega)
  generalize hU : (last + (k - 1) * (k - 1)) / k = U at *
  generalize hL : last / k = L at *
  have e0 := cnt_cons (n := n) (r := r) hk (L.toNat + ((U - L).toNat + last.toNat)) last.toNat (by omega)
  rw [show ((last.toNat : Nat) : Int) = last by omega] at e0
  rw [e0, sm_split, sm_split]
  have e3 : sm (1 + (L.toNat : Int) + ((U - L).toNat : Int)) (fun m => hit n r m * cm k last m) last.toNat = 0 := sm_zero fun i _ => by
    show hit n r _ * cm k last _ = 0
    rw [cm_none hk (by omega) (by omega), Int.mul_zero]
  have e1 : sm 1 (fun m => hit n r m * cm k last m) L.toNat = sm 1 (fun m => k * hit n r m - (if m ≤ k - 2 then hit n r m * (k - m - 1) else 0)) L.toNat := sm_congr fun i _ => by
    show hit n r (1 + i) * cm k last (1 + i) = k * hit n r (1 + i) - _
    rw [cm_all hk (by omega) (by omega), Int.mul_sub, Int.mul_comm]
    split <;> simp
  have e2 : sm 1 (fun m => if m ≤ k - 2 then hit n r m * (k - m - 1) else 0) L.toNat = sm 1 (fun m => hit n r m * (k - m - 1)) (min L (k - 2)).toNat := by
    rw [show L.toNat = (min L (k - 2)).toNat + (L.toNat - (min L (k - 2)).toNat) by omega, sm_split]
    rw [sm_zero (n := L.toNat - (min L (k - 2)).toNat) fun i hi => if_neg (by omega), Int.add_zero]
    exact sm_congr fun i hi => if_pos (by omega)
  rw [e3, e1, sm_sub, e2, Int.add_zero, sm_mul, show (1 : Int) + (L.toNat : Int) = L + 1 by omega]
  rfl
/-- what the law's own counting adds up -/
def allOf (goal : Int) : List Int → Int
  | [] => 1
  | k :: r => k * allOf goal r - sm 1 (fun m => hit goal r m * (k - m - 1)) (k - 2).toNat
theorem hit_far {goal m : Int} {r : List Int} (t : Two r) (hm : 0 ≤ m) (h : goal * prodL r < m) : hit goal r m = 0 := by
  refine if_neg fun e => ?_
  have := sqz_ge hm t
  rw [e, Int.mul_comm] at this
  omega
theorem all_is {goal : Int} (hg : 1 ≤ goal) : ∀ {row : List Int}, Two row → allOf goal row = cnt goal row (goal * prodL row)
  | [], _ => by
    rw [show goal * prodL [] = goal by simp [prodL], cnt_nil hg hg, if_pos (Int.le_refl _)]
    rfl
  | k :: r, h => by
    have t : Two r := fun j hj => h j (List.mem_cons_of_mem _ hj)
    have hk := h k (List.mem_cons_self ..)
    have ih := all_is hg t
    have p := prodL_pos t
    have gp : 1 ≤ goal * prodL r := Int.mul_pos (by omega) (by omega)
    have e : goal * prodL (k :: r) = goal * prodL r * k := by
      rw [prodL_cons, Int.mul_comm k, Int.mul_assoc]
    have l1 : 1 ≤ goal * prodL r * k := Int.mul_pos (by omega) (by omega)
    rw [e, cnt_code hk l1, Int.mul_ediv_cancel _ (by omega), ← ih]
    generalize hL : goal * prodL r = L at *
    have z : sm (L + 1) (fun m => hit goal r m * cm k (L * k) m) (((L * k) + (k - 1) * (k - 1)) / k - L).toNat = 0 := sm_zero fun i _ => by
      show hit goal r _ * _ = 0
      rw [hit_far t (by omega) (by omega), Int.zero_mul]
    rw [z, Int.add_zero]
    show k * allOf goal r - _ = _
    congr 1
    rcases Int.le_total L (k - 2) with c | c
    · rw [show (k - 2).toNat = (min L (k - 2)).toNat + ((k - 2).toNat - (min L (k - 2)).toNat) by omega, sm_split]
      rw [sm_zero (n := (k - 2).toNat - (min L (k - 2)).toNat) fun i hi => by
        show hit goal r _ * _ = 0
        rw [hit_far t (by omega) (by omega), Int.zero_mul], Int.add_zero]
    · rw [show (min L (k - 2)).toNat = (k - 2).toNat by omega]
theorem cnt_far {goal last : Int} {row : List Int} (t : Two row) (hg : 1 ≤ goal) (h : goal * prodL row ≤ last) : cnt goal row last = cnt goal row (goal * prodL row) := by
  have p := prodL_pos t
  have gp : 1 ≤ goal * prodL row := Int.mul_pos (by omega) (by omega)
  unfold cnt
  rw [show last.toNat = (goal * prodL row).toNat + (last.toNat - (goal * prodL row).toNat) by omega, sm_split]
  rw [sm_zero (n := last.toNat - (goal * prodL row).toNat) fun i hi => hit_far t (by omega) (by omega), Int.add_zero]
theorem sm_le {lo : Int} {f : Int → Int} (h : ∀ x, f x ≤ 1) : ∀ n : Nat, sm lo f n ≤ n
  | 0 => Int.le_refl 0
  | n + 1 => by
    have := sm_le (lo := lo) h n
    have := h (lo + n)
    simp only [sm]
    omega
theorem cnt_le {n last : Int} {row : List Int} (h : 0 ≤ last) : cnt n row last ≤ last := by
  have := sm_le (lo := 1) (f := hit n row) (fun x => by unfold hit; split <;> decide) last.toNat
  unfold cnt
  omega
/-- what k alone makes m long, the greatest first -/
def befores (m k : Int) : List Int := (List.range (min (k - 1) m + 1).toNat).map fun (t : Nat) => m * k - (0 + (t : Int)) * (k - 1)
theorem sm_filter {last : Int} (f : Int → Int) : ∀ n : Nat, sm 0 (fun t => if f t ≤ last then 1 else 0) n = ((((List.range n).map fun (t : Nat) => f (0 + (t : Int))).filter fun x => decide (x ≤ last)).length : Int)
  | 0 => rfl
  | n + 1 => by
    show sm 0 _ n + (if f (0 + (n : Int)) ≤ last then 1 else 0) = _
    rw [sm_filter f n, List.range_succ, List.map_append, List.filter_append, List.length_append]
    by_cases c : f (0 + (n : Int)) ≤ last
    · rw [if_pos c]
      simp only [List.map_cons, List.map_nil, List.filter_cons, c, decide_true, if_true, List.filter_nil, List.length_singleton]
      omega
    · rw [if_neg c]
      simp only [List.map_cons, List.map_nil, List.filter_cons, c, decide_false, Bool.false_eq_true, if_false, List.filter_nil, List.length_nil]
      omega
theorem cm_len (k last m : Int) : cm k last m = (((befores m k).filter fun x => decide (x ≤ last)).length : Int) := sm_filter (fun t => m * k - t * (k - 1)) _
theorem foldl_mul (row : List Int) : ∀ a : Int, row.foldl (fun x k => x * k) a = a * prodL row := by
  induction row with
  | nil => intro a; simp [prodL]
  | cons k r ih =>
    intro a
    rw [List.foldl_cons, ih, prodL_cons, Int.mul_assoc]
end Sq


namespace Sq
open PySem PySem.Spec PyProof.Rows L2
/-! ## ranges of wide ints -/
theorem turn_wide {P : Program} {w : World} {K : PySem.W.Frag} {tg : Expr} (z : Addr) (lo : Int) (n : Nat) : Turn P w K tg (Itr lo n) [z] z (fun i h => IsLongIter h z (lo + (i : Nat) * 1) ((n : Int) - (i : Nat)) 1) := by
  refine ⟨List.mem_singleton.mpr rfl, fun i h st b hb => ?_, fun i h h2 st k => k z (List.mem_singleton.mpr rfl) _ st, ?_, ?_, fun A i s Q E st h => wpAny_pyIter_longiter st h⟩
  · rw [List.mem_singleton.mp hb]
    exact ⟨_, st, fun v c => by cases (show Data.fields _ = Data.cell v from c)⟩
  · rintro X rfl rfl rfl hc i pins s σ H E I hf st hg
    have f := hf z (List.mem_singleton.mpr rfl)
    refine (Walks.longrange (prog := X.prog) (w := X.w) (I.ok.hd hc) z lo 1 n).item i s _ _ hg st fun v h2 tk hv st2 kk => ?_
    obtain ⟨t, rfl⟩ := hv
    have J : Inv X pins σ H { s with heap := h2, toks := tk } := I.turned (fun b o hb e => kk b o (fun m => hb (List.mem_singleton.mp m)) e) f.1 f.2.1 f.2.2.2.1 f.2.2.2.2.1 f.2.2.2.2.2
    refine ⟨_, rfl, go_of (s := { s with heap := h2, toks := tk }) (n := "longrange_iterator") st2 rfl rfl (by decide) ⟨.int (lo + i), H, J, ⟨t, by rw [Int.mul_one]⟩, ⟨rfl, rfl⟩, st2, fun b hb => (hf b hb).1⟩⟩
  · rintro X rfl rfl rfl hc i pins s σ H E I hf st hg
    have f := hf z (List.mem_singleton.mpr rfl)
    have m : n ≤ i := hg
    exact wpAny_pyNext_long_end (I.ok.hd hc) st (by omega) fun h2 k => ⟨rfl, I.turned (t' := s.toks) (fun b o hb e => k b o hb e) f.1 f.2.1 f.2.2.2.1 f.2.2.2.2.1 f.2.2.2.2.2⟩
section
variable {X : Cx} {tg a b : Expr} {t : TA} {p pos : Pos}
theorem rsz (lo hi : Int) : Builtin.Range.rangeSize lo hi 1 = ((hi - lo).toNat : Int) := by
  rw [rangeSize_one]
  split <;> omega
theorem wide_it {pins : List (Addr × Obj)} {σ : L2.St} {H : Hp} {s : Shared} {R : It → Hp → Prop} {E : Value → Shared → Prop} {lo hi : Int} {t u v : Tok} {tk : Nat} (I : Inv X pins σ H s) (q : R (Itr lo (hi - lo).toNat) H) :
    wpAny (model X.prog X.w) X.A (pyIter (.ref s.heap.objs.size)) (PIE X pins σ tg R) E { s with heap := s.heap.push { cls := .type "range", data := .fields #[.int lo t, .int hi u, .int 1 v] }, toks := tk } := by
  have J : Inv X pins σ H { s with heap := s.heap.push { cls := .type "range", data := .fields #[.int lo t, .int hi u, .int 1 v] }, toks := tk } := I.kept fun b o e => Heap.get?_push_of_some _ e
  have z0 : lo + ((0 : Nat) : Int) * 1 = lo := by omega
  have z1 : (((hi - lo).toNat : Nat) : Int) - ((0 : Nat) : Int) = Builtin.Range.rangeSize lo hi 1 := by
    rw [rsz]
    omega
  by_cases sm : Builtin.Range.small lo hi 1 = true
  · refine wpAny_pyIter_range (IsRange.new ..) sm ⟨(s.heap.push { cls := .type "range", data := .fields #[.int lo t, .int hi u, .int 1 v] }).objs.size, [(s.heap.push { cls := .type "range", data := .fields #[.int lo t, .int hi u, .int 1 v] }).objs.size], _, _, H, rfl,
      J.kept (t' := tk) fun b o e => Heap.get?_push_of_some _ e, turn_range _ lo (hi - lo).toNat, ?_, fun b hb => ?_, q⟩
    · show IsRangeIter _ _ (lo + ((0 : Nat) : Int) * 1) ((((hi - lo).toNat : Nat) : Int) - ((0 : Nat) : Int)) 1
      rw [z0, z1]
      exact Heap.get?_push_size _ rfl
    · rw [List.mem_singleton.mp hb]
      exact J.fpOk (Nat.le_refl _) (J.hok.fresh (Nat.le_refl _))
  · refine wpAny_pyIter_longrange (IsRange.new ..) (Bool.not_eq_true _ ▸ sm) ⟨(s.heap.push { cls := .type "range", data := .fields #[.int lo t, .int hi u, .int 1 v] }).objs.size, [(s.heap.push { cls := .type "range", data := .fields #[.int lo t, .int hi u, .int 1 v] }).objs.size], _, _, H, rfl,
      J.kept (t' := tk) fun b o e => Heap.get?_push_of_some _ e, turn_wide _ lo (hi - lo).toNat, ?_, fun b hb => ?_, q⟩
    · show IsLongIter _ _ (lo + ((0 : Nat) : Int) * 1) ((((hi - lo).toNat : Nat) : Int) - ((0 : Nat) : Int)) 1
      rw [z0, z1]
      exact Heap.get?_push_size _ rfl
    · rw [List.mem_singleton.mp hb]
      exact J.fpOk (Nat.le_refl _) (J.hok.fresh (Nat.le_refl _))
def iRngW (t : TA) : TI := fun σ H R => t σ H fun vs H1 => ∃ i j : Int, vs = [.int i, .int j] ∧ R (Itr i (j - i).toNat) H1
theorem pi_range2W (hg : Gl X "range") (hm : X.mg "range" = none) (ha : PA X [a, b] t) (h1 : starEach [a, b] X.env = [(false, eval a X.env), (false, eval b X.env)] := by rfl) (h2 : starEach [b] X.env = [(false, eval b X.env)] := by rfl) :
    PI X tg (.Call (.Name "range" p) [a, b] [] pos) (iRngW t) := by
  refine ⟨fun pins s σ H R I h => Call_ (ld_blt I hg hm boot_range (PyProof.Rows.callWith_type1 (thn (ha.run pos pins s σ H _ I h) fun us s1 hx => ?_) (by rw [h1, h2]) (by rw [h2]; rfl)))⟩
  obtain ⟨vs, H1, J, r, i, j, rfl, q⟩ := hx
  obtain ⟨u, v, rfl, ⟨c, rfl⟩, ⟨d, rfl⟩⟩ : ∃ u v, us = [u, v] ∧ RelV (.int i) u ∧ RelV (.int j) v := by
    cases r with
    | cons r1 r => cases r with
      | cons r2 r => cases r; exact ⟨_, _, rfl, r1, r2⟩
  exact call_range_2 (wide_it J q)
end
/-! ## parts of a list -/
theorem cut_from (xs : List V) (k : Nat) : cutV xs (some (k : Int)) none = xs.drop k := by
  unfold cutV
  rw [HT.sIx_nat, HT.sIx_none]
  rcases Nat.le_total k xs.length with h | h
  · rw [Nat.min_eq_left h]
    exact List.take_of_length_le (by rw [List.length_drop]; omega)
  · rw [Nat.min_eq_right h, List.drop_eq_nil_of_le (Nat.le_refl _), List.drop_eq_nil_of_le h]
    simp
theorem cut_to (xs : List V) (k : Nat) : cutV xs none (some (k : Int)) = xs.take k := by
  unfold cutV
  rw [HT.sIx_nat, HT.sIx_none, List.drop_zero, Nat.sub_zero]
  rcases Nat.le_total k xs.length with h | h
  · rw [Nat.min_eq_left h]
  · rw [Nat.min_eq_right h, List.take_of_length_le (Nat.le_refl _), List.take_of_length_le h]
theorem cut_mid (xs : List V) (j k : Nat) : cutV xs (some (j : Int)) (some (k : Int)) = (xs.drop j).take (k - j) := by
  unfold cutV
  rw [HT.sIx_nat, HT.sIx_nat]
  rcases Nat.le_total j xs.length with h | h
  · rw [Nat.min_eq_left h]
    rcases Nat.le_total k xs.length with h2 | h2
    · rw [Nat.min_eq_left h2]
    · rw [Nat.min_eq_right h2, List.take_of_length_le (by rw [List.length_drop]; omega), List.take_of_length_le (by rw [List.length_drop]; omega)]
  · rw [Nat.min_eq_right h, List.drop_eq_nil_of_le (Nat.le_refl _), List.drop_eq_nil_of_le h]
    simp
theorem iv_drop (ns : List Int) (k : Nat) : (iv ns).drop k = iv (ns.drop k) := by simp
theorem iv_take (ns : List Int) (k : Nat) : (iv ns).take k = iv (ns.take k) := by simp
/-! ## a op b op c op d -/
def tChain3 (r r' r'' : R2) (ta tb tc td : TE) : TE := fun σ H Q => ta σ H fun x H1 => tb σ H1 fun y H2 => r x y H2 fun z H3 => ∃ k, z = .bl k ∧
  (if k = true then tc σ H3 fun v H4 => r' y v H4 fun z' H5 => ∃ k', z' = .bl k' ∧ (if k' = true then td σ H5 fun u H6 => r'' v u H6 Q else Q (.bl false) H5) else Q (.bl false) H3)
section
variable {X : Cx} {a b c d : Expr} {ta tb tc td : TE} {pos : Pos} {op op' op'' : CmpOp} {r r' r'' : R2}
theorem pt_chain3 (h1 : OpR X (compareOp op) r) (h2 : OpR X (compareOp op') r') (h3 : OpR X (compareOp op'') r'') (ha : PE X a ta) (hb : PE X b tb) (hc : PE X c tc) (hd : PE X d td)
    (hm : lastMarks [op, op', op''] [b, c, d] = false := by with_unfolding_all rfl) : PT X (.Compare a [op, op', op''] [b, c, d] pos) (tTest (tChain3 r r' r'' ta tb tc td)) := by
  refine ⟨fun pins s σ H Q I h => isTrue_chain (thn (ha.run pins s σ H _ I h) fun v s1 ⟨x, H1, I1, r1, q1⟩ => test_link (thn (hb.run pins s1 σ H1 _ I1 q1) fun u s2 ⟨y, H2, I2, r2, q2⟩ =>
    thn (h1 pins s2 σ H2 x y v u _ I2 r1 r2 q2) fun e s3 ⟨z, H3, I3, r3, k, ez, q3⟩ => ?_)) hm⟩
  subst ez
  cases r3
  refine wpAny_truthy_bool ?_
  cases k with
  | false =>
    obtain ⟨k2, e2, q2⟩ := q3
    cases e2
    exact ite_ff ⟨H3, I3, q2⟩
  | true =>
    refine ite_tt (test_link (thn (hc.run pins s3 σ H3 _ I3 q3) fun w4 s4 ⟨y4, H4, I4, r4, q4⟩ => thn (h2 pins s4 σ H4 y y4 u w4 _ I4 r2 r4 q4) fun e5 s5 ⟨z5, H5, I5, r5, k5, e5', q5⟩ => ?_))
    subst e5'
    cases r5
    refine wpAny_truthy_bool ?_
    cases k5 with
    | false =>
      obtain ⟨k2, e2, q2⟩ := q5
      cases e2
      exact ite_ff ⟨H5, I5, q2⟩
    | true =>
      refine ite_tt (test_last (thn (hd.run pins s5 σ H5 _ I5 q5) fun w6 s6 ⟨y6, H6, I6, r6, q6⟩ => thn (h3 pins s6 σ H6 y4 y6 w4 w6 _ I6 r4 r6 q6) fun e7 s7 ⟨z7, H7, I7, r7, k7, e7', q7⟩ => ?_))
      subst e7'
      cases r7
      exact wpAny_truthy_bool ⟨H7, I7, q7⟩
end
end Sq


/-! all origins of a length, and sums of their counts -/
namespace Sq
theorem sm_comm {a b : Int} {f : Int → Int → Int} (m : Nat) : ∀ n : Nat, sm a (fun x => sm b (f x) m) n = sm b (fun y => sm a (fun x => f x y) n) m
  | 0 => by
    symm
    exact sm_zero fun i _ => rfl
  | n + 1 => by
    show sm a _ n + sm b (f (a + n)) m = _
    rw [sm_comm m n, ← sm_add]
    rfl
/-- the count with the length 0 -/
def cnt0 (n : Int) (row : List Int) (last : Int) : Int := if 0 < n then cnt n row last else 1
theorem cnt0_sum {row : List Int} {last T : Int} (h : Two row) (h0 : 0 ≤ last) (T0 : 0 ≤ T) (hT : ∀ x, 1 ≤ x → x ≤ last → sqz x row ≤ T) : sm 0 (fun g => cnt0 g row last) (T.toNat + 1) = last + 1 := by
  have e1 := sm_split (lo := 0) (f := fun g => cnt0 g row last) 1 T.toNat
  rw [Nat.add_comm 1] at e1
  rw [e1]
  have e2 : sm 0 (fun g => cnt0 g row last) 1 = 1 := by
    show 0 + cnt0 (0 + ((0 : Nat) : Int)) row last = 1
    rfl
  have e3 : sm (0 + ((1 : Nat) : Int)) (fun g => cnt0 g row last) T.toNat = sm 1 (fun g => sm 1 (fun x => hit g row x) last.toNat) T.toNat := by
    refine sm_congr fun i hi => ?_
    show cnt0 _ row last = cnt _ row last
    unfold cnt0
    rw [if_pos (by omega)]
  have e4 : sm 1 (fun x => sm 1 (fun g => hit g row x) T.toNat) last.toNat = (last.toNat : Int) := by
    refine sm_one fun i hi => ?_
    have a := sqz_pos (n := 1 + (i : Int)) (by omega) h
    have b := hT (1 + (i : Int)) (by omega) (by omega)
    have c : sm 1 (fun g => hit g row (1 + (i : Int))) T.toNat = sm 1 (fun t => if t = sqz (1 + (i : Int)) row then (fun _ => (1 : Int)) t else 0) T.toNat := sm_congr fun j _ => by
      show (if sqz (1 + (i : Int)) row = 1 + (j : Int) then (1 : Int) else 0) = if 1 + (j : Int) = sqz (1 + (i : Int)) row then 1 else 0
      by_cases z : sqz (1 + (i : Int)) row = 1 + (j : Int)
      · rw [if_pos z, if_pos z.symm]
      · rw [if_neg z, if_neg fun z2 => z z2.symm]
    show sm 1 (fun g => hit g row (1 + (i : Int))) T.toNat = 1
    rw [c, sm_ind, if_pos (by omega)]
  rw [e2, e3, sm_comm, e4]
  omega
theorem cnt0_next {g : Int} {row : List Int} {last : Int} (h0 : 0 ≤ last) (hn : sqz (last + 1) row ≠ g) : cnt0 g row (last + 1) = cnt0 g row last := by
  unfold cnt0
  split
  · rw [cnt_step (by omega), show last + 1 - 1 = last by omega]
    unfold hit
    rw [if_neg hn, Int.add_zero]
  · rfl
theorem slack_sum : ∀ {ns : List Int}, slack ns ≤ ns.sum
  | [] => by decide
  | k :: r => by
    have := slack_sum (ns := r)
    rw [slack_cons, List.sum_cons]
    omega
theorem sqz_top {row : List Int} {x last : Int} (h : Two row) (h0 : 0 ≤ x) (hl : x ≤ last) : sqz x row ≤ last / prodL row + row.sum := by
  have a := sqz_up h0 h
  have p := prodL_pos h
  have b : prodL row * (sqz x row - slack row) ≤ last := by
    rw [Int.mul_sub]
    omega
  rw [Int.mul_comm] at b
  have c := Int.le_ediv_of_mul_le (by omega) b
  have := slack_sum (ns := row)
  omega
/-! ### all origins -/
def orig (goal : Int) (row : List Int) : List Int := row.foldr (fun k acc => acc.flatMap fun m => befores m k) [goal]
theorem orig_cons (goal k : Int) (r : List Int) : orig goal (k :: r) = (orig goal r).flatMap fun m => befores m k := rfl
theorem mem_befores {m k x : Int} (hk : 2 ≤ k) (hm : 0 ≤ m) (h : x ∈ befores m k) : once x k = m ∧ 0 ≤ x ∧ x ≤ m * k := by
  unfold befores at h
  obtain ⟨t, ht, rfl⟩ := List.mem_map.mp h
  have ht := List.mem_range.mp ht
  have e : m * k - (0 + (t : Int)) * (k - 1) = (m - t) * k + t := by
    rw [Int.zero_add, Int.sub_mul, Int.mul_sub, Int.mul_one]
    omega
  have t0 : (0 : Int) ≤ (0 + (t : Int)) * (k - 1) := Int.mul_nonneg (by omega) (by omega)
  refine ⟨?_, ?_, by omega⟩
  · rw [e, once_qr (by omega) (by omega)]
    omega
  · rw [e]
    have := Int.mul_nonneg (show (0 : Int) ≤ m - t by omega) (show (0 : Int) ≤ k by omega)
    omega
theorem mem_orig {goal : Int} (h0 : 0 ≤ goal) : ∀ {row : List Int}, Two row → ∀ x ∈ orig goal row, sqz x row = goal ∧ 0 ≤ x ∧ x ≤ goal * prodL row
  | [], _, x, hx => by
    rw [List.mem_singleton.mp hx]
    exact ⟨rfl, h0, by simp [prodL]⟩
  | k :: r, h, x, hx => by
    have t : Two r := fun j hj => h j (List.mem_cons_of_mem _ hj)
    have hk := h k (List.mem_cons_self ..)
    rw [orig_cons] at hx
    obtain ⟨m, hm, hx⟩ := List.mem_flatMap.mp hx
    obtain ⟨a, b, c⟩ := mem_orig h0 t m hm
    obtain ⟨d, e, f⟩ := mem_befores hk b hx
    refine ⟨by rw [sqz_cons, d, a], e, Int.le_trans f ?_⟩
    rw [prodL_cons, Int.mul_comm k, ← Int.mul_assoc]
    exact Int.mul_le_mul_of_nonneg_right c (by omega)
theorem befores_le {m k : Int} (hk : 2 ≤ k) : ((befores m k).length : Int) ≤ k := by
  unfold befores
  rw [List.length_map, List.length_range]
  omega
theorem len_flat {k : Int} (hk : 2 ≤ k) : ∀ l : List Int, ((l.flatMap fun m => befores m k).length : Int) ≤ l.length * k
  | [] => by simp
  | a :: l => by
    have i := len_flat hk l
    have b := befores_le (m := a) hk
    rw [List.flatMap_cons, List.length_append, List.length_cons]
    have : (((l.length + 1 : Nat) : Int)) * k = l.length * k + k := by
      rw [Int.natCast_add, Int.add_mul]
      simp
    rw [this]
    omega
theorem len_orig {goal : Int} : ∀ {row : List Int}, Two row → ((orig goal row).length : Int) ≤ prodL row
  | [], _ => by simp [orig, prodL]
  | k :: r, h => by
    have t : Two r := fun j hj => h j (List.mem_cons_of_mem _ hj)
    have hk := h k (List.mem_cons_self ..)
    have i := len_orig (goal := goal) t
    have a := len_flat hk (orig goal r)
    rw [orig_cons, prodL_cons, Int.mul_comm k]
    exact Int.le_trans a (Int.mul_le_mul_of_nonneg_right i (by omega))
/-- the sum of f over a list -/
def sf (f : Int → Int) (l : List Int) : Int := (l.map f).sum
theorem sf_cons (f : Int → Int) (a : Int) (l : List Int) : sf f (a :: l) = f a + sf f l := by
  unfold sf
  rw [List.map_cons, List.sum_cons]
theorem sf_app (f : Int → Int) (a b : List Int) : sf f (a ++ b) = sf f a + sf f b := by
  unfold sf
  rw [List.map_append, List.sum_append]
theorem sf_flat (f : Int → Int) (g : Int → List Int) : ∀ l : List Int, sf f (l.flatMap g) = sf (fun m => sf f (g m)) l
  | [] => rfl
  | a :: l => by rw [List.flatMap_cons, sf_app, sf_flat f g l, sf_cons]
theorem sf_one : ∀ l : List Int, sf (fun _ => 1) l = l.length
  | [] => rfl
  | a :: l => by
    rw [sf_cons, sf_one l, List.length_cons]
    omega
theorem sf_range (f g : Int → Int) : ∀ n : Nat, sf f ((List.range n).map fun (t : Nat) => g (0 + (t : Int))) = sm 0 (fun t => f (g t)) n
  | 0 => rfl
  | n + 1 => by
    rw [List.range_succ, List.map_append, sf_app, sf_range f g n]
    show _ + sf f [g (0 + (n : Int))] = sm 0 _ n + f (g (0 + n))
    rw [sf_cons]
    simp [sf]
theorem sf_befores {m k : Int} (hk : 2 ≤ k) (hm : 1 ≤ m) (f : Int → Int) {B : Nat} (hB : m * k ≤ B) : sf f (befores m k) = sm 1 (fun x => if once x k = m then f x else 0) B := by
  unfold befores
  rw [sf_range f fun t => m * k - t * (k - 1)]
  have e1 : sm 0 (fun t => f (m * k - t * (k - 1))) (min (k - 1) m + 1).toNat = sm 0 (fun t => sm 1 (fun x => if x = m * k - t * (k - 1) then f x else 0) B) (min (k - 1) m + 1).toNat := sm_congr fun i hi => by
    have e : m * k - (0 + (i : Int)) * (k - 1) = (m - i) * k + i := by
      rw [Int.zero_add, Int.sub_mul, Int.mul_sub, Int.mul_one]
      omega
    have t0 : (0 : Int) ≤ (0 + (i : Int)) * (k - 1) := Int.mul_nonneg (by omega) (by omega)
    have p : 1 ≤ m * k - (0 + (i : Int)) * (k - 1) := by
      rw [e]
      rcases Int.lt_or_le (i : Int) m with c | c
      · have := Int.mul_le_mul (show (1 : Int) ≤ m - i by omega) hk (by decide) (by omega)
        omega
      · have : m - (i : Int) = 0 := by omega
        rw [this]
        omega
    show f _ = sm 1 (fun x => if x = m * k - (0 + (i : Int)) * (k - 1) then f x else 0) B
    rw [sm_ind, if_pos ⟨p, by omega⟩]
  rw [e1, sm_comm]
  refine sm_congr fun i hi => ?_
  show sm 0 (fun t => if 1 + (i : Int) = m * k - t * (k - 1) then f (1 + i) else 0) _ = if once (1 + (i : Int)) k = m then f (1 + i) else 0
  generalize hx : 1 + (i : Int) = x
  have x1 : 1 ≤ x := by omega
  by_cases c : once x k = m
  · rw [if_pos c]
    have e2 : sm 0 (fun t => if x = m * k - t * (k - 1) then f x else 0) (min (k - 1) m + 1).toNat = sm 0 (fun t => if t = x % k then (fun _ => f x) t else 0) (min (k - 1) m + 1).toNat := sm_congr fun j hj => by
      have z := pre_is (t := 0 + (j : Int)) hk x1 (by omega) (by omega) (m := m) (by omega)
      show (if x = m * k - (0 + (j : Int)) * (k - 1) then f x else 0) = if 0 + (j : Int) = x % k then f x else 0
      by_cases y : 0 + (j : Int) = x % k
      · rw [if_pos y, if_pos (z.mpr ⟨y, c⟩).symm]
      · rw [if_neg y, if_neg fun y2 => y (z.mp y2.symm).1]
    have r0 := Int.emod_nonneg x (show k ≠ 0 by omega)
    have r1 := Int.emod_lt_of_pos x (show 0 < k by omega)
    have r2 := Int.ediv_nonneg (show 0 ≤ x by omega) (show 0 ≤ k by omega)
    have r3 : x % k ≤ m := by
      unfold once at c
      omega
    rw [e2, sm_ind, if_pos (by omega)]
  · rw [if_neg c]
    refine sm_zero fun j hj => ?_
    have z := pre_is (t := 0 + (j : Int)) hk x1 (by omega) (by omega) (m := m) (by omega)
    show (if x = m * k - (0 + (j : Int)) * (k - 1) then f x else 0) = 0
    rw [if_neg fun y2 => c (z.mp y2.symm).2]
theorem sf_orig {goal : Int} (hg : 1 ≤ goal) : ∀ {row : List Int}, Two row → ∀ (f : Int → Int) (B : Nat), goal * prodL row ≤ B → sf f (orig goal row) = sm 1 (fun x => hit goal row x * f x) B
  | [], _, f, B, hB => by
    have e : sm 1 (fun x => hit goal [] x * f x) B = sm 1 (fun x => if x = goal then f x else 0) B := sm_congr fun i _ => by
      show (if 1 + (i : Int) = goal then (1 : Int) else 0) * f _ = _
      split
      · exact Int.one_mul _
      · exact Int.zero_mul _
    have hB : goal ≤ B := by simpa [prodL] using hB
    rw [e, sm_ind, if_pos (by omega)]
    show sf f [goal] = _
    rw [sf_cons]
    simp [sf]
  | k :: r, h, f, B, hB => by
    have t : Two r := fun j hj => h j (List.mem_cons_of_mem _ hj)
    have hk := h k (List.mem_cons_self ..)
    have p := prodL_pos t
    have gp : 1 ≤ goal * prodL r := Int.mul_pos (by omega) (by omega)
    have eB : goal * prodL (k :: r) = goal * prodL r * k := by rw [prodL_cons, Int.mul_comm k, ← Int.mul_assoc]
    rw [eB] at hB
    have ih := sf_orig hg t (fun m => sf f (befores m k)) (goal * prodL r).toNat (by omega)
    rw [orig_cons, sf_flat, ih]
    have e1 : sm 1 (fun x => hit goal r x * sf f (befores x k)) (goal * prodL r).toNat = sm 1 (fun m => sm 1 (fun x => hit goal r m * (if once x k = m then f x else 0)) B) (goal * prodL r).toNat := sm_congr fun i hi => by
      show hit goal r _ * sf f (befores (1 + (i : Int)) k) = sm 1 (fun x => hit goal r (1 + (i : Int)) * _) B
      rw [sm_mul (f := fun x => if once x k = 1 + (i : Int) then f x else 0), sf_befores hk (by omega) f (B := B)]
      refine Int.le_trans (Int.mul_le_mul_of_nonneg_right (show 1 + (i : Int) ≤ goal * prodL r by omega) (by omega)) hB
    rw [e1, sm_comm]
    refine sm_congr fun i hi => ?_
    show sm 1 (fun m => hit goal r m * (if once (1 + (i : Int)) k = m then f (1 + i) else 0)) _ = hit goal (k :: r) (1 + (i : Int)) * f (1 + i)
    generalize hx : 1 + (i : Int) = x
    have x1 : 1 ≤ x := by omega
    have o1 := once_pos x1 hk
    have e2 : sm 1 (fun m => hit goal r m * (if once x k = m then f x else 0)) (goal * prodL r).toNat = sm 1 (fun m => if m = once x k then (fun m => hit goal r m * f x) m else 0) (goal * prodL r).toNat := sm_congr fun j _ => by
      show hit goal r (1 + (j : Int)) * (if once x k = 1 + (j : Int) then f x else 0) = if 1 + (j : Int) = once x k then hit goal r (1 + (j : Int)) * f x else 0
      by_cases y : 1 + (j : Int) = once x k
      · rw [if_pos y, if_pos y.symm]
      · rw [if_neg y, if_neg fun y2 => y y2.symm, Int.mul_zero]
    rw [e2, sm_ind]
    show _ = hit goal r (once x k) * f x
    by_cases c : once x k ≤ goal * prodL r
    · rw [if_pos (by omega)]
    · rw [if_neg (by omega), hit_far t (by omega) (by omega), Int.zero_mul]
theorem orig_zero : ∀ {row : List Int}, Two row → orig 0 row = [0]
  | [], _ => rfl
  | k :: r, h => by
    have t : Two r := fun j hj => h j (List.mem_cons_of_mem _ hj)
    have hk := h k (List.mem_cons_self ..)
    rw [orig_cons, orig_zero t]
    show befores 0 k ++ [] = [0]
    unfold befores
    rw [show (min (k - 1) 0 + 1).toNat = 1 by omega]
    simp
/-- as many as are counted -/
theorem orig_len {goal : Int} {row : List Int} (h0 : 0 ≤ goal) (h : Two row) : ((orig goal row).length : Int) = cnt0 goal row (goal * prodL row) := by
  unfold cnt0
  split
  · rename_i g
    have p := prodL_pos h
    have gp : 1 ≤ goal * prodL row := Int.mul_pos (by omega) (by omega)
    rw [← sf_one, sf_orig (by omega) h (fun _ => 1) (goal * prodL row).toNat (by omega)]
    unfold cnt
    exact sm_congr fun i _ => Int.mul_one _
  · rename_i g
    rw [show goal = 0 by omega, orig_zero h]
    rfl
end Sq


set_option Elab.async false
set_option maxRecDepth 100000
set_option maxHeartbeats 4000000
namespace Sq
open PySem PySem.Spec PyProof.Rows L2
/-! ## an own exception's __init__(self, value): super().__init__(text); self.value = value -/
section
open PySem.W PySem.Calls
variable {prog : Program} {w : World} {A : Around} {E : Value → Shared → Prop} {h : Heap} {g : Array GenState} {d : Drawn} {t : Nat} {os : OsState}
variable {nm q : Str} {C N : Addr} {bs bm : List Value} {hdct : Bool} {sn : List Str} {sub : List Value} {ab : Bool} {col : Option Bool} {dd : Option Addr} {k0 k1 k2 k3 k5 : Option Value}
/-- ValueError.__init__, bound to e, called -/
theorem call_vw {u e t0 : Addr} {rest : List Value} {Q : Value → Shared → Prop}
    (hC : h.get? C = some (excClassObj nm q C N bs bm hdct sn sub ab col dd k0 k1 k2 k3 k5 "ValueError.__new__")) (he : h.get? e = some (HandSPX.excO C t0)) (hu : h.get? u = some (kxs_mw "ValueError.__init__" e)) (hrest : rest.length ≤ sizeLine)
    (hq : ∀ h' t1, (∀ b o, b ≠ e → h.get? b = some o → h'.get? b = some o) → h'.get? e = some (HandSPX.excO C t1) → Q .none ⟨h', g, d, t, os⟩) :
    wpAny (model prog w) A (call (.ref u) rest) Q E ⟨h, g, d, t, os⟩ := by
  refine wpAny_call (codeAny_of_tree ?_)
  show wpAny _ A.in1 (callAny (.ref u) ⟨rest, []⟩) _ _ _
  simp only [callAny]
  refine wpAny_bind (wpAny_load hu ?_)
  simp only [kxs_mw, show (Value.type "method-wrapper" == Value.type "method" || Value.type "method-wrapper" == Value.type "builtin_function_or_method" || Value.type "method-wrapper" == Value.type "method-wrapper") = true by decide, if_true]
  refine W.KFB.if_so (by decide) ?_
  refine wpAny_bind (check_bound_init F.excBase_ValueError.toExcCallFacts hC he rfl ?_)
  refine wpAny_bind (wpAny_pure (wpAny_pure ⟨Code.quiet_builtin _ (by decide +kernel), codeAny_builtin F.excBase_ValueError.initEntry ?_⟩))
  exact exc_init_tree (cls := .ref C) (t0 := t0) (dv := none) (c2 := .none) (c3 := .none) (b4 := .bool false) he hrest fun h' k e' _ => hq h' h.objs.size k e'
end

def spXI (C : Addr) : Sp := fun vs H Q _ => ∃ (a : Addr) (v : V), vs = [.ref a, v] ∧ H a = some (exo a C none) ∧ ∀ dx, H dx = none → dx ≠ a → Q .non (upd (upd H dx (exd dx [("value", v)])) a (exo a C (some dx)))
/-- what the written part says of such an __init__ -/
structure XIn (P : Program) (K : PySem.W.Frag) (C f cc cda : Addr) (qual file : Str) : Prop where
  code : PySem.W.codeIn K (.ref cda) qual = true
  cell : ∃ cl cld csl, K.lookup cc = some ⟨cl, cld, .cell (some (.ref C)), csl⟩
  rec_ : ∃ ccl cdd vs ccs tf, K.lookup cda = some ⟨ccl, cdd, .fields vs, ccs⟩ ∧ vs[2]? = some (.str file tf)
  file : ((P.main.file : Str) == file) = true
  top : (P.main.scope.names.lookup ("super" : Str)).isSome = false
  opq : PySem.W.nsIn K PySem.cStatics "thirdparty.any" = some none
  sup : PySem.W.ks_superIn K C C "__init__" = some (some (.builtin "ValueError.__init__"))
  veb : PySem.W.subIn K (.ref C) (.type "ValueError") = some true
  self : PySem.W.mroIn K C (.ref C) = some true
  val : PySem.W.findIn K (.ref C) "value" = some none
abbrev xiScope : Scope := ⟨.function, [("self", .local), ("value", .local), ("__class__", .free), ("super", .globalImplicit)], false, false, []⟩
abbrev xiArgs (q0 q1 : Pos) : Arguments := { posonlyargs := [], args := [{ arg := "self", annotation := none, pos := q0 }, { arg := "value", annotation := none, pos := q1 }], vararg := none, kwonlyargs := [], kw_defaults := [], kwarg := none, defaults := [] }
abbrev xiBody (m : Str) (p0 p1 p2 p3 p4 p5 p6 p7 p8 p9 : Pos) : List Stmt := [.Expr (.Call (.Attribute (.Call (.Name "super" p0) [] [] p1) "__init__" p2) [.Constant (.str m) 0 p3] [] p4) p5, .Assign [.Attribute (.Name "self" p6) "value" p7] (.Name "value" p8) p9]
theorem xi_S : NdefX.NScope ["self", "value", "__class__"] ["self", "value"] ["__class__"] xiScope := NdefX.nscope_by (by decide +kernel)
/-- how the call of super().__init__ begins (by rfl, once the places are known) -/
def XiCall (qual : Str) (f cc cda : Addr) (m : Str) (p0 p1 p2 p3 p4 : Pos) : Prop := ∀ L : Addr, eval (.Call (.Attribute (.Call (.Name "super" p0) [] [] p1) "__init__" p2) [.Constant (.str m) 0 p3] [] p4) (PySem.W.ksEnv qual xiScope L f (.ref cda) cc) = (do
  let ov ← attributeBase (.Call (.Name "super" p0) [] [] p1) "__init__" (PySem.W.ksEnv qual xiScope L f (.ref cda) cc) (eval (.Call (.Name "super" p0) [] [] p1) (PySem.W.ksEnv qual xiScope L f (.ref cda) cc))
  standAt p2.atName
  let (g, first) ← holding [ov] (getMethod ov "__init__" (do return (← importBound (.Call (.Name "super" p0) [] [] p1) (PySem.W.ksEnv qual xiScope L f (.ref cda) cc)).getD true))
  callWith p4 g first (backTo p4 (starEach [.Constant (.str m) 0 p3] (PySem.W.ksEnv qual xiScope L f (.ref cda) cc))) [])
theorem ok_xi {P : Program} {w : World} {K : PySem.W.Frag} {mg : Str → Option Value} {base : Heap} {CX : CXT} {k : Nat} {C f cc cda : Addr} {qual file : Str} {kV doc pm ct oc : Value} {an od : Option Addr} {osl : Array (Option Value)}
    {p0 p1 p2 p3 p4 p5 p6 p7 p8 p9 q0 q1 : Pos} {m : Str} (T : OexC K C) (XI : XIn P K C f cc cda qual file)
    (lk : K.lookup f = some ⟨oc, od, .func (PySem.W.ksFn "__init__" qual (xiArgs q0 q1) (xiBody m p0 p1 p2 p3 p4 p5 p6 p7 p8 p9) xiScope .none kV doc pm an (.ref cda) ct cc), osl⟩) (hms : mg "super" = none) (he : XiCall qual f cc cda m p0 p1 p2 p3 p4) :
    FnOk P w K mg base CX (k + 1) f (PySem.W.ksFn "__init__" qual (xiArgs q0 q1) (xiBody m p0 p1 p2 p3 p4 p5 p6 p7 p8 p9) xiScope .none kV doc pm an (.ref cda) ct cc) ["self", "value"] (spXI C) := by
  refine ⟨fun vs H Q E h => by obtain ⟨a, v, rfl, _⟩ := h; rfl, fun A outer s H args us vs Q E hr e0 hbind r hsp => ?_⟩
  obtain ⟨a, v, rfl, ha, hq⟩ := hsp
  have KX : K.In s.heap := e0.mod.kin.keeps fun b o e => (e0.bs b o e).1
  have lim : s.heap.NoLimit := e0.mod.nolimit.keeps fun b o e => (e0.bs b o e).1
  obtain ⟨cl, cld, csl, hcell⟩ := XI.cell
  obtain ⟨ccl, cdd, cvs, ccs, tf, hcode, hvs⟩ := XI.rec_
  refine PySem.ks_codeAny_call_defAt (binds := (["self", "value"] : List Str).zip us) hr.depth (KX _ _ lk) rfl lim (PySem.W.codeRec_of KX XI.code) rfl hbind xi_S.nocell (fun ⟨n, _⟩ hy => xi_S.par n (List.of_mem_zip hy).1) (fun h1 hns kp => ?_) xi_S.co xi_S.gen xi_S.kind
  have S := xi_S
  let F : NdefX.NF := ⟨"__init__", qual, xiArgs q0 q1, xiBody m p0 p1 p2 p3 p4 p5 p6 p7 p8 p9, xiScope, [("__class__", cc)], cda⟩
  have cells : NdefX.CellsAt F.cl ["__class__"] [none] s.heap H := by
    have one : ∀ y c, F.cl.lookup y = some c → y = ("__class__" : Str) ∧ c = cc := fun y c e => by
      have e' : ([("__class__", cc)] : List (Str × Addr)).lookup y = some c := e
      by_cases z : y = ("__class__" : Str)
      · subst z
        simp [List.lookup] at e'
        exact ⟨rfl, e'.symm⟩
      · have z2 : (y == ("__class__" : Str)) = false := by simpa using z
        simp [List.lookup, z2] at e'
    refine ⟨rfl, fun y c e => ?_, fun x y c e1 e2 => ?_, fun i y e => ?_⟩
    · rw [(one y c e).2]
      exact ⟨(e0.bs _ _ (e0.mod.kin _ _ hcell)).2, _, ⟨_, KX _ _ hcell, rfl⟩⟩
    · rw [(one x c e1).1, (one y c e2).1]
    · cases i with
      | zero =>
        obtain rfl : ("__class__" : Str) = y := by simpa using e
        exact ⟨cc, by simp [F, List.lookup], fun v h => by simp at h⟩
      | succ i => simp at e
  have I : Inv (NdefX.ncx CX P w K mg base ["self", "value", "__class__"] F f A outer s H E) [] (NdefX.startF ["self", "value", "__class__"] [.ref a, v] [none]) H { s with heap := h1, toks := s.toks + ((["self", "value"] : List Str).zip us).length } :=
    NdefX.inv_startN (F := F) S hr.hd e0 rfl r cells hns kp
  have K1 : K.In h1 := KX.keeps kp
  show PySem.wpAt (model P w) (A.deeper (PySem.W.ksEnv qual xiScope s.heap.objs.size f (.ref cda) cc)) (.func (xiBody m p0 p1 p2 p3 p4 p5 p6 p7 p8 p9) (PySem.W.ksEnv qual xiScope s.heap.objs.size f (.ref cda) cc)) (execs (xiBody m p0 p1 p2 p3 p4 p5 p6 p7 p8 p9) (PySem.W.ksEnv qual xiScope s.heap.objs.size f (.ref cda) cc)) _ _ _
  refine ks_wpAt_execs_cons (ks_wpAt_Expr_any (ks_wpAt_MethodCall ?_ (he _)))
  refine ks_wpAt_super_base (env := NdefX.envF F f s.heap.objs.size) rfl rfl (by decide) rfl (K1 _ _ lk) rfl rfl rfl (K1 _ _ hcode) rfl hvs XI.file XI.top ?_
  obtain ⟨nm, q, N, bs, bm, sn, sub, ab, col, dd, k0, k1, k2, k3, k5, hC, hbm⟩ := T.cls
  have hcl : PySem.W.clsIn K C = some { name := nm, bases := bs, mro := .ref C :: bm, ns := N, qualname := q, hasDict := true, slotNames := sn, subclasses := sub, abstract := ab, collection := col, hasDel := false } := by unfold PySem.W.clsIn; rw [hC] <;> rfl
  obtain ⟨mb, hb1, hb2⟩ := I.mod.blt
  obtain ⟨t1, hoe⟩ := exo_at I.hok ha
  have hself : (((["self", "value"] : List Str).zip us).reverse.lookup ("self" : Str)) = some (Value.ref a) := by
    cases r with
    | cons r1 r => cases r with
      | cons r2 r =>
        cases r
        obtain rfl := r1
        rfl
  refine PySem.W.ks_loadName_global rfl rfl (Calls.loadGlobal_builtin (I.mod.glob.keeps I.bk) hms (hb1.keeps I.bk) ((hb2 _ (by decide)).trans PyProof.Rows.Boot.«super») ⟨rfl, ?_⟩)
  refine wpAny_loadName_free rfl rfl rfl ⟨_, K1 _ _ hcell, rfl⟩ ?_
  refine wpAny_loadName_local rfl rfl hns hself ?_
  refine ks_wpAny_isType_cls (K1 _ _ hC) rfl ⟨rfl, ?_⟩
  refine ks_wpAny_call_super (K1 _ _ hC) rfl hoe rfl (fun c e => by cases e) (PySem.W.looks_mroIn K1 XI.self) (fun h2 e2 kp2 => ?_)
  have I2 := I.kept (t' := s.toks + ((["self", "value"] : List Str).zip us).length) kp2
  have K2 : K.In h2 := K1.keeps kp2
  obtain ⟨t2, hoe2⟩ := exo_at I2.hok ha
  have at2 : PySem.W.InstAt h2 a { cls := .ref C, dict := none, data := .fields #[.ref t2, .none, .none, .none, .bool false, .none] } C none := ⟨hoe2, rfl, rfl, trivial⟩
  have hsup : PySem.W.alongIn K "__init__" (((.ref C :: bm).dropWhile (· != Value.ref C)).drop 1) = some (some (.builtin "ValueError.__init__")) := by
    have z := XI.sup
    unfold PySem.W.ks_superIn at z
    rw [hcl] at z
    exact z
  refine PySem.W.kxs_getMethod PySem.W.kxs_ValueError e2 (PySem.W.looks_opaque K2 XI.opq) (l₀ := .ref C :: bm) ((PySem.W.looks_clsIn K2 hcl).andThen .now) rfl K2 hsup (at2.type.andThen (PySem.W.looks_subIn K2 XI.veb)) (PySem.W.ks_ne K2 at2 hcl) (by decide) ?_
  have I3 := I2.kept (h' := h2.push (PySem.W.kxs_mw "ValueError.__init__" a)) (t' := s.toks + ((["self", "value"] : List Str).zip us).length + 1) fun b o e => Heap.get?_push_of_some _ e
  refine PySem.W.kxs_callWith (i := "ValueError.__init__") (x := a) rfl (Calls.evalArgs_plain (Calls.spliced_cons (Calls.Constant_str (pos := p3) (k := 0) (Calls.spliced_nil ⟨Heap.get?_push_at rfl rfl, ?_⟩))))
  have I4 := I3.tok (s.toks + ((["self", "value"] : List Str).zip us).length + 1 + 1)
  obtain ⟨t4, hoe4⟩ := exo_at I4.hok ha
  refine call_vw (t0 := t4) (Heap.get?_push_of_some _ (K2 _ _ hC)) hoe4 (Heap.get?_push_at rfl rfl) (by simp [sizeLine_eq]) fun h5 t5 k5 e5 => ?_
  have J0 := I4.write (h' := h5) (t' := s.toks + ((["self", "value"] : List Str).zip us).length + 1 + 1) (x := a) (e := a) (o := exo a C none) (by rw [ha]; exact True.intro) (.inl rfl) k5 ⟨_, e5⟩ (exo_ok e5)
  have eu : upd H a (exo a C none) = H := by
    funext b
    by_cases hb : b = a
    · rw [hb, upd_same, ha]
    · rw [upd_ne hb]
  rw [eu] at J0
  show PySem.wpAt _ _ _ (execs [.Assign [.Attribute (.Name "self" p6) "value" p7] (.Name "value" p8) p9] _) _ _ _
  refine wpAt_of_wpAny ?_
  have pst : PSs (NdefX.ncx CX P w K mg base ["self", "value", "__class__"] F f A outer s H E) [.Assign [.Attribute (.Name "self" p6) "value" p7] (.Name "value" p8) p9] (tOst K "value" (tVar 0) (tVar 1)) := pss_one (ps_ost (pv 0) (pv 1) rfl)
  refine wpAny_mono (pst.run [] _ _ H { nx := fun _ H' => Q .non H', rt := Q } J0 ⟨v, rfl, .ref a, rfl, a, C, rfl, T, XI.val, .inl ⟨ha, fun dx n ne => hq dx n ne⟩⟩) (fun fl s' hs => ?_) fun e s' hs => hs
  cases fl with
  | ret u =>
    obtain ⟨v, σ', H', J, rv, q⟩ := hs
    exact ⟨v, H', J.os, J.bare, J.base, J.hok, rv, q⟩
  | next =>
    obtain ⟨σ', H', J, q⟩ := hs
    exact ⟨.non, H', J.os, J.bare, J.base, J.hok, rfl, q⟩
  | brk =>
    obtain ⟨_, _, _, q⟩ := hs
    exact False.elim q
  | cont =>
    obtain ⟨_, _, _, q⟩ := hs
    exact False.elim q
end Sq


set_option Elab.async false
set_option maxRecDepth 100000
set_option maxHeartbeats 4000000
namespace Sq
open PySem PySem.Spec PyProof.Rows L2
/-! ## an exception that has been caught and is kept -/
/-- at a: an exception of the class cls with the dict d, at rest -/
def Xo (a : Addr) (cls : Value) (d : Option Addr) : HO := .ext fun h => ∃ (oe : Obj) (vs : Array Value), h.get? a = some oe ∧ Zc cls d oe ∧ oe.data = .fields vs
theorem xo_ok {P : Program} {w : World} {H : Hp} {h : Heap} {a : Addr} {cls : Value} {d : Option Addr} {oe : Obj} {vs : Array Value} (e : h.get? a = some oe) (z : Zc cls d oe) (f : oe.data = .fields vs) : ObjOk P w H h a (Xo a cls d) :=
  ⟨⟨oe, vs, e, z, f⟩, ⟨_, e⟩, fun _ _ ⟨o2, v2, e2, z2, f2⟩ k => ⟨o2, v2, k _ e2, z2, f2⟩⟩
theorem xo_at {P : Program} {w : World} {H : Hp} {h : Heap} {a : Addr} {cls : Value} {d : Option Addr} (hok : HOk P w H h) (e : H a = some (Xo a cls d)) : ∃ (oe : Obj) (vs : Array Value), h.get? a = some oe ∧ Zc cls d oe ∧ oe.data = .fields vs := by
  have x : ObjOk P w H h a (.ext fun h => ∃ (oe : Obj) (vs : Array Value), h.get? a = some oe ∧ Zc cls d oe ∧ oe.data = .fields vs) := hok a _ e
  exact x.1
section
variable {X : Cx} {pins : List (Addr × Obj)} {σ : L2.St} {H : Hp} {s : Shared} {a : Addr} {cls : Value} {d : Option Addr} {oe : Obj} {vs : Array Value}
/-- an object that is younger than the entry and that nothing holds is kept from now on -/
theorem track (J : Inv X pins σ H s) (e : s.heap.get? a = some oe) (na : H a = none) (nL : a ≠ X.env.locals) (np : ∀ p ∈ X.pn ++ pins, p.1 ≠ a) (young : X.s_0.heap.get? a = none) (z : Zc cls d oe) (f : oe.data = .fields vs) : Inv X pins σ (upd H a (Xo a cls d)) s := by
  have old : ∀ {b : Addr} {o : Obj}, X.s_0.heap.get? b = some o → b ≠ a := fun {b o} q c => by
    rw [c, young] at q
    cases q
  have set : ∀ {b : Addr} {o : HO}, H b = some o → b ≠ a := fun {b o} q c => by
    rw [c, na] at q
    cases q
  refine ⟨J.ok, J.os, J.bare, ⟨J.base.keep, J.base.slot, fun b o q n x => ?_, J.base.there, fun b xs q => ?_, fun b o v q => ?_, fun b ps q => ?_⟩, J.loc, J.cell, ?_, fun y c q => ?_, fun p hp => ?_, fun b o q => ?_, J.len⟩
  · rw [upd_ne (old q)]
    exact J.base.free b o q n x
  · have z := J.base.tups b xs q
    rw [upd_ne (set z)]
    exact z
  · have z := J.base.frzs b o v q
    rw [upd_ne (set z)]
    exact z
  · obtain ⟨more, z⟩ := J.base.tbls b ps q
    exact ⟨more, by rw [upd_ne (set z)]; exact z⟩
  · rw [upd_ne (Ne.symm nL)]
    exact J.free
  · have nc : c ≠ a := fun h => by
      obtain ⟨w, o, e2, d2⟩ := J.cell y c q
      rw [h, e] at e2
      cases e2
      rw [f] at d2
      cases d2
    rw [upd_ne nc]
    exact J.freeC y c q
  · obtain ⟨e1, n1, r1⟩ := J.pin p hp
    exact ⟨e1, by rw [upd_ne (np p hp)]; exact n1, r1⟩
  · by_cases hb : b = a
    · subst hb
      rw [upd_same] at q
      cases q
      exact xo_ok e z f
    · rw [upd_ne hb] at q
      have own : ∀ c, H c = some (.own b) → c ≠ a := fun c hc h => by
        rw [h, na] at hc
        cases hc
      exact (J.hok b o q).stay (fun c v _ k => k) (fun c hc => by rw [upd_ne (own c hc)]; exact hc) fun c xs hc => by rw [upd_ne fun h => by rw [h, na] at hc; cases hc]; exact hc
end

/-- what is wished behind the suite of 'except x as n' -/
def keepD (D : Ends) (i : Nat) : Ends where
  nx := fun τ G => D.nx (τ.set i none) G
  rt := D.rt
  bk := fun τ G => D.bk (τ.set i none) G
  ct := fun τ G => D.ct (τ.set i none) G
def wKeep (K : PySem.W.Frag) (c : Value) (i : Nat) (ts : Addr → Value → Option Addr → TS) (Wout : WX) (D : Ends) : WX := fun cls d σ H => ∃ b, PySem.W.exmOne K cls c = some b ∧
  (b = true → ∀ a, H a = none → ts a cls d (keepD D i) (σ.set i (some (.ref a))) (upd H a (Xo a cls d))) ∧ (b = false → Wout cls d σ H)
/-- into the suite and out of it -/
theorem suite_in {X : Cx} {pins : List (Addr × Obj)} {σ : L2.St} {H : Hp} {s : Shared} {a : Addr} (I : Inv X pins σ H s) : Inv (X.suite a (X.pn ++ pins)) [] σ H s :=
  ⟨I.ok.suite _ _, I.os, I.bare, I.base, I.loc, I.cell, I.free, I.freeC, fun p hp => I.pin p (by rw [List.append_nil] at hp; exact hp), I.hok, I.len⟩
theorem suite_out {X : Cx} {pins : List (Addr × Obj)} {σ : L2.St} {H : Hp} {s : Shared} {a : Addr} (I : Inv (X.suite a (X.pn ++ pins)) [] σ H s) (ok : X.Ok) : Inv X pins σ H s :=
  ⟨ok, I.os, I.bare, I.base, I.loc, I.cell, I.free, I.freeC, fun p hp => I.pin p (by rw [List.append_nil]; exact hp), I.hok, I.len⟩
section
variable {X : Cx} {x n : Str} {c : Value} {i : Nat} {body rest : List Stmt} {st : Stmt} {np pos pos2 : Pos} {tb : WX → TS} {ts : Addr → Value → Option Addr → TS} {Wout : WX}
/-- as ps_try_as; the exception stays behind the suite -/
theorem ps_try_keep (hs : X.stack = X.env :: X.outer) (hf : X.env.frame = some X.env.locals) (hN : X.N.Nodup) (hi : X.N[i]? = some n) (hln : X.env.kindOf n = some .local) (hex : X.ex = []) (hc : Names X x c) (tk : Takes X Wout)
    (hb : ∀ (W : WX) (pn : List (Addr × Obj)) (xe : Value → Shared → Prop), Takes (X.tr pn xe) W → PassesOwn (model X.prog X.w) X.A X.env xe → PSs (X.tr pn xe) body (tb W))
    (hsu : ∀ (a : Addr) (cls : Value) (d : Option Addr) (pn : List (Addr × Obj)), PSs (X.suite a pn) (st :: rest) (ts a cls d)) :
    PS X (.Try body [.ExceptHandler (some (.Name x np)) (some n) (st :: rest) pos2] [] [] pos) (fun D σ H => tb (wKeep X.K c i ts Wout D) D σ H) := by
  refine ⟨fun pins s σ H D I h => wpAny_Try_except ?_⟩
  have ok := I.ok
  have hfr : X.A.frames = some (X.env :: X.outer) := by rw [ok.frames, hs]
  have hlc : Loc X.env.scope n := .inl hln
  have seen : ∀ {C : Heap} {h : Heap} {q : Addr} {o : Obj} {vs : Array Value}, h.FunFrames C (X.env :: X.outer) → h.get? q = some o → o.data = .fields vs → q ∉ frs (X.env :: X.outer) := fun {C h q o vs} ff e dd hm => by
    obtain ⟨_, o2, e2, nn⟩ := ff.mem hm
    rw [e] at e2
    cases e2
    exact nn _ dd
  refine wpAny_mono ((hb (wKeep X.K c i ts Wout D) (X.pn ++ pins) _ (fun u s2 air => ?_) PassesOwn.looking).run [] s σ H D (I.toTry _) h) (fun fl s2 q => ?_) fun _ _ z => z
  · obtain ⟨a, G, sI, pins2, τ, H2, cls, d, rfl, J2, nb, up, sky, na, os, ag, b, hb1, yes, no⟩ := air
    have J : Inv X pins τ H2 sI := J2.ofTry ok
    rw [hs] at sky
    refine Sky.land Zc.steady hfr hf sky fun h3 l3 up3 => ?_
    have J3 : Inv X pins τ H2 { s2 with heap := h3 } := J.landed nb l3.1 (up.trans up3) os ag
    obtain ⟨o3, v3, e3, z3, d3⟩ := l3.there
    have out := seen l3.2.2.1 e3 d3
    have nL : a ≠ X.env.locals := fun z => out (List.mem_filterMap.mpr ⟨X.env, List.mem_cons_self, by rw [hf, z]⟩)
    have nF : a ∉ X.fs := fun hm => by
      obtain ⟨e, he, q⟩ := List.mem_filterMap.mp hm
      exact out (List.mem_filterMap.mpr ⟨e, List.mem_cons_of_mem _ he, q⟩)
    have young : sI.heap.get? a = none := by
      cases q : sI.heap.get? a with
      | none => rfl
      | some o =>
        have z := nb a o q (by rw [hs]; exact out)
        rw [l3.2.1] at z
        cases z
    have young0 : X.s_0.heap.get? a = none := by
      cases q : X.s_0.heap.get? a with
      | none => rfl
      | some o =>
        obtain ⟨o2, z⟩ := J.base.there a o q (by rw [hex]; simp)
        rw [young] at z
        cases z
    have off : ∀ p ∈ X.pn ++ pins, p.1 ≠ a := fun p hp z => by
      have y := (J.pin p hp).1
      rw [z, young] at y
      cases y
    have S3 := J3.suite e3 d3 na nL nF
    have LT : PySem.W.Looks (model X.prog X.w) h3 (typeOf (.ref a)) cls := fun _ _ _ s k q => wpAny_typeOf_ref (k _ _ e3) (by rw [z3.1]; exact q)
    have LM := PySem.W.exm_one (M := model X.prog X.w) J3.kIn LT hb1
    have ask : ∀ {Q2 : Value → Shared → Prop} {E2 : Value → Shared → Prop}, Q2 c { s2 with heap := h3 } → wpAny (model X.prog X.w) (X.A.mark (some (.ref a))) (eval (.Name x np) X.env) Q2 E2 { s2 with heap := h3 } := fun {Q2 E2} q => by
      obtain ⟨hg, hdb, hm | ⟨hm, hv, hnn⟩⟩ := hc
      · exact ld_glob (X := X.suite a ((a, o3) :: (X.pn ++ pins))) S3 hg hm q hdb
      · exact ld_blt (X := X.suite a ((a, o3) :: (X.pn ++ pins))) S3 hg hm hv q hnn hdb
    refine wpAny_handleBy_cons (codeAny_handlers_test (ask (LM.here ?_))) (by intro q; cases q)
    cases b with
    | true =>
      refine codeAny_handlers_suite_as (HandSPX.lands_againZ l3 fun h4 l4 up4 => ?_)
      have J4 : Inv X pins τ H2 { s2 with heap := h4 } := J.landed nb l4.1 ((up.trans up3).trans up4) os ag
      obtain ⟨o4, v4, e4, z4, d4⟩ := l4.there
      have S4 : Inv (X.suite a (X.pn ++ pins)) [] τ (upd H2 a (Xo a cls d)) { s2 with heap := h4 } := suite_in (track J4 e4 na nL off young0 z4 d4)
      refine store_ok (X := X.suite a (X.pn ++ pins)) (v := .ref a) S4 hN hi hlc rfl (fun s5 S5 => ?_) (.inr hln)
      refine wpAny_mono ((hsu a cls d (X.pn ++ pins)).run [] s5 _ _ _ S5 (yes rfl a na)) (fun fl s6 hsp => ?_) fun _ _ z => z.elim
      have fin : ∀ {σ6 : L2.St} {H6 : Hp} {Q2 : Shared → Prop}, Inv (X.suite a (X.pn ++ pins)) [] σ6 H6 s6 → (∀ s7, Inv X pins (σ6.set i none) H6 s7 → Q2 s7) →
          wpAny (model X.prog X.w) X.A (do bindName X.env n .none; unbindBehindTheSuite X.env n pos2) (fun _ s7 => Q2 s7) X.xe s6 := fun {σ6 H6 Q2} S6 hq =>
        gone_ok (X := X.suite a (X.pn ++ pins)) S6 hN hi hln fun s7 S7 => hq s7 (suite_out S7 ok)
      cases fl with
      | next =>
        obtain ⟨σ6, H6, S6, q6⟩ := hsp
        exact fin S6 fun s7 J7 => ⟨_, _, J7, q6⟩
      | brk =>
        obtain ⟨σ6, H6, S6, q6⟩ := hsp
        exact fin S6 fun s7 J7 => ⟨_, _, J7, q6⟩
      | cont =>
        obtain ⟨σ6, H6, S6, q6⟩ := hsp
        exact fin S6 fun s7 J7 => ⟨_, _, J7, q6⟩
      | ret u =>
        obtain ⟨v6, σ6, H6, S6, r6, q6⟩ := hsp
        exact fin S6 fun s7 J7 => ⟨_, _, _, J7, r6, q6⟩
    | false =>
      refine wpAny_handleBy_nil ?_
      obtain ⟨_, _, _, oe, vs, T, _, _, he, _, hd, h1, _⟩ := id l3
      unfold PySem.passOn
      refine wpAny_bind (wpAny_field he hd h1 ?_)
      rw [if_neg (show ¬ ((Value.ref T == Value.none) = true) from by simp)]
      have go : wpAny (model X.prog X.w) X.A (setFlight (.ref a) X.env.frame) (fun _ s4 => wpAny (model X.prog X.w) X.A (throw (.ref a) : Sem Flow) (SP X pins D) X.xe s4) X.xe { s2 with heap := h3 } := by
        rw [hf]
        exact HandSPX.setFlight_upZ l3 fun h4 g4 up4 => wpAny_throw (tk _ _ ⟨a, G, sI, pins, τ, H2, cls, d, rfl, J, nb, (up.trans up3).trans up4, .inr (.inr (by rw [hs]; exact g4)), na, os, ag, no rfl⟩)
      first
        | exact wpAny_bind (wpAny_pure (wpAny_bind go))
        | exact wpAny_bind go
  · cases fl with
    | next =>
      obtain ⟨τ, H2, J, q⟩ := q
      exact wpAny_execs_nil ⟨τ, H2, J.ofTry ok, q⟩
    | brk =>
      obtain ⟨τ, H2, J, q⟩ := q
      exact ⟨τ, H2, J.ofTry ok, q⟩
    | cont =>
      obtain ⟨τ, H2, J, q⟩ := q
      exact ⟨τ, H2, J.ofTry ok, q⟩
    | ret u =>
      obtain ⟨v, τ, H2, J, r, q⟩ := q
      exact ⟨v, τ, H2, J.ofTry ok, r, q⟩
end

/-! ## a kept exception looked at -/
/-- at a: a kept exception of the own class C with the attributes fs -/
def Kept (H : Hp) (a C : Addr) (fs : List (Str × V)) : Prop := ∃ d, (H a = some (Xo a (.ref C) (some d)) ∧ H d = some (.xd fs)) ∨ (H a = some (exo a C (some d)) ∧ H d = some (exd d fs))
theorem kept_at {X : Cx} {pins : List (Addr × Obj)} {σ : L2.St} {H : Hp} {s : Shared} {a C : Addr} {fs : List (Str × V)} (I : Inv X pins σ H s) (k : Kept H a C fs) :
    ∃ (oe od : Obj) (d : Addr) (mA : Str → Option Value), PySem.W.InstAt s.heap a oe C (some od) ∧ s.heap.get? d = some od ∧ s.heap.Ns1 d mA ∧ ∀ f, RelO (fs.lookup f) (mA f) := by
  obtain ⟨d, ⟨h1, h2⟩ | ⟨h1, h2⟩⟩ := k
  · obtain ⟨oe, vs, e, z, f⟩ := xo_at I.hok h1
    have hx : ObjOk X.prog X.w H s.heap d (.xd fs) := I.hok d _ h2
    obtain ⟨mA, hns, hr⟩ := hx
    obtain ⟨od, ho, _⟩ := lookIn_ns hns
    exact ⟨oe, od, d, mA, ⟨e, z.1, by unfold PySem.W.notCls; rw [f] <;> rfl, by rw [z.2]; exact ho⟩, ho, hns, hr⟩
  · obtain ⟨t1, e⟩ := exo_at I.hok h1
    obtain ⟨mA, hns, hr⟩ := exd_at I.hok h2
    obtain ⟨od, ho, _⟩ := lookIn_ns hns
    exact ⟨_, od, d, mA, ⟨e, rfl, rfl, ho⟩, ho, hns, hr⟩
def rIsX (K : PySem.W.Frag) : List V → Hp → VK → Prop := fun xs H Q => ∃ (a C : Addr) (fs : List (Str × V)) (c : V) (cv : Value) (b : Bool), xs = [.ref a, c] ∧ Kept H a C fs ∧ ExcC K C ∧ ClsV c cv ∧ PySem.W.kitOne K (.ref C) cv = some b ∧ Q (.bl b) H
theorem call_isX {X : Cx} {K : PySem.W.Frag} (h : X.K = K := by rfl) : CallR X (.builtin "isinstance") (rIsX K) := by
  subst h
  intro pins s σ H xs us Q I r h
  obtain ⟨a, C, fs, c, cv, b, rfl, k, EC, hc, e, q⟩ := h
  obtain ⟨oe, od, d, mA, J, _⟩ := kept_at I k
  cases r with
  | @cons _ u0 _ ur rx rr =>
    cases rr with
    | @cons _ u1 _ _ rt rr =>
      cases rr
      cases rx
      have ec : u1 = cv := by
        cases hc <;> exact rt
      subst ec
      obtain ⟨cd, hcd, _⟩ := PySem.W.any_some EC.hd
      exact PySem.W.kia_one (PySem.W.kitx_exc (by rw [hcd]; rfl) EC.hg EC.hk EC.hs EC.ha EC.hn EC.ht EC.hm) I.kIn J e (fun z => nomatch z) fun tk => ⟨.bl b, H, I.kept (t' := tk) fun _ _ z => z, rfl, q⟩
def tXv (K : PySem.W.Frag) (te : TE) (f : Str) : TE := fun σ H Q => te σ H fun x H1 => ∃ (a C : Addr) (fs : List (Str × V)) (v : V), x = .ref a ∧ Kept H1 a C fs ∧ XfC K C ∧ PySem.W.findIn K (.ref C) f = some none ∧ fs.lookup f = some v ∧ Q v H1
theorem pe_xv {X : Cx} {K : PySem.W.Frag} {e : Expr} {te : TE} {f : Str} {pos : Pos} (he : PE X e te) (hb : attributeBase e f X.env (eval e X.env) = eval e X.env := by rfl) (h : X.K = K := by rfl) : PE X (.Attribute e f pos) (tXv K te f) := by
  subst h
  refine ⟨fun pins s σ H Q I h => attr_of hb (thn (he.run pins s σ H _ I h) fun u s1 hh => ?_)⟩
  obtain ⟨x, H1, I1, rx, a, C, fs, v, rfl, k, T, hno, l, q⟩ := hh
  obtain rfl : u = Value.ref a := rx
  obtain ⟨oe, od, d, mA, J, ho, hns, hr⟩ := kept_at I1 k
  obtain ⟨od2, ho2, hl⟩ := lookIn_ns hns
  rw [ho] at ho2
  cases ho2
  obtain ⟨u, hu, ru⟩ := RelO.some_of (v := v) (o := mA f) (by rw [← l]; exact hr f)
  exact HandSPX.exc_get I1.kIn J T.ga T.gg T.exC (PySem.W.findObj_own T.hdC hno rfl (by rw [hl, hu])) (handed_of ru) ⟨v, H1, I1.tok _, ru, q⟩
end Sq


set_option Elab.async false
set_option maxRecDepth 100000
set_option maxHeartbeats 4000000
namespace Sq
open PySem PySem.Spec PyProof.Rows L2
/-! ## raise C(e), C an own class with the __init__ of MExc -/
structure Rai (P : Program) (w : World) (K : PySem.W.Frag) (mg : Str → Option Value) (base : Heap) (k : Nat) (x : Str) (C : Addr) : Prop where
  ex : ∃ (f : Addr) (fd : FuncData), OexC K C ∧ PySem.W.findIn K (.ref C) "__init__" = some (some (.ref f)) ∧ PySem.W.typeIn K (.ref f) = some (.type "function") ∧ FnOk P w K mg base CX0 k f fd ["self", "value"] (spXI C) ∧ mg x = some (.ref C) ∧ L2.Binds K fd ["self", "value"] []
def tRx (W : WX) (C : Addr) (te : TE) : TS := fun _ σ H => te σ H fun v H1 => ∀ d, H1 d = none → W (.ref C) (some d) σ (upd H1 d (.xd [("value", v)]))
theorem heap_rx {H : Hp} {a d : Addr} {u z o : HO} (na : H a = none) (n : d ≠ a) : upd (del (upd (upd (upd H a u) d z) a o) a) d (.xd [("value", v)]) = upd H d (.xd [("value", v)]) := by
  funext b
  by_cases h1 : b = d
  · rw [h1, upd_same, upd_same]
  · rw [upd_ne h1, upd_ne h1]
    by_cases h2 : b = a
    · rw [h2, del_same, na]
    · rw [del_ne h2, upd_ne h2, upd_ne h1, upd_ne h2]
/-- a reading that may be weakened -/
def tWk (te : TE) : TE := fun σ H Q => ∃ R : VK, te σ H R ∧ ∀ v G, R v G → Q v G
theorem pe_wk {X : Cx} {e : Expr} {te : TE} (h : PE X e te) : PE X e (tWk te) := ⟨fun pins s σ H Q I ⟨R, q, k⟩ => wpAny_mono (h.run pins s σ H R I q) (fun u s1 ⟨x, G, J, r, z⟩ => ⟨x, G, J, r, k _ _ z⟩) fun _ _ z => z⟩
section
variable {X : Cx} {W : WX} {k j : Nat} {C : Addr} {x : Str} {p pos pos2 : Pos} {e : Expr} {te : TE}
theorem ps_rx (c : Rai X.prog X.w X.K X.mg X.base k x C) (hr : Room j X.A) (hk : k + 1 ≤ j) (hg : Gl X x) (tk : Takes X W) (ha : PE X e te) (hc : X.calm = true := by rfl)
    (hdb : (x == ("__debug__" : Str)) = false := by decide) (he : starEach [e] X.env = (false, eval e X.env) :: starEach [] X.env := by rfl) (hpl : (backTo pos (starEach [] X.env)).any (·.1) = false := by rfl) : PS X (.Raise (some (.Call (.Name x p) [e] [] pos)) none pos2) (tRx W C te) := by
  obtain ⟨f, fd, T, iC, tI, F, hm, b⟩ := c.ex
  have mk := pmk_oex (pos := pos) (p := p) T iC tI F (hr.mono hk) b .nil pass0 hg hm (pa_cons (pe_wk ha) pa_nil he) hdb he hpl
  have r := ps_raise (pos := pos2) hc tk mk
  refine ⟨fun pins s σ H D I h => r.run pins s σ H D I ⟨_, h, fun v G q => ⟨Nat.le_of_ble_eq_true rfl, fun a na => ⟨a, v, rfl, upd_same, fun dx nd ne => ?_⟩⟩⟩⟩
  have nd' : G dx = none := by
    rw [upd_ne ne] at nd
    exact nd
  refine ⟨rfl, dx, _, upd_same, by rw [upd_ne ne, upd_same], nd', ?_⟩
  rw [heap_rx na ne]
  exact q dx nd'
end

/-! ## defs that may raise -/
structure CalX (P : Program) (w : World) (K : PySem.W.Frag) (mg : Str → Option Value) (base : Heap) (k : Nat) (x : Str) (sp : Sp) : Prop where
  ex : ∃ (f : Addr) (fd : FuncData) (ps : List Str), FnOk P w K mg base (L2.CX P w) k f fd ps sp ∧ mg x = some (.ref f) ∧ PySem.W.keepIn K (.ref f) = true ∧ L2.Binds K fd ps []
section
variable {P : Program} {w : World} {K : PySem.W.Frag} {mg : Str → Option Value} {base : Heap}
theorem DefAt.calX {x : Str} {st : Stmt} {ps N : List Str} {k : Nat} {sp : Sp} (D : DefAt K mg x st ps) (S : FnScope N ps (defScope st)) (len : ∀ vs H Q E, sp vs H Q E → vs.length = ps.length)
    (hb : ∀ (f : Addr) (cdv : Value) (A : Around) (outer : List Env) (s : Shared) (H : Hp) (vs : List V) (Q : VK) (E : XK), Room k (A.deeper (envOfC x (defScope st) s.heap.objs.size f cdv)) → sp vs H Q E →
      (Takes (cxOf (L2.CX P w) P w K mg base N x (defScope st) f cdv A outer s H E) fun cls d _ G => E cls d G) →
      ∃ t, PSs (cxOf (L2.CX P w) P w K mg base N x (defScope st) f cdv A outer s H E) (defBody st) t ∧ t { nx := fun _ H' => Q .non H', rt := Q } (start N vs) H) : CalX P w K mg base (k + 1) x sp := by
  obtain ⟨f, fd, F, hm, b⟩ := D.ex
  exact ⟨f, fd, ps, F.okX S len fun cdv A outer s H vs Q E hr hsp => hb f cdv A outer s H vs Q E hr hsp (takes_of rfl rfl rfl rfl), hm, F.kp, b⟩
/-- where it raises nothing it is a plain def -/
theorem fn_calm {k : Nat} {f : Addr} {fd : FuncData} {ps : List Str} {sp sp' : Sp} (F : FnOk P w K mg base (L2.CX P w) k f fd ps sp) (h : ∀ vs H Q E, sp' vs H Q E → sp vs H Q E0) : FnOk P w K mg base CX0 k f fd ps sp' := by
  refine ⟨fun vs H Q E q => F.len _ _ _ _ (h _ _ _ _ q), fun A outer s H args us vs Q E hr e0 b r q => codeAny_mono (F.run A outer s H args us vs Q E0 hr e0 b r (h _ _ _ _ q)) fun res s' z => ?_⟩
  cases res with
  | ok fl => cases fl <;> exact z
  | error e =>
    obtain ⟨_, _, _, _, _, _, _, _, _, _, _, _, no⟩ := z
    exact no.elim
theorem CalX.calm {x : Str} {k : Nat} {sp sp' : Sp} (c : CalX P w K mg base k x sp) (h : ∀ vs H Q E, sp' vs H Q E → sp vs H Q E0) : Cal P w K mg base k x sp' [] := by
  obtain ⟨f, fd, ps, F, hm, kp, b⟩ := c.ex
  exact ⟨f, fd, ps, [], fn_calm F h, hm, kp, b, .nil⟩
theorem CalX.imp {x : Str} {k j : Nat} {sp sp' : Sp} (c : CalX P w K mg base k x sp) (hk : k ≤ j) (h : ∀ vs H Q E, sp' vs H Q E → sp vs H Q E) : CalX P w K mg base j x sp' := by
  obtain ⟨f, fd, ps, F, hm, kp, b⟩ := c.ex
  exact ⟨f, fd, ps, (F.mono hk).imp h, hm, kp, b⟩
end
section
variable {X : Cx} {W : WX} {k j : Nat} {x : Str} {sp : Sp} {p pos : Pos} {e : Expr} {es : List Expr} {t : TA}
/-- a call that may raise, where W is wished of what is raised -/
theorem pe_cx (c : CalX X.prog X.w X.K X.mg X.base k x sp) (hr : Room j X.A) (hk : k ≤ j) (tk : Takes X W) (hg : Gl X x) (ha : PA X (e :: es) t)
    (hdb : (x == ("__debug__" : Str)) = false := by decide) (he : starEach (e :: es) X.env = (false, eval e X.env) :: starEach es X.env := by rfl) (hpl : (backTo pos (starEach es X.env)).any (·.1) = false := by rfl) :
    PE X (.Call (.Name x p) (e :: es) [] pos) (tCallS sp (WE W) t) := by
  obtain ⟨f, fd, ps, F, hm, kp, b⟩ := c.ex
  exact pe_callS F (hr.mono hk) hg hm kp b (passAt tk) ha hdb he hpl
/-- a call of such a def that raises nothing -/
theorem pe_cx0 (c : CalX X.prog X.w X.K X.mg X.base k x sp) (hr : Room j X.A) (hk : k ≤ j) (hg : Gl X x) (ha : PA X (e :: es) t)
    (hdb : (x == ("__debug__" : Str)) = false := by decide) (he : starEach (e :: es) X.env = (false, eval e X.env) :: starEach es X.env := by rfl) (hpl : (backTo pos (starEach es X.env)).any (·.1) = false := by rfl) :
    PE X (.Call (.Name x p) (e :: es) [] pos) (tCall sp [] E0 t) := by
  obtain ⟨f, fd, ps, F, hm, kp, b⟩ := c.ex
  exact L2.pe_call F (hr.mono hk) hg hm kp b .nil passL ha hdb he hpl
end

/-! ## methods and new objects that may raise -/
structure MetX (P : Program) (w : World) (K : PySem.W.Frag) (mg : Str → Option Value) (base : Heap) (k : Nat) (C : Addr) (m : Str) (sp : Sp) : Prop where
  ex : ∃ (f : Addr) (fd : FuncData) (ps : List Str), Cls K C ∧ Meth K C m f ∧ FnOk P w K mg base (L2.CX P w) k f fd ps sp ∧ L2.Binds K fd ps []
structure MakX (P : Program) (w : World) (K : PySem.W.Frag) (mg : Str → Option Value) (base : Heap) (k : Nat) (x : Str) (C : Addr) (sp : Sp) : Prop where
  ex : ∃ (f : Addr) (fd : FuncData) (ps : List Str), Mk K C f ∧ FnOk P w K mg base (L2.CX P w) k f fd ps sp ∧ mg x = some (.ref C) ∧ L2.Binds K fd ps []
section
variable {P : Program} {w : World} {K : PySem.W.Frag} {mg : Str → Option Value} {base : Heap} {C : Addr} {m x qual : Str} {st : Stmt} {ps N : List Str} {k : Nat} {sp : Sp}
theorem MetAt.metX (D : MetAt K C m qual st ps) (cl : Cls K C) (S : FnScope N ps (defScope st)) (len : ∀ vs H Q E, sp vs H Q E → vs.length = ps.length)
    (hb : ∀ (f : Addr) (cdv : Value) (A : Around) (outer : List Env) (s : Shared) (H : Hp) (vs : List V) (Q : VK) (E : XK), Room k (A.deeper (envOfC qual (defScope st) s.heap.objs.size f cdv)) → sp vs H Q E →
      (Takes (cxOf (L2.CX P w) P w K mg base N qual (defScope st) f cdv A outer s H E) fun cls d _ G => E cls d G) →
      ∃ t, PSs (cxOf (L2.CX P w) P w K mg base N qual (defScope st) f cdv A outer s H E) (defBody st) t ∧ t { nx := fun _ H' => Q .non H', rt := Q } (start N vs) H) : MetX P w K mg base (k + 1) C m sp := by
  obtain ⟨f, fd, F, hm, b⟩ := D.ex
  exact ⟨f, fd, ps, cl, hm, F.okX S len fun cdv A outer s H vs Q E hr hsp => hb f cdv A outer s H vs Q E hr hsp (takes_of rfl rfl rfl rfl), b⟩
theorem IniAt.makX (D : IniAt K mg C x qual st ps) (S : FnScope N ps (defScope st)) (len : ∀ vs H Q E, sp vs H Q E → vs.length = ps.length)
    (hb : ∀ (f : Addr) (cdv : Value) (A : Around) (outer : List Env) (s : Shared) (H : Hp) (vs : List V) (Q : VK) (E : XK), Room k (A.deeper (envOfC qual (defScope st) s.heap.objs.size f cdv)) → sp vs H Q E →
      (Takes (cxOf (L2.CX P w) P w K mg base N qual (defScope st) f cdv A outer s H E) fun cls d _ G => E cls d G) →
      ∃ t, PSs (cxOf (L2.CX P w) P w K mg base N qual (defScope st) f cdv A outer s H E) (defBody st) t ∧ t { nx := fun _ H' => Q .non H', rt := Q } (start N vs) H) : MakX P w K mg base (k + 1) x C sp := by
  obtain ⟨f, fd, F, hm, hg, b⟩ := D.ex
  exact ⟨f, fd, ps, hm, F.okX S len fun cdv A outer s H vs Q E hr hsp => hb f cdv A outer s H vs Q E hr hsp (takes_of rfl rfl rfl rfl), hg, b⟩
end
theorem MetX.calm {P : Program} {w : World} {K : PySem.W.Frag} {mg : Str → Option Value} {base : Heap} {C : Addr} {m : Str} {k : Nat} {sp sp' : Sp} (c : MetX P w K mg base k C m sp) (h : ∀ vs H Q E, sp' vs H Q E → sp vs H Q E0) : Met P w K mg base k C m sp' := by
  obtain ⟨f, fd, ps, c1, c2, F, b⟩ := c.ex
  exact ⟨f, fd, ps, c1, c2, fn_calm F h, b⟩
theorem MakX.calm {P : Program} {w : World} {K : PySem.W.Frag} {mg : Str → Option Value} {base : Heap} {C : Addr} {x : Str} {k : Nat} {sp sp' : Sp} (c : MakX P w K mg base k x C sp) (h : ∀ vs H Q E, sp' vs H Q E → sp vs H Q E0) : Mak P w K mg base k x C sp' := by
  obtain ⟨f, fd, ps, M, F, hm, b⟩ := c.ex
  exact ⟨f, fd, ps, M, fn_calm F h, hm, b⟩
def tMethS (C : Addr) (m : Str) (sp : Sp) (E : L2.St → XK) (ta : TE) (t : TA) : TE := fun σ H Q => ta σ H fun x H1 => ∃ a dx fs, x = .ref a ∧ H1 a = some (.ins C dx fs) ∧ fs.lookup m = none ∧ t σ H1 fun vs H2 => sp (x :: vs) H2 Q (E σ)
def tMakeS (C : Addr) (sp : Sp) (E : L2.St → XK) (t : TA) : TE := fun σ H Q => t σ H fun vs H1 => ∀ x dx, H1 x = none → H1 dx = none → dx ≠ x →
  sp (.ref x :: vs) (upd (upd H1 dx (.own x)) x (.ins C dx [])) (fun v H2 => v = .non ∧ Q (.ref x) H2) (E σ)
section
variable {X : Cx} {W : WX} {k j : Nat} {C : Addr} {x m : Str} {sp : Sp} {p pos apos : Pos} {e o : Expr} {es : List Expr} {ta : TE} {t : TA}
theorem pe_mx {pl : Sem Bool} (c : MetX X.prog X.w X.K X.mg X.base k C m sp) (hr : Room j X.A) (hk : k ≤ j) (tk : Takes X W) (he : PE X o ta) (ha : PA X (e :: es) t)
    (ht : eval (.Call (.Attribute o m apos) (e :: es) [] pos) X.env = (do
      let ov ← eval o X.env
      standAt apos.atName
      let (f, first) ← holding [ov] (getMethod ov m pl)
      callWith pos f first (backTo pos (starEach (e :: es) X.env)) (backToKw pos (keywordEach [] X.env))) := by rfl)
    (hst : starEach (e :: es) X.env = (false, eval e X.env) :: starEach es X.env := by rfl) (hpl : (backTo pos (starEach es X.env)).any (·.1) = false := by rfl) : PE X (.Call (.Attribute o m apos) (e :: es) [] pos) (tMethS C m sp (WE W) ta t) := by
  obtain ⟨f, fd, ps, cl, hm, F, b⟩ := c.ex
  refine ⟨fun pins s σ H Q I h => PySem.W.methodCall_KW (pl := pl) (thn (he.run pins s σ H _ I h) fun u s1 hh => ?_) ht⟩
  obtain ⟨x, H1, I1, rx, a, dx, fs, rfl, ea, l, q⟩ := hh
  obtain rfl : u = Value.ref a := rx
  refine getmeth_ok I1 ea cl hm l (PySem.W.callWith_K (first := [.ref a]) (h₀ := X.base) I.ok.mod.kin hm.kp (thn (ha.run pos pins s1 σ H1 _ I1 q) fun us s2 hh => ?_) hst hpl)
  obtain ⟨vs, H2, I2, r, q2⟩ := hh
  exact ⟨I2.kIn, run_fnS (us := .ref a :: us) (vs := .ref a :: vs) F (hr.mono hk) b (passAt tk σ) I2 (.cons rfl r) q2⟩
theorem pe_mkx (c : MakX X.prog X.w X.K X.mg X.base k x C sp) (hr : Room j X.A) (hk : k + 1 ≤ j) (tk : Takes X W) (hg : Gl X x) (ha : PA X (e :: es) t)
    (hdb : (x == ("__debug__" : Str)) = false := by decide) (he : starEach (e :: es) X.env = (false, eval e X.env) :: starEach es X.env := by rfl) (hpl : (backTo pos (starEach es X.env)).any (·.1) = false := by rfl) :
    PE X (.Call (.Name x p) (e :: es) [] pos) (tMakeS C sp (WE W) t) := by
  obtain ⟨f, fd, ps, M, F, hm, b⟩ := c.ex
  refine ⟨fun pins s σ H Q I h => wpAny_Call_Name_kw (ld_glob I hg hm ?_ hdb)⟩
  refine PySem.W.callWith_K (h₀ := X.base) I.ok.mod.kin M.kp (thn (ha.run pos pins s σ H _ I h) fun us s1 hh => ?_) he hpl
  obtain ⟨vs, H1, I1, r, q⟩ := hh
  refine ⟨I1.kIn, ?_⟩
  have hq := q (s1.heap.objs.size + 1) s1.heap.objs.size (I1.hok.fresh (Nat.le_succ _)) (I1.hok.fresh (Nat.le_refl _)) (Nat.ne_of_lt (Nat.lt_succ_self _))
  have I2 := Inv.made (C := C) I1
  have r2 : Vals (V.ref (s1.heap.objs.size + 1) :: vs) (Value.ref (s1.heap.objs.size + 1) :: us) := .cons rfl r
  have ln : (Value.ref (s1.heap.objs.size + 1) :: us).length = ps.length := by
    rw [← r2.length]
    exact F.len _ _ _ _ hq
  have bb := b _ (Value.ref (s1.heap.objs.size + 1) :: us) I2.kIn (by rw [List.append_nil]; exact ln)
  rw [List.append_nil] at bb
  show wpAny _ _ (call (.ref C) us) _ _ _
  refine wpAny_call (make_map (f := f) I1.kIn M.makes M.init (beq_iff_eq.mp M.fn) (codeAny_mono (F.run _ X.stack _ _ ⟨Value.ref (s1.heap.objs.size + 1) :: us, []⟩ _ _ _ (WE W σ) ((hr.mono hk).make C us []) (I2.env0.make C us []) bb r2 hq) fun r s' hq2 => ?_))
  cases r with
  | error er => exact passAt tk σ pins _ _ er s' I2 hq2
  | ok fl =>
    cases fl with
    | ret u =>
      obtain ⟨v, H', I3, rv, ev, q3⟩ := I2.after hq2
      subst ev
      exact ⟨rv, ⟨V.ref (s1.heap.objs.size + 1), H', I3, rfl, q3⟩⟩
    | next => exact False.elim hq2
    | brk => exact False.elim hq2
    | cont => exact False.elim hq2
theorem pe_mx0 {pl : Sem Bool} (c : MetX X.prog X.w X.K X.mg X.base k C m sp) (hr : Room j X.A) (hk : k ≤ j) (he : PE X o ta) (ha : PA X (e :: es) t)
    (ht : eval (.Call (.Attribute o m apos) (e :: es) [] pos) X.env = (do
      let ov ← eval o X.env
      standAt apos.atName
      let (f, first) ← holding [ov] (getMethod ov m pl)
      callWith pos f first (backTo pos (starEach (e :: es) X.env)) (backToKw pos (keywordEach [] X.env))) := by rfl)
    (hst : starEach (e :: es) X.env = (false, eval e X.env) :: starEach es X.env := by rfl) (hpl : (backTo pos (starEach es X.env)).any (·.1) = false := by rfl) : PE X (.Call (.Attribute o m apos) (e :: es) [] pos) (tMeth C m sp [] E0 ta t) := by
  obtain ⟨f, fd, ps, c1, c2, F, b⟩ := c.ex
  exact L2.pe_meth (pl := pl) he c1 c2 F (hr.mono hk) b .nil passL ha hst hpl ht
theorem pe_mkx0 (c : MakX X.prog X.w X.K X.mg X.base k x C sp) (hr : Room j X.A) (hk : k + 1 ≤ j) (hg : Gl X x) (ha : PA X (e :: es) t)
    (hdb : (x == ("__debug__" : Str)) = false := by decide) (he : starEach (e :: es) X.env = (false, eval e X.env) :: starEach es X.env := by rfl) (hpl : (backTo pos (starEach es X.env)).any (·.1) = false := by rfl) :
    PE X (.Call (.Name x p) (e :: es) [] pos) (tMake C sp [] E0 t) := by
  obtain ⟨f, fd, ps, M, F, hm, b⟩ := c.ex
  exact L2.pe_make M F (hr.mono hk) hg hm b .nil passL ha hdb he hpl
end

/-! ## an exception class of the text, out of what the top has written -/
theorem rai_mk {P : Program} {w : World} {K : PySem.W.Frag} {h base : Heap} {mg : Str → Option Value} {x : Str} {C f cc cda N : Addr} {nm q qual m file : Str} {bs bm sub : List Value} {sn : List Str} {ab : Bool} {col : Option Bool} {dd cld cdd od an : Option Addr} {k0 k1 k2 k3 k5 : Option Value}
    {cl ccl oc kV doc pm ct : Value} {csl ccs osl : Array (Option Value)} {cvs : Array Value} {tf : Tok} {p0 p1 p2 p3 p4 p5 p6 p7 p8 p9 q0 q1 : Pos} (X : K.In h) (G : h.Ns mainGlobals mg) (hm : mg x = some (.ref C))
    (lC : K.lookup C = some (excClassObj nm q C N bs bm true sn sub ab col dd k0 k1 k2 k3 k5 "ValueError.__new__")) (rC : PySem.HandSPX.refsVE bm = true) (sa : PySem.W.findIn K (.ref C) "__setattr__" = some (some (.builtin "object.__setattr__")))
    (ex : PySem.W.subIn K (.ref C) (.type "BaseException") = some true) (ty : PySem.W.typeIn K (.ref C) = some (.type "type")) (kc : PySem.W.keepIn K (.ref C) = true)
    (ini : PySem.W.findIn K (.ref C) "__init__" = some (some (.ref f))) (tyf : PySem.W.typeIn K (.ref f) = some (.type "function"))
    (l : K.lookup f = some ⟨oc, od, .func (PySem.W.ksFn "__init__" qual (xiArgs q0 q1) (xiBody m p0 p1 p2 p3 p4 p5 p6 p7 p8 p9) xiScope .none kV doc pm an (.ref cda) ct cc), osl⟩)
    (co : PySem.W.codeIn K (.ref cda) qual = true) (cell : K.lookup cc = some ⟨cl, cld, .cell (some (.ref C)), csl⟩) (rec_ : K.lookup cda = some ⟨ccl, cdd, .fields cvs, ccs⟩) (v2 : cvs[2]? = some (.str file tf)) (fl : ((P.main.file : Str) == file) = true)
    (top : (P.main.scope.names.lookup ("super" : Str)).isSome = false) (opq : PySem.W.nsIn K PySem.cStatics "thirdparty.any" = some none) (sup : PySem.W.ks_superIn K C C "__init__" = some (some (.builtin "ValueError.__init__"))) (veb : PySem.W.subIn K (.ref C) (.type "ValueError") = some true)
    (slf : PySem.W.mroIn K C (.ref C) = some true) (val : PySem.W.findIn K (.ref C) "value" = some none) (ms : PySem.W.nsIn K mainGlobals "super" = some none) (he : XiCall qual f cc cda m p0 p1 p2 p3 p4)
    (hb : ∀ us : List Value, us.length = 2 → bindArgs (PySem.W.ksFn "__init__" qual (xiArgs q0 q1) (xiBody m p0 p1 p2 p3 p4 p5 p6 p7 p8 p9) xiScope .none kV doc pm an (.ref cda) ct cc) ⟨us, []⟩ = pure ((["self", "value"] : List Str).zip us)) : Rai P w K mg base 1 x C :=
  ⟨f, _, ⟨⟨nm, q, N, bs, bm, sn, sub, ab, col, dd, k0, k1, k2, k3, k5, lC, rC⟩, sa, ex, ty, kc⟩, ini, tyf,
    ok_xi ⟨⟨nm, q, N, bs, bm, sn, sub, ab, col, dd, k0, k1, k2, k3, k5, lC, rC⟩, sa, ex, ty, kc⟩ ⟨co, ⟨cl, cld, csl, cell⟩, ⟨ccl, cdd, cvs, ccs, tf, rec_, v2⟩, fl, top, opq, sup, veb, slf, val⟩ l (PySem.W.mg_none_of X G ms) he, hm, L2.Binds.all hb⟩
end Sq


set_option Elab.async false
set_option maxRecDepth 100000
set_option maxHeartbeats 4000000
namespace Sq
open PySem PySem.Spec PyProof.Rows L2
/-! ## methods called by keywords alone -/
structure MetKX (P : Program) (w : World) (K : PySem.W.Frag) (mg : Str → Option Value) (base : Heap) (k : Nat) (C : Addr) (m : Str) (ks : List Str) (sp : Sp) : Prop where
  ex : ∃ (f : Addr) (fd : FuncData) (ps : List Str) (spf : Sp) (g : List Value → List Value → List Value) (gV : List V → List V → List V),
    Cls K C ∧ Meth K C m f ∧ FnOk P w K mg base (L2.CX P w) k f fd ps spf ∧ KBn K fd ps 1 ks g gV ∧ ∀ x zs H Q E, sp (x :: zs) H Q E → zs.length = ks.length ∧ spf (gV [x] zs) H Q E
def tMetK (C : Addr) (m : Str) (sp : Sp) (E : L2.St → XK) (ta : TE) (tk : TA) : TE := fun σ H Q => ta σ H fun x H1 => ∃ a dx fs, x = .ref a ∧ H1 a = some (.ins C dx fs) ∧ fs.lookup m = none ∧ tk σ H1 fun zs H2 => sp (x :: zs) H2 Q (E σ)
section
variable {X : Cx} {W : WX} {k j : Nat} {C : Addr} {m : Str} {ks : List Str} {sp : Sp} {pos apos : Pos} {o : Expr} {kws : List Keyword} {ta : TE} {t : TA}
theorem pe_mkwx {pl : Sem Bool} (c : MetKX X.prog X.w X.K X.mg X.base k C m ks sp) (hr : Room j X.A) (hk : k ≤ j) (tk : Takes X W) (he : PE X o ta) (ha : PK X kws t)
    (ht : eval (.Call (.Attribute o m apos) [] kws pos) X.env = (do
      let ov ← eval o X.env
      standAt apos.atName
      let (f, first) ← holding [ov] (getMethod ov m pl)
      callWith pos f first (backTo pos (starEach [] X.env)) (backToKw pos (keywordEach kws X.env))) := by rfl)
    (hall : (backToKw pos (keywordEach kws X.env)).all (·.1.isSome) = true := by rfl) (hks : (backToKw pos (keywordEach kws X.env)).filterMap (·.1) = ks := by rfl)
    (hpl : ((backTo pos (starEach [] X.env)).any (·.1) || (backToKw pos (keywordEach kws X.env)).any (·.1.isNone)) = false := by rfl) : PE X (.Call (.Attribute o m apos) [] kws pos) (tMetK C m sp (WE W) ta t) := by
  obtain ⟨f, fd, ps, spf, g, gV, cl, hm, F, hb, hs⟩ := c.ex
  refine ⟨fun pins s σ H Q I h => PySem.W.methodCall_KW (pl := pl) (thn (he.run pins s σ H _ I h) fun u s1 hh => ?_) ht⟩
  obtain ⟨x, H1, I1, rx, a, dx, fs, rfl, ea, l, q⟩ := hh
  obtain rfl : u = Value.ref a := rx
  refine getmeth_ok I1 ea cl hm l (PySem.W.callWith_KW0 (first := [.ref a]) (h₀ := X.base) I.ok.mod.kin hm.kp hall (thn (ha.run pos pins s1 σ H1 _ I1 q) fun ws s2 hh => ?_) hpl)
  obtain ⟨zs, H2, I2, rz, q2⟩ := hh
  obtain ⟨lz, q3⟩ := hs _ _ _ _ _ q2
  refine ⟨I2.kIn, ?_⟩
  rw [hks]
  have r1 : Vals [V.ref a] [Value.ref a] := .cons rfl .nil
  refine wpAny_call (codeAny_mono (F.run X.A X.stack s2 H2 ⟨[.ref a], ks.zip ws⟩ (g [.ref a] ws) (gV [.ref a] zs) Q (WE W σ) (hr.mono hk) I2.env0 (hb.to s2 [.ref a] ws I2.kIn rfl (rz.length.symm.trans lz)) (hb.rel r1 rz) q3) fun r s3 hq => ?_)
  cases r with
  | error er => exact passAt tk σ pins H2 s2 er s3 I2 hq
  | ok fl =>
    cases fl with
    | ret u => exact I2.after hq
    | next => exact False.elim hq
    | brk => exact False.elim hq
    | cont => exact False.elim hq
end
/-! ## new objects made by keywords alone -/
structure MakK (P : Program) (w : World) (K : PySem.W.Frag) (mg : Str → Option Value) (base : Heap) (k : Nat) (x : Str) (C : Addr) (ks : List Str) (sp : Sp) : Prop where
  ex : ∃ (f : Addr) (fd : FuncData) (ps : List Str) (spf : Sp) (g : List Value → List Value → List Value) (gV : List V → List V → List V),
    Mk K C f ∧ FnOk P w K mg base CX0 k f fd ps spf ∧ mg x = some (.ref C) ∧ KBn K fd ps 1 ks g gV ∧ ∀ x zs H Q E, sp (x :: zs) H Q E → zs.length = ks.length ∧ spf (gV [x] zs) H Q E
def tMakK (C : Addr) (sp : Sp) (tk : TA) : TE := fun σ H Q => tk σ H fun zs H1 => ∀ x dx, H1 x = none → H1 dx = none → dx ≠ x → sp (.ref x :: zs) (upd (upd H1 dx (.own x)) x (.ins C dx [])) (fun v H3 => v = .non ∧ Q (.ref x) H3) E0
section
variable {X : Cx} {k j : Nat} {C : Addr} {x : Str} {ks : List Str} {sp : Sp} {p pos : Pos} {kws : List Keyword} {t : TA}
theorem pe_mkk (c : MakK X.prog X.w X.K X.mg X.base k x C ks sp) (hr : Room j X.A) (hk : k + 1 ≤ j) (hg : Gl X x) (ha : PK X kws t)
    (hall : (backToKw pos (keywordEach kws X.env)).all (·.1.isSome) = true := by rfl) (hks : (backToKw pos (keywordEach kws X.env)).filterMap (·.1) = ks := by rfl) (hdb : (x == ("__debug__" : Str)) = false := by decide)
    (hpl : ((backTo pos (starEach [] X.env)).any (·.1) || (backToKw pos (keywordEach kws X.env)).any (·.1.isNone)) = false := by rfl) : PE X (.Call (.Name x p) [] kws pos) (tMakK C sp t) := by
  obtain ⟨f, fd, ps, spf, g, gV, M, F, hm, hb, hs⟩ := c.ex
  refine ⟨fun pins s σ H Q I h => wpAny_Call_Name_kw (ld_glob I hg hm (PySem.W.callWith_KW0 (h₀ := X.base) I.ok.mod.kin M.kp hall (thn (ha.run pos pins s σ H _ I h) fun ws s2 hh => ?_) hpl) hdb)⟩
  obtain ⟨zs, H2, I2, rz, q2⟩ := hh
  refine ⟨I2.kIn, ?_⟩
  rw [hks]
  have lz : zs.length = ks.length := (hs _ _ _ _ _ (q2 (s2.heap.objs.size + 1) s2.heap.objs.size (I2.hok.fresh (Nat.le_succ _)) (I2.hok.fresh (Nat.le_refl _)) (Nat.ne_of_lt (Nat.lt_succ_self _)))).1
  exact run_makeK (us := []) (vs := []) M F (hr.mono hk) hb pass0 I2 .nil rz rfl lz fun x dx n1 n2 n3 => (hs _ _ _ _ _ (q2 x dx n1 n2 n3)).2
end
/-! ## list.count of plain values -/
def rCntF (K : PySem.W.Frag) : V → List V → Hp → VK → Prop := fun x xs H Q => ∃ (a : Addr) (ys : List V) (y : V), x = .ref a ∧ xs = [y] ∧ SqL K H a ys ∧ flatV y = true ∧ ys.all flatV = true ∧ Q (.int ((ys.countP fun z => eqV z y : Nat) : Int)) H
theorem count_flat {y : V} : ∀ {ys : List V} {us : List Value}, Vals ys us → ys.all flatV = true → us.countP (eqU y) = ys.countP fun z => eqV z y
  | _, _, .nil, _ => rfl
  | _, _, .cons (a := z) (b := u) r t, f => by
    rw [List.all_cons, Bool.and_eq_true] at f
    rw [List.countP_cons, List.countP_cons, count_flat t f.2, eqU_of r f.1]
theorem mt_countF {X : Cx} : MtR X "list.count" (rCntF X.K) := by
  intro pins s σ H x xs v us Q I rx rxs h
  obtain ⟨a, ys, y, rfl, rfl, hs, fy, fys, q⟩ := h
  cases rx
  obtain ⟨uy, rfl, ry⟩ := rxs.one
  obtain ⟨its, rv, ⟨⟨cls, dd, data, sl⟩, n, ho, hc, hdn, hd⟩, hlen⟩ := I.list hs
  simp only at hc hd
  subst hc hd
  refine call_meets PySem.F.slot_list_count ⟨_, ho, rfl⟩ PySem.F.entry_list_count (PySem.F.args_list_count_2 _ _) (SeqAt.list_countAt a its.toArray n dd sl uy (eqU y)) ⟨ho, fun u2 hu2 => mem_eqAt ry fy rv fys u2 (by simpa using hu2), ?_⟩
  refine ⟨.int ((ys.countP fun z => eqV z y : Nat) : Int), H, I.tok _, ⟨s.toks, ?_⟩, q⟩
  show Value.int ((its.toArray.toList.countP (eqU y) : Nat) : Int) s.toks = _
  rw [List.toList_toArray, count_flat rv fys]
/-! ## a method, an __init__ called by place and by keywords -/
theorem kbn_self {K : PySem.W.Frag} {x qual : Str} {st : Stmt} {f : Addr} {fd : FuncData} {ps ks : List Str} (F : Fun K x qual st f fd) (g : {α : Type} → α → List α → List α) (hg : ∀ {v : V} {u : Value} {vs : List V} {us : List Value}, RelV v u → Vals vs us → Vals (g v vs) (g u us))
    (h : ∀ (kV doc pm : Value) (an : Option Addr) (cdv ct u : Value) (ws : List Value), ws.length = ks.length →
      bindArgs (PySem.W.fnOf x qual (defArgs st) (defBody st) (defScope st) .none kV doc pm an cdv ct) ⟨[u], ks.zip ws⟩ = pure (ps.zip (g u ws))) : KBn K fd ps 1 ks (fun us ws => match us with | [u] => g u ws | _ => ws) (fun us ws => match us with | [u] => g u ws | _ => ws) := by
  obtain ⟨oc, od, kV, doc, pm, an, cdv, ct, osl, rfl, lk, hcd⟩ := F.ex
  refine ⟨fun s us ws X l1 l2 => ?_, fun r1 r2 => ?_⟩
  · match us, l1 with
    | [u], _ => exact .of_eq (h kV doc pm an cdv ct u ws l2)
  · cases r1 with
    | nil => exact r2
    | cons a r => cases r with
      | nil => exact hg a r2
      | cons b r => exact r2
section
variable {P : Program} {w : World} {K : PySem.W.Frag} {mg : Str → Option Value} {base : Heap} {C : Addr} {m x qual : Str} {st : Stmt} {ps ks N : List Str} {k : Nat} {sp spk : Sp}
theorem MetAt.metKX (D : MetAt K C m qual st ps) (cl : Cls K C) (S : FnScope N ps (defScope st)) (len : ∀ vs H Q E, sp vs H Q E → vs.length = ps.length)
    (hb : ∀ (f : Addr) (cdv : Value) (A : Around) (outer : List Env) (s : Shared) (H : Hp) (vs : List V) (Q : VK) (E : XK), Room k (A.deeper (envOfC qual (defScope st) s.heap.objs.size f cdv)) → sp vs H Q E →
      (Takes (cxOf (L2.CX P w) P w K mg base N qual (defScope st) f cdv A outer s H E) fun cls d _ G => E cls d G) →
      ∃ t, PSs (cxOf (L2.CX P w) P w K mg base N qual (defScope st) f cdv A outer s H E) (defBody st) t ∧ t { nx := fun _ H' => Q .non H', rt := Q } (start N vs) H)
    (g : {α : Type} → α → List α → List α) (hg : ∀ {v : V} {u : Value} {vs : List V} {us : List Value}, RelV v u → Vals vs us → Vals (g v vs) (g u us))
    (h : ∀ (kV doc pm : Value) (an : Option Addr) (cdv ct u : Value) (ws : List Value), ws.length = ks.length →
      bindArgs (PySem.W.fnOf m qual (defArgs st) (defBody st) (defScope st) .none kV doc pm an cdv ct) ⟨[u], ks.zip ws⟩ = pure (ps.zip (g u ws)))
    (hs : ∀ x zs H Q E, spk (x :: zs) H Q E → zs.length = ks.length ∧ sp (g x zs) H Q E) : MetX P w K mg base (k + 1) C m sp ∧ MetKX P w K mg base (k + 1) C m ks spk := by
  obtain ⟨f, fd, F, hm, b⟩ := D.ex
  have ok := F.okX S len fun cdv A outer s H vs Q E hr hsp => hb f cdv A outer s H vs Q E hr hsp (takes_of rfl rfl rfl rfl)
  exact ⟨⟨f, fd, ps, cl, hm, ok, b⟩, ⟨f, fd, ps, sp, _, _, cl, hm, ok, kbn_self F g hg h, hs⟩⟩
theorem IniAt.makK (D : IniAt K mg C x qual st ps) (S : FnScope N ps (defScope st)) (len : ∀ vs H Q E, sp vs H Q E → vs.length = ps.length)
    (hb : ∀ (f : Addr) (cdv : Value) (A : Around) (outer : List Env) (s : Shared) (H : Hp) (vs : List V) (Q : VK) (E : XK), Room k (A.deeper (envOfC qual (defScope st) s.heap.objs.size f cdv)) → sp vs H Q E →
      (Takes (cxOf (L2.CX P w) P w K mg base N qual (defScope st) f cdv A outer s H E) fun cls d _ G => E cls d G) →
      ∃ t, PSs (cxOf (L2.CX P w) P w K mg base N qual (defScope st) f cdv A outer s H E) (defBody st) t ∧ t { nx := fun _ H' => Q .non H', rt := Q } (start N vs) H)
    (g : {α : Type} → α → List α → List α) (hg : ∀ {v : V} {u : Value} {vs : List V} {us : List Value}, RelV v u → Vals vs us → Vals (g v vs) (g u us))
    (h : ∀ (kV doc pm : Value) (an : Option Addr) (cdv ct u : Value) (ws : List Value), ws.length = ks.length →
      bindArgs (PySem.W.fnOf "__init__" qual (defArgs st) (defBody st) (defScope st) .none kV doc pm an cdv ct) ⟨[u], ks.zip ws⟩ = pure (ps.zip (g u ws)))
    (hs : ∀ x zs H Q E, spk (x :: zs) H Q E → zs.length = ks.length ∧ sp (g x zs) H Q E0) : MakX P w K mg base (k + 1) x C sp ∧ MakK P w K mg base (k + 1) x C ks spk := by
  obtain ⟨f, fd, F, hm, hg2, b⟩ := D.ex
  have ok := F.okX S len fun cdv A outer s H vs Q E hr hsp => hb f cdv A outer s H vs Q E hr hsp (takes_of rfl rfl rfl rfl)
  have ok0 : FnOk P w K mg base CX0 (k + 1) f fd ps (fun vs H Q _ => sp vs H Q E0) := fn_calm ok fun vs H Q E z => z
  exact ⟨⟨f, fd, ps, hm, ok, hg2, b⟩, ⟨f, fd, ps, _, _, _, hm, ok0, hg2, kbn_self F g hg h, hs⟩⟩
end
/-! ## [.. for i, x in enumerate(xs) ..] -/
theorem lc_enum {K : PySem.W.Frag} {a : Addr} {xs : List V} {g : TG} {tt : TT} {te : TE} {vs : List Nat} {σ : L2.St} {H1 : Hp} {D : Addr} {Qd : Hp → Prop} (Pv : Nat → Hp → Prop) (h0 : Pv 0 (upd H1 D (.lst []))) (hq : ∀ i H, Pv i H → SqL K H a xs)
    (hs : ∀ (i : Nat) (x : V) (T : Addr) (H : Hp), xs[i]? = some x → Pv i H → H T = none → g (.ref T) (wipe σ vs) (upd H T (.tup [.int (i : Nat), x])) fun σ2 H2 => wipe σ2 vs = wipe σ vs ∧ tt σ2 H2 fun b H3 =>
      if b = true then te σ2 H3 fun y H4 => ∃ acc, H4 D = some (.lst acc) ∧ acc.length < sizeLine ∧ Pv (i + 1) (upd H4 D (.lst (acc ++ [y]))) else Pv (i + 1) H3) (hd : ∀ H, Pv xs.length H → Qd H) :
    ∃ W : Nat → Nat → Hp → Prop, (∃ m, W 0 m (upd H1 D (.lst []))) ∧ ∀ i m H, W i m H →
      ((Ite K a).stop i H ∧ Qd H) ∨ ((Ite K a).go i H ∧ ∃ Nx : Hp → Prop, (∀ H', Nx H' → ∃ m', m' < m ∧ W (i + 1) m' H') ∧ ∀ x H', (Ite K a).yld i H x H' → g x (wipe σ vs) H' fun σ2 H2 => wipe σ2 vs = wipe σ vs ∧ tt σ2 H2 fun b H3 =>
        if b = true then te σ2 H3 fun y H4 => ∃ acc, H4 D = some (.lst acc) ∧ acc.length < sizeLine ∧ Nx (upd H4 D (.lst (acc ++ [y]))) else Nx H3) := by
  refine ⟨fun i m H => m + i = xs.length ∧ Pv i H, ⟨xs.length, rfl, h0⟩, fun i m H hW => ?_⟩
  obtain ⟨em, p⟩ := hW
  have q := hq i H p
  by_cases lt : i < xs.length
  · have ex : xs[i]? = some xs[i] := List.getElem?_eq_getElem lt
    refine .inr ⟨⟨xs, _, q, ex⟩, Pv (i + 1), fun H' p' => ⟨m - 1, by omega, by omega, p'⟩, fun v H' hy => ?_⟩
    obtain ⟨T, x, rfl, nT, rfl, f⟩ := hy
    exact hs i x T H (f xs q) p nT
  · have ei : i = xs.length := by omega
    subst ei
    exact .inl ⟨⟨xs, q, Nat.le_refl _⟩, hd H p⟩
/-! ## a kept exception stays -/
theorem Kept.same {H H' : Hp} {a C : Addr} {fs : List (Str × V)} (k : Kept H a C fs) (s : Same H H') : Kept H' a C fs := by
  obtain ⟨d, ⟨h1, h2⟩ | ⟨h1, h2⟩⟩ := k
  · exact ⟨d, .inl ⟨s _ _ h1, s _ _ h2⟩⟩
  · exact ⟨d, .inr ⟨s _ _ h1, s _ _ h2⟩⟩
theorem kept_new {H : Hp} {a C d : Addr} {fs : List (Str × V)} (na : H a = none) (hd : H d = some (.xd fs)) : Kept (upd H a (Xo a (.ref C) (some d))) a C fs := ⟨d, .inl ⟨upd_same, upd_keep na hd⟩⟩
theorem But.same {o : Addr} {H H1 H' : Hp} (b : But o H1 H') (s : Same H H1) (n : H o = none) : Same H H' := fun c u e => b c u (fun z => by
  rw [z, n] at e
  cases e) (s c u e)
theorem exm_mk {K : PySem.W.Frag} {C S : Addr} {b : Bool} (h1 : PySem.W.subIn K (.ref S) (.type "BaseException") = some true) (h2 : PySem.W.isClsIn K S = true) (h3 : PySem.W.typeIn K (.ref S) = some (.type "type")) (h4 : PySem.W.subIn K (.ref C) (.ref S) = some b) : PySem.W.exmOne K (.ref C) (.ref S) = some b := by
  have e1 : (PySem.W.subIn K (.ref S) (.type "BaseException") == some true) = true := by rw [h1] <;> rfl
  have e2 : ((PySem.W.clsIn K S).isSome && PySem.W.typeIn K (.ref S) == some (.type "type")) = true := by
    have h2' : (PySem.W.clsIn K S).isSome = true := h2
    rw [h2', h3] <;> rfl
  show (if (PySem.W.subIn K (.ref S) (.type "BaseException") == some true) = true then (if ((PySem.W.clsIn K S).isSome && PySem.W.typeIn K (.ref S) == some (.type "type")) = true then PySem.W.subIn K (.ref C) (.ref S) else none) else none) = some b
  rw [if_pos e1, if_pos e2]
  exact h4
end Sq


set_option Elab.async false
set_option maxRecDepth 100000
set_option maxHeartbeats 4000000
namespace Sq
open PySem PySem.Spec PyProof.Rows L2
/-! ## a, *b = a list -/
theorem star_list {prog : Program} {w : World} {A : Around} {E : Value → Shared → Prop} {s : Shared} {l : Addr} {items : Array Value} {n i : Nat} {Q : List Value → Shared → Prop} (hl : s.heap.IsList l items) (hh : A.handled = none) (hi : i < n) (hn : n ≤ items.size + 1) (hz : items.size ≤ 16384)
    (h : ∀ (h₂ : Heap) (tk : Nat), (∀ b o, s.heap.get? b = some o → h₂.get? b = some o) → Q (items.toList.take i ++ [.ref h₂.objs.size] ++ (items.toList.drop i).drop (items.size + 1 - n)) { s with heap := h₂.push { cls := .type "list", data := .seq ((items.toList.drop i).take (items.size + 1 - n)).toArray }, toks := tk }) :
    wpAny (model prog w) A (unpackItems (.ref l) n (some i)) Q E s := by
  have hlt : l ≠ s.heap.objs.size := by obtain ⟨o, ho, _⟩ := hl; exact Nat.ne_of_lt (Heap.lt_size ho)
  have hll : l < s.heap.objs.size := by obtain ⟨o, ho, _⟩ := hl; exact Heap.lt_size ho
  unfold unpackItems
  refine wpAny_bind ?_
  unfold notIterableAtAll
  refine wpAny_bind (wpAny_specialOf hl.typeIs PySem.F.slot_list_iter.lookup ?_)
  refine wpAny_pure ?_
  simp only [Bool.false_eq_true, if_false]
  refine wpAny_bind (wpAny_holding (wpAny_pyIter_list hl ?_))
  refine wpAny_bind (wpAny_holding (PySem.W.kun_draw hlt i 0 _ _ ⟨_, Heap.get?_push_size _ rfl, rfl, rfl⟩ (hl.push _) (by omega) fun h₁ hit₁ hs₁ => ?_))
  have hl₁ : h₁.IsList l items := (hl.push _).extBut hs₁.extBut hlt
  rw [Nat.zero_add] at hit₁
  have hit₁' := hit₁
  obtain ⟨oi, hoi, _⟩ := hit₁'
  have hl₁' := hl₁
  obtain ⟨ol, hol, _⟩ := hl₁'
  rw [List.drop_zero]
  have hfl : (items.toList.take i).length = i := by rw [List.length_take, Array.length_toList]; omega
  rw [if_neg (show ¬ ((items.toList.take i).length < i) by rw [hfl]; omega)]
  refine wpAny_bind (wpAny_holding (PySem.W.kun_collect (s := { s with heap := h₁ }) (T := "list_iterator") (.inr (.inr (.inl rfl))) (Walks.list (A := A.in1) hh s.heap.objs.size l hlt items) (fun j u st => st.1.typeIs) (k := i) (by omega) ⟨hit₁, hl₁⟩ (Heap.lt_size hoi) (Heap.lt_size hol) (fun h₂ tk hk => ?_) (by rw [sizeLine_eq]; omega)))
  have hrl : (items.toList.drop i).length = items.size - i := by rw [List.length_drop, Array.length_toList]
  have hmid : (items.toList.drop i).length - (n - 1 - i) = items.size + 1 - n := by rw [hrl]; omega
  show wpAny _ _ (if (items.toList.drop i).length < n - 1 - i then _ else _) _ _ _
  rw [if_neg (by rw [hrl]; omega)]
  show wpAny _ _ (newList ((items.toList.drop i).take ((items.toList.drop i).length - (n - 1 - i))) >>= fun d => pure (items.toList.take i ++ [d] ++ (items.toList.drop i).drop ((items.toList.drop i).length - (n - 1 - i)))) _ _ _
  rw [hmid]
  have he : ∀ b o, s.heap.get? b = some o → h₂.get? b = some o := fun b o e => hk b o (Nat.ne_of_lt (Heap.lt_size e)) (hs₁.extBut b o (Nat.ne_of_lt (Heap.lt_size e)) (Heap.get?_push_of_some _ e))
  exact wpAny_bind (wpAny_newList (wpAny_pure (h h₂ tk he)) (by rw [List.length_take, hrl, sizeLine_eq]; omega))
def gStar (K : PySem.W.Frag) (t : TGs) : TG := fun v σ H Q => ∃ a x xs, v = .ref a ∧ SqL K H a (x :: xs) ∧ xs.length ≤ 16000 ∧ ∀ D, H D = none → t [x, .ref D] σ (upd H D (.lst xs)) Q
section
variable {X : Cx} {K : PySem.W.Frag} {e : Expr} {es : List Expr} {t : TG} {u ts : TGs} {p pos : Pos} {k : Nat}
theorem pgs_star (h1 : PG X e t) (h2 : PGs X es u) (hs : (assignEach (.Starred e p :: es) X.env).map (·.2) = assign e X.env :: (assignEach es X.env).map (·.2) := by rfl) : PGs X (.Starred e p :: es) (gCons t u) := by
  refine ⟨fun pins s σ H vs us Q I r h => ?_⟩
  obtain ⟨v, vr, e1, h⟩ := h
  subst e1
  cases r with
  | cons r rr =>
    rw [hs]
    refine assignInOrder_cons (thn (h1.run pins s σ H _ _ _ I r h) fun _ s1 ⟨σ1, H1, I1, q1⟩ => ?_)
    exact h2.run pins s1 σ1 H1 _ _ Q I1 rr q1
/-- a, *b = a list -/
theorem pg_star (hc : X.calm = true) (h : PGs X es ts) (hn : (assignEach es X.env).length = 2 := by rfl) (hst : (assignEach es X.env).findIdx? (·.1) = some 1 := by rfl) (hK : X.K = K := by rfl) : PG X (.Tuple es k pos) (gStar K ts) := by
  subst hK
  refine ⟨fun pins s σ H v u Q I r hw => ?_⟩
  obtain ⟨a, x, xs, e1, hq, hl, hw⟩ := hw
  subst e1
  cases r
  obtain ⟨its, rv, pl, hz⟩ := I.list hq
  have hl' : s.heap.IsList a its.toArray := by
    obtain ⟨o, m, e, c, d, q⟩ := pl
    exact ⟨o, e, c, m, q⟩
  rw [PyProof.Rows.assign_Tuple]
  refine wpAny_bind (wpAny_standAt ?_)
  unfold unpack
  rw [hn, hst]
  cases rv with
  | @cons _ v0 _ vs0 r0 rr =>
    have hlen : vs0.length = xs.length := rr.length.symm
    refine wpAny_bind (wpAny_holding (star_list hl' (I.ok.hd hc) (by decide) (by rw [List.size_toArray, List.length_cons]; omega) (by rw [List.size_toArray, List.length_cons]; omega) fun h₂ tk kp => ?_))
    have I1 : Inv X pins σ H { s with heap := h₂, toks := tk } := I.kept kp
    have em : (((v0 :: vs0).toArray.toList.drop 1).take ((v0 :: vs0).toArray.size + 1 - 2)) = vs0 := by
      rw [List.toList_toArray, List.size_toArray, List.length_cons, List.drop_one, List.tail_cons]
      exact List.take_of_length_le (by omega)
    have el : (((v0 :: vs0).toArray.toList.drop 1).drop ((v0 :: vs0).toArray.size + 1 - 2)) = [] := by
      rw [List.toList_toArray, List.size_toArray, List.length_cons, List.drop_one, List.tail_cons]
      exact List.drop_eq_nil_of_le (by omega)
    have hf := I1.hok.fresh (Nat.le_refl _)
    have I2 : Inv X pins σ (upd H h₂.objs.size (.lst xs)) { s with heap := h₂.push { cls := .type "list", data := .seq vs0.toArray }, toks := tk } :=
      I1.laid (t' := tk) (fun b u q => Heap.get?_push_of_some _ q) (Nat.le_refl _) ⟨by rw [sizeLine_eq]; omega, vs0, _, rr, Heap.get?_push_size _ rfl⟩
    rw [em, el]
    exact h.run pins _ σ _ [x, .ref h₂.objs.size] [v0, .ref h₂.objs.size] Q I2 (.cons r0 (.cons rfl .nil)) (hw _ hf)
end
def tStarL (K : PySem.W.Frag) (te : TE) (t : TA) : TA := fun σ H Q => te σ H fun x H1 => ∃ (p : Addr) (xs : List V), x = V.ref p ∧ SqL K H1 p xs ∧ t σ H1 fun ys H2 => Q (xs ++ ys) H2
/-- *e in a display, e a list -/
theorem pa_starK {X : Cx} {K : PySem.W.Frag} {e : Expr} {es : List Expr} {te : TE} {t : TA} {p : Pos} (he : PE X e te) (hr : PA X es t) (hs : starEach (.Starred e p :: es) X.env = (true, eval e X.env) :: starEach es X.env := by rfl) (hK : X.K = K := by rfl) : PA X (.Starred e p :: es) (tStarL K te t) := by
  subst hK
  have z := StX.pa_star (pe_wk he) hr hs
  refine ⟨fun pos pins s σ H Q I h => z.run pos pins s σ H Q I ⟨_, h, fun v G q => ?_⟩⟩
  obtain ⟨a, xs, e, hq, q⟩ := q
  exact ⟨a, xs, e, .inr hq, q⟩
theorem pe_gc {X : Cx} {x : Str} {v : V} {pos : Pos} (hg : Gl X x) (h : ∃ u, X.mg x = some u ∧ RelV v u) (hdb : (x == ("__debug__" : Str)) = false := by decide) : PE X (.Name x pos) (tC v) := by
  obtain ⟨u, a, b⟩ := h
  exact pe_glob hg a b hdb
/-! ## texts of lists, sign by sign -/
def dig (c : Nat) : Bool := decide (48 ≤ c) && decide (c ≤ 57)
def wrd (n t : Nat) : List Nat := if 1 < t then TL.numL n ++ 94 :: TL.numL t else TL.numL n
/-- equal neighbours, and how often -/
def grpS (acc : List (Int × Nat)) (k : Int) : List (Int × Nat) := match acc.getLast? with
  | some (a, c) => if a = k then acc.dropLast ++ [(a, c + 1)] else acc ++ [(k, 1)]
  | none => [(k, 1)]
def grp (ns : List Int) : List (Int × Nat) := ns.foldl grpS []
def ungrp (ps : List (Int × Nat)) : List Int := ps.flatMap fun p => List.replicate p.2 p.1
theorem ungrp_app (a b : List (Int × Nat)) : ungrp (a ++ b) = ungrp a ++ ungrp b := List.flatMap_append
theorem last_split {α : Type} {l : List α} {x : α} (h : l.getLast? = some x) : l = l.dropLast ++ [x] := by
  have ne : l ≠ [] := fun e => by
    rw [e] at h
    cases h
  rw [List.getLast?_eq_some_getLast ne] at h
  have e := List.dropLast_concat_getLast ne
  rw [Option.some.inj h] at e
  exact e.symm
theorem ungrp_step (acc : List (Int × Nat)) (k : Int) : ungrp (grpS acc k) = ungrp acc ++ [k] := by
  unfold grpS
  cases h : acc.getLast? with
  | none =>
    have e : acc = [] := by
      cases acc with
      | nil => rfl
      | cons a t => simp at h
    subst e
    simp [ungrp]
  | some p =>
    obtain ⟨a, c⟩ := p
    have e := last_split h
    simp only
    split
    · rename_i z
      subst z
      rw [ungrp_app]
      conv => rhs; rw [e, ungrp_app]
      simp [ungrp, List.replicate_succ']
    · rw [ungrp_app]
      simp [ungrp]
theorem ungrp_fold : ∀ (ns : List Int) (acc : List (Int × Nat)), ungrp (ns.foldl grpS acc) = ungrp acc ++ ns
  | [], acc => by simp
  | k :: r, acc => by
    rw [List.foldl_cons, ungrp_fold r, ungrp_step, List.append_assoc]
    rfl
theorem ungrp_grp (ns : List Int) : ungrp (grp ns) = ns := by
  unfold grp
  rw [ungrp_fold]
  simp [ungrp]
/-- the counts are at least 1; what stands there stands in the list -/
def GrpOk (b : Int → Prop) (N : Nat) (ps : List (Int × Nat)) : Prop := ∀ p ∈ ps, b p.1 ∧ 1 ≤ p.2 ∧ p.2 ≤ N
theorem grp_step {b : Int → Prop} {N : Nat} {acc : List (Int × Nat)} {k : Int} (h : GrpOk b N acc) (hk : b k) : GrpOk b (N + 1) (grpS acc k) := by
  have up : ∀ p ∈ acc, b p.1 ∧ 1 ≤ p.2 ∧ p.2 ≤ N + 1 := fun p hp => ⟨(h p hp).1, (h p hp).2.1, Nat.le_succ_of_le (h p hp).2.2⟩
  unfold grpS
  cases e : acc.getLast? with
  | none =>
    intro p hp
    rw [List.mem_singleton.mp hp]
    exact ⟨hk, Nat.le_refl _, by simp⟩
  | some q =>
    obtain ⟨a, c⟩ := q
    have es := last_split e
    have hq := h (a, c) (by rw [es]; simp)
    simp only
    split
    · intro p hp
      rcases List.mem_append.mp hp with z | z
      · exact up p (List.dropLast_subset _ z)
      · rw [List.mem_singleton.mp z]
        exact ⟨hq.1, by simp, by have := hq.2.2; simp only at this ⊢; omega⟩
    · intro p hp
      rcases List.mem_append.mp hp with z | z
      · exact up p z
      · rw [List.mem_singleton.mp z]
        exact ⟨hk, Nat.le_refl _, by simp⟩
theorem grp_fold {b : Int → Prop} : ∀ (ns : List Int) (N : Nat) (acc : List (Int × Nat)), GrpOk b N acc → (∀ k ∈ ns, b k) → GrpOk b (N + ns.length) (ns.foldl grpS acc)
  | [], N, acc, h, _ => h
  | k :: r, N, acc, h, hk => by
    have := grp_fold r (N + 1) (grpS acc k) (grp_step h (hk k (List.mem_cons_self ..))) fun j hj => hk j (List.mem_cons_of_mem _ hj)
    rw [List.foldl_cons, List.length_cons, show N + (r.length + 1) = N + 1 + r.length by omega]
    exact this
theorem grp_ok {b : Int → Prop} {ns : List Int} (h : ∀ k ∈ ns, b k) : GrpOk b ns.length (grp ns) := by
  have := grp_fold ns 0 [] (fun p z => nomatch z) h
  rw [Nat.zero_add] at this
  exact this
theorem grp_snoc (ns : List Int) (k : Int) : grp (ns ++ [k]) = grpS (grp ns) k := by
  unfold grp
  rw [List.foldl_append]
  rfl
theorem grpS_len (acc : List (Int × Nat)) (k : Int) : (grpS acc k).length ≤ acc.length + 1 ∧ 0 < (grpS acc k).length := by
  unfold grpS
  cases e : acc.getLast? with
  | none => simp
  | some q =>
    obtain ⟨a, c⟩ := q
    have es := congrArg List.length (last_split e)
    simp only [List.length_append, List.length_singleton] at es
    simp only
    split <;> simp <;> omega
theorem grp_len (ns : List Int) : (grp ns).length ≤ ns.length := by
  have : ∀ (ns : List Int) (acc : List (Int × Nat)), (ns.foldl grpS acc).length ≤ acc.length + ns.length := by
    intro ns
    induction ns with
    | nil => intro acc; simp
    | cons k r ih =>
      intro acc
      have a := ih (grpS acc k)
      have b := (grpS_len acc k).1
      rw [List.foldl_cons, List.length_cons]
      omega
  have a := this ns []
  simpa [grp] using a
theorem grp_nil {ns : List Int} : grp ns = [] ↔ ns = [] := by
  constructor
  · intro h
    have e := ungrp_grp ns
    rw [h] at e
    exact e.symm
  · rintro rfl
    rfl
def noneL : List Nat := [110, 111, 110, 101]
def wrds (ns : List Int) : List (List Nat) := (grp ns).map fun p => wrd p.1.toNat p.2
def showL (ns : List Int) : List Nat := if ns = [] then noneL else TL.joinL [44, 32] (wrds ns)
/-! ## and read back -/
def numIn (w : List Nat) : Option Nat := if 1 ≤ w.length ∧ w.length ≤ 200 ∧ w.all dig = true then some (NumText.digitsVal w) else none
def numsIn (w : List Nat) : Option (List Int) := match TL.spl [94] 0 [] w with
  | [] => none
  | f :: o => match numIn f, (match o with | [] => some 1 | t :: _ => numIn t) with
    | some n, some t => if 1 < o.length ∨ n < 2 then none else some (List.replicate t (n : Int))
    | _, _ => none
theorem dig_num (n : Nat) : (TL.numL n).all dig = true := by
  rw [List.all_eq_true]
  intro c hc
  have := TL.numL_digits n c hc
  unfold dig
  rw [Bool.and_eq_true, decide_eq_true_eq, decide_eq_true_eq]
  exact this
theorem numIn_num {n : Nat} (h : (TL.numL n).length ≤ 200) : numIn (TL.numL n) = some n := by
  unfold numIn
  have l : 1 ≤ (TL.numL n).length := by
    cases e : TL.numL n with
    | nil => exact absurd e (TL.numL_ne n)
    | cons a t => simp
  rw [if_pos ⟨l, h, dig_num n⟩, TL.numL_val]
theorem free94 (n : Nat) : 94 ∉ TL.numL n := TL.numL_free (.inr (by decide))
theorem free44 (n t : Nat) : 44 ∉ wrd n t := by
  unfold wrd
  have a : ∀ m, 44 ∉ TL.numL m := fun m => TL.numL_free (.inl (by decide))
  split
  · simp only [List.mem_append, List.mem_cons, not_or]
    exact ⟨a n, by decide, a t⟩
  · exact a n
theorem spl_wrd (n t : Nat) : TL.spl [94] 0 [] (wrd n t) = if 1 < t then [TL.numL n, TL.numL t] else [TL.numL n] := by
  unfold wrd
  split
  · have e := TL.spl_part1 (s := 94) (S := []) (p := TL.numL n) (rest := TL.numL t) (acc := []) (free94 n)
    rw [show TL.numL n ++ 94 :: TL.numL t = TL.numL n ++ ([94] ++ TL.numL t) from rfl, e, TL.spl_last1 (free94 t)]
    rfl
  · rw [TL.spl_last1 (free94 n)]
    rfl
theorem nums_wrd {n t : Nat} (hn : (TL.numL n).length ≤ 200) (ht : (TL.numL t).length ≤ 200) (h2 : 2 ≤ n) (h1 : 1 ≤ t) : numsIn (wrd n t) = some (List.replicate t (n : Int)) := by
  unfold numsIn
  rw [spl_wrd]
  by_cases h : 1 < t
  · rw [if_pos h]
    simp only [numIn_num hn, numIn_num ht]
    rw [if_neg (by simp; omega)]
  · rw [if_neg h]
    simp only [numIn_num hn]
    rw [if_neg (by simp; omega), show t = 1 by omega]
theorem free110 (n t : Nat) : 110 ∉ wrd n t := by
  unfold wrd
  have a : ∀ m, 110 ∉ TL.numL m := fun m => TL.numL_free (.inr (by decide))
  split
  · simp only [List.mem_append, List.mem_cons, not_or]
    exact ⟨a n, by decide, a t⟩
  · exact a n
theorem wrds_ne {ns : List Int} (h : ns ≠ []) : wrds ns ≠ [] := fun e => h (grp_nil.mp (List.map_eq_nil_iff.mp e))
theorem spl_show {ns : List Int} (h : ns ≠ []) : TL.spl [44, 32] 0 [] (showL ns) = wrds ns := by
  unfold showL
  rw [if_neg h]
  refine TL.spl_join (wrds_ne h) fun p hp => ?_
  obtain ⟨q, _, rfl⟩ := List.mem_map.mp hp
  exact free44 _ _
theorem show_ne {ns : List Int} (h : ns ≠ []) : showL ns ≠ noneL := fun e => by
  have a := spl_show h
  rw [e, TL.spl_last1 (show 44 ∉ noneL by decide)] at a
  have m : noneL ∈ wrds ns := by
    rw [← a]
    simp
  obtain ⟨q, _, eq⟩ := List.mem_map.mp m
  have : 110 ∈ noneL := by decide
  rw [← eq] at this
  exact free110 _ _ this
theorem show_inj_nil {ns : List Int} : showL ns = noneL ↔ ns = [] := ⟨fun e => Classical.byContradiction fun h => show_ne h e, fun e => by
  subst e
  rfl⟩
/-- lists that are shown and read here -/
def Nice (ns : List Int) : Prop := (∀ k ∈ ns, 2 ≤ k ∧ k < 10 ^ 200) ∧ ns.length ≤ 5000
theorem num_len {k : Int} (h0 : 0 ≤ k) (h : k < 10 ^ 200) : (TL.numL k.toNat).length ≤ 200 := by
  have e : ((10 : Int) ^ 200) = ((10 ^ 200 : Nat) : Int) := by norm_cast
  refine TL.numL_len (by decide) ?_
  rw [e] at h
  omega
theorem lt5 {n : Nat} (h : n ≤ 5000) : n < sizeLine := by
  rw [sizeLine_eq]
  omega
theorem num_len3 {t : Nat} (h : t ≤ 5000) : (TL.numL t).length ≤ 4 := TL.numL_len (by decide) (by omega)
theorem Nice.grp {ns : List Int} (h : Nice ns) : GrpOk (fun k => 2 ≤ k ∧ k < 10 ^ 200) 5000 (grp ns) := fun p hp => by
  have := grp_ok h.1 p hp
  have l := h.2
  exact ⟨this.1, this.2.1, by omega⟩
theorem wrd_len {k : Int} {t : Nat} (h0 : 0 ≤ k) (h : k < 10 ^ 200) (ht : t ≤ 5000) : (wrd k.toNat t).length ≤ 205 := by
  have a := num_len h0 h
  have b := num_len3 ht
  unfold wrd
  split
  · rw [List.length_append, List.length_cons]
    omega
  · omega
theorem join_len (s : List Nat) : ∀ ws : List (List Nat), (TL.joinL s ws).length ≤ (ws.map (·.length)).sum + ws.length * s.length
  | [] => by simp [TL.joinL]
  | [p] => by simp [TL.joinL]
  | p :: q :: r => by
    have ih := join_len s (q :: r)
    simp only [TL.joinL, List.length_append, List.map_cons, List.sum_cons, List.length_cons] at ih ⊢
    have : (r.length + 1 + 1) * s.length = (r.length + 1) * s.length + s.length := by rw [Nat.add_mul (r.length + 1) 1]; omega
    omega
theorem sum_le {b : Nat} : ∀ {ws : List (List Nat)}, (∀ w ∈ ws, w.length ≤ b) → (ws.map (·.length)).sum ≤ ws.length * b
  | [], _ => by simp
  | w :: r, h => by
    have a := h w (List.mem_cons_self ..)
    have c := sum_le (ws := r) fun x hx => h x (List.mem_cons_of_mem _ hx)
    rw [List.map_cons, List.sum_cons, List.length_cons, Nat.add_mul]
    omega
theorem Nice.words {ns : List Int} (h : Nice ns) : (∀ w ∈ wrds ns, w.length ≤ 205) ∧ (wrds ns).length ≤ 5000 := by
  refine ⟨fun w hw => ?_, ?_⟩
  · obtain ⟨p, hp, rfl⟩ := List.mem_map.mp hw
    obtain ⟨a, b, c⟩ := h.grp p hp
    exact wrd_len (by omega) a.2 c
  · unfold wrds
    rw [List.length_map]
    exact Nat.le_trans (grp_len ns) h.2
theorem Nice.len {ns : List Int} (h : Nice ns) : (showL ns).length ≤ 1050000 := by
  obtain ⟨a, b⟩ := h.words
  unfold showL
  split
  · decide
  · have c := join_len [44, 32] (wrds ns)
    have d := sum_le a
    have e := Nat.mul_le_mul_right 205 b
    have f : (wrds ns).length * ([44, 32] : List Nat).length ≤ 5000 * 2 := Nat.mul_le_mul_right 2 b
    omega
theorem wrds_get {ns : List Int} {i : Nat} {w : List Nat} (h : (wrds ns)[i]? = some w) : ∃ p, (grp ns)[i]? = some p ∧ w = wrd p.1.toNat p.2 := by
  unfold wrds at h
  rw [List.getElem?_map] at h
  cases e : (grp ns)[i]? with
  | none =>
    rw [e] at h
    cases h
  | some p =>
    rw [e] at h
    exact ⟨p, rfl, (Option.some.inj h).symm⟩
theorem ungrp_take {ps : List (Int × Nat)} {i : Nat} {p : Int × Nat} (h : ps[i]? = some p) : ungrp (ps.take (i + 1)) = ungrp (ps.take i) ++ List.replicate p.2 p.1 := by
  rw [List.take_add_one, h, ungrp_app]
  simp [ungrp]
/-! ## the pairs in the heap -/
def Prs (H : Hp) (l : Addr) (ps : List (Int × Nat)) : Prop := ∃ ts : List Addr, H l = some (.lst (ts.map V.ref)) ∧ ts.length = ps.length ∧ ∀ (i : Nat) (t : Addr) (p : Int × Nat), ts[i]? = some t → ps[i]? = some p → H t = some (.tup [.int p.1, .int ((p.2 : Nat) : Int)])
theorem Prs.same {H H' : Hp} {l : Addr} {ps : List (Int × Nat)} (h : Prs H l ps) (s : Same H H') : Prs H' l ps := by
  obtain ⟨ts, a, b, c⟩ := h
  exact ⟨ts, s _ _ a, b, fun i t p h1 h2 => s _ _ (c i t p h1 h2)⟩
def dPs (ps : List (Int × Nat)) : PyData := .list (ps.map fun p => .tuple [.int p.1, .int ((p.2 : Nat) : Int)])
theorem dpall_prs {K : PySem.W.Frag} {H : Hp} : ∀ (ts : List Addr) (ps : List (Int × Nat)), ts.length = ps.length → (∀ (i : Nat) (t : Addr) (p : Int × Nat), ts[i]? = some t → ps[i]? = some p → H t = some (.tup [.int p.1, .int ((p.2 : Nat) : Int)])) →
    DpAll K H (ts.map V.ref) (ps.map fun p => .tuple [.int p.1, .int ((p.2 : Nat) : Int)])
  | [], [], _, _ => .nil
  | [], _ :: _, h, _ => by simp at h
  | _ :: _, [], h, _ => by simp at h
  | t :: ts, p :: ps, h, c => .cons (.tup (SqT.of (c 0 t p rfl rfl)) (.cons (.int _) (.cons (.int _) .nil))) (dpall_prs ts ps (by simpa using h) fun i t' p' h1 h2 => c (i + 1) t' p' (by simpa using h1) (by simpa using h2))
theorem dp_prs {K : PySem.W.Frag} {H : Hp} {l : Addr} {ps : List (Int × Nat)} (h : Prs H l ps) : Dp K H (.ref l) (dPs ps) := by
  obtain ⟨ts, a, b, c⟩ := h
  exact .lst (seqL_of a) (dpall_prs ts ps b c)
theorem can_prs : ∀ ps : List (Int × Nat), PyData.canLayAll0 (ps.map fun p => .tuple [.int p.1, .int ((p.2 : Nat) : Int)]) = true
  | [] => by simp [PyData.canLayAll0]
  | p :: r => by simp [PyData.canLayAll0, PyData.canLay0, can_prs r]
theorem dep_prs : ∀ ps : List (Int × Nat), PyData.depthAll (ps.map fun p => .tuple [.int p.1, .int ((p.2 : Nat) : Int)]) ≤ 1
  | [] => by simp [PyData.depthAll]
  | p :: r => by
    have := dep_prs r
    simp only [List.map_cons, PyData.depthAll, PyData.depth]
    omega
theorem shaped_prs (ps : List (Int × Nat)) : SeqAt.shaped (dPs ps) = true := by
  have := dep_prs ps
  unfold SeqAt.shaped dPs
  rw [Bool.and_eq_true, decide_eq_true_eq]
  refine ⟨by simp only [PyData.canLay0, can_prs], ?_⟩
  show PyData.depth _ ≤ 64
  rw [PyData.depth]
  omega
theorem eqv_prs0 (ps : List (Int × Nat)) : PyData.eqv (dPs ps) (dI []) = decide (ps = []) := by
  unfold dPs dI
  cases ps with
  | nil => simp [PyData.eqv, PyData.eqvAll]
  | cons a r => simp [PyData.eqv, PyData.eqvAll]
/-- found != [] -/
theorem r_nePs {K : PySem.W.Frag} {H : Hp} {l b : Addr} {ps : List (Int × Nat)} {Q : VK} (h1 : Prs H l ps) (h2 : SqL K H b (iv [])) (q : Q (.bl (!decide (ps = []))) H) : rNeQ K (.ref l) (.ref b) H Q :=
  rNeQ_of ⟨dPs ps, dI [], dp_prs h1, dp_iv h2, shaped_prs ps, shaped_dI [], by rw [eqv_prs0]; exact q⟩
theorem Prs.last {H : Hp} {l : Addr} {ps : List (Int × Nat)} {a : Int} {c : Nat} (h : Prs H l ps) (e : ps.getLast? = some (a, c)) :
    ∃ (ts : List Addr) (t : Addr) (j : Nat), H l = some (.lst (ts.map V.ref)) ∧ ixN (ts.map V.ref).length (-1) = some j ∧ atI (ts.map V.ref) (-1) = some (.ref t) ∧ H t = some (.tup [.int a, .int ((c : Nat) : Int)]) ∧
      ∀ (T : Addr) (k : Int) (H' : Hp), (∀ b o, b ≠ l → H b = some o → H' b = some o) → H' T = some (.tup [.int k, .int (((c + 1 : Nat) : Nat) : Int)]) → H' l = some (.lst ((ts.map V.ref).set j (.ref T))) → Prs H' l (ps.dropLast ++ [(k, c + 1)]) := by
  obtain ⟨ts, h1, h2, h3⟩ := h
  have ep := last_split e
  have lp := congrArg List.length ep
  simp only [List.length_append, List.length_singleton, List.length_dropLast] at lp
  have hpos : 0 < ts.length := by omega
  have lt : ts.length - 1 < ts.length := by omega
  have ix : ixN (ts.map V.ref).length (-1) = some (ts.length - 1) := by
    rw [List.length_map]
    unfold ixN
    rw [if_neg (by omega)]
    rw [if_pos (by omega)]
    congr 1
    omega
  have eg : ps[ts.length - 1]? = some (a, c) := by
    rw [h2, ep]
    simp
  refine ⟨ts, ts[ts.length - 1], ts.length - 1, h1, ix, ?_, h3 _ _ _ (List.getElem?_eq_getElem lt) eg, fun T k H' keep hT hl => ?_⟩
  · unfold atI
    rw [ix]
    show (ts.map V.ref)[ts.length - 1]? = _
    rw [List.getElem?_map, List.getElem?_eq_getElem lt]
    rfl
  · refine ⟨ts.set (ts.length - 1) T, by rw [hl, List.map_set], by rw [List.length_set, List.length_append, List.length_dropLast, List.length_singleton]; omega, fun i t p ht hp => ?_⟩
    have li : i < ts.length := by
      have := (List.getElem?_eq_some_iff.mp ht).1
      rw [List.length_set] at this
      exact this
    by_cases z : i = ts.length - 1
    · subst z
      rw [List.getElem?_set_self lt] at ht
      have et : T = t := Option.some.inj ht
      rw [List.getElem?_append_right (by rw [List.length_dropLast]; omega), List.length_dropLast, show ts.length - 1 - (ps.length - 1) = 0 by omega] at hp
      have epp : (k, c + 1) = p := by simpa using hp
      rw [← et, ← epp]
      exact hT
    · rw [List.getElem?_set_ne (by omega)] at ht
      rw [List.getElem?_append_left (by rw [List.length_dropLast]; omega), List.getElem?_dropLast, if_pos (by omega)] at hp
      have old := h3 i t p ht hp
      refine keep t _ (fun e => ?_) old
      rw [e, h1] at old
      cases old
theorem Prs.snoc {H H' : Hp} {l : Addr} {ps : List (Int × Nat)} {k : Int} (h : Prs H l ps) : ∃ ts : List Addr, H l = some (.lst (ts.map V.ref)) ∧ ts.length = ps.length ∧
    ∀ (T : Addr) (H' : Hp), (∀ b o, b ≠ l → H b = some o → H' b = some o) → H' T = some (.tup [.int k, .int ((1 : Nat) : Int)]) → H' l = some (.lst (ts.map V.ref ++ [.ref T])) → Prs H' l (ps ++ [(k, 1)]) := by
  obtain ⟨ts, h1, h2, h3⟩ := h
  refine ⟨ts, h1, h2, fun T H' keep hT hl => ⟨ts ++ [T], by rw [hl]; simp, by simp [h2], fun i t p ht hp => ?_⟩⟩
  by_cases z : i < ts.length
  · rw [List.getElem?_append_left z] at ht
    rw [List.getElem?_append_left (by omega)] at hp
    have old := h3 i t p ht hp
    refine keep t _ (fun e => ?_) old
    rw [e, h1] at old
    cases old
  · have li : i = ts.length := by
      have := (List.getElem?_eq_some_iff.mp ht).1
      simp at this
      omega
    subst li
    rw [List.getElem?_append_right (Nat.le_refl _), Nat.sub_self] at ht
    rw [h2, List.getElem?_append_right (Nat.le_refl _), Nat.sub_self] at hp
    have et : T = t := by simpa using ht
    have ep : (k, 1) = p := by simpa using hp
    rw [← et, ← ep]
    exact hT
theorem show_short {ns : List Int} (h : Nice ns) {n : Nat} (hn : ns.length ≤ n) : (showL ns).length ≤ n * 207 + 4 := by
  obtain ⟨a, b⟩ := h.words
  unfold showL
  split
  · show 4 ≤ _
    omega
  · have c := join_len [44, 32] (wrds ns)
    have d := sum_le a
    have l : (wrds ns).length ≤ n := by
      unfold wrds
      rw [List.length_map]
      exact Nat.le_trans (grp_len ns) hn
    have e := Nat.mul_le_mul_right 205 l
    have f : (wrds ns).length * ([44, 32] : List Nat).length ≤ n * 2 := Nat.mul_le_mul_right 2 l
    omega
theorem fold_rep (k : Int) : ∀ (c : Nat) (gs : List (Int × Nat)) (t : Nat), (List.replicate c k).foldl grpS (gs ++ [(k, t)]) = gs ++ [(k, t + c)]
  | 0, gs, t => by simp
  | c + 1, gs, t => by
    have e : grpS (gs ++ [(k, t)]) k = gs ++ [(k, t + 1)] := by
      unfold grpS
      simp
    rw [List.replicate_succ, List.foldl_cons, e, fold_rep k c gs (t + 1), show t + 1 + c = t + (c + 1) by omega]
theorem grp_add {ns : List Int} {gs : List (Int × Nat)} {k : Int} {c : Nat} (h : grp ns = gs) (hl : ∀ a t, gs.getLast? = some (a, t) → a ≠ k) (hc : 1 ≤ c) : grp (ns ++ List.replicate c k) = gs ++ [(k, c)] := by
  obtain ⟨c', rfl⟩ : ∃ c', c = c' + 1 := ⟨c - 1, by omega⟩
  unfold grp at h ⊢
  rw [List.foldl_append, h, List.replicate_succ, List.foldl_cons]
  have e : grpS gs k = gs ++ [(k, 1)] := by
    unfold grpS
    cases el : gs.getLast? with
    | none =>
      have : gs = [] := List.getLast?_eq_none_iff.mp el
      subst this
      rfl
    | some q =>
      obtain ⟨a, t⟩ := q
      simp only
      rw [if_neg (hl a t el)]
  rw [e, fold_rep k c' gs 1, show 1 + c' = c' + 1 by omega]
theorem grp_two {o : Int} {m : Nat} (h : 1 ≤ m) : grp ((o + 1) :: List.replicate m o) = [(o + 1, 1), (o, m)] :=
  grp_add (ns := [o + 1]) (gs := [(o + 1, 1)]) rfl (fun a t e => by
    have : a = o + 1 := by
      have := congrArg (Option.map Prod.fst) e
      simpa using this.symm
    omega) h
theorem show_two {o : Int} {m : Nat} (h : 2 ≤ m) : showL ((o + 1) :: List.replicate m o) = TL.numL (o + 1).toNat ++ ([44, 32] ++ (TL.numL o.toNat ++ 94 :: TL.numL m)) := by
  unfold showL wrds
  rw [if_neg (by simp), grp_two (by omega)]
  simp only [List.map_cons, List.map_nil, TL.joinL]
  unfold wrd
  rw [if_neg (by decide), if_pos (by omega)]
end Sq


set_option Elab.async false
set_option maxRecDepth 100000
set_option maxHeartbeats 4000000
namespace PySem.HandSPX
open PySem PySem.Spec PySem.W PySem.Calls PyProof.Rows
/-! ## an own exception made by a keyword: C(k = u) -/
section
variable {M : Model} {A : Around} {E : Value → Shared → Prop} {h : Heap} {g : Array GenState} {d : Drawn} {t : Nat} {os : OsState}
variable {nm q : Str} {C N : Addr} {bs bm bmB : List Value} {hdct : Bool} {sn : List Str} {sub : List Value} {ab : Bool} {col : Option Bool} {dd : Option Addr} {k0 k1 k2 k3 k5 : Option Value} {B newId initId : String}
theorem check_newK (F : ExcBaseFacts B newId initId bmB) (hT : ∀ X : String, bm.contains (.type X) = bmB.contains (.type X)) {ky : Str} {u : Value} {Q : Unit → Shared → Prop}
    (hC : h.get? C = some (excClassObj nm q C N bs bm hdct sn sub ab col dd k0 k1 k2 k3 k5 newId)) (hq : Q () ⟨h, g, d, t, os⟩) : wpAny M A (checkBuiltinCall newId ⟨[.ref C], [(ky, u)]⟩) Q E ⟨h, g, d, t, os⟩ := by
  have hcont : (Value.ref C :: bm).contains (.type B) = true := by rw [List.contains_cons, hT, F.hasB, Bool.or_true]
  have hstar := F.noStar
  simp only [checkBuiltinCall, F.newKind, F.newSplit, F.newRow]
  repeat (first | refine wpAny_loadPart_at hC ?_ | (refine wpAny_isSubtype_exc hC ?_; rw [hcont]) | refine wpAny_staticBase_exc hC ?_ | refine wpAny_madeBy_exc hC ?_ | simp only [bne_self_eq_false, Bool.false_eq_true, if_false] | wp_step)
  exact hq
end
section
variable {prog : Program} {w : World} {A : Around} {E : Value → Shared → Prop} {R : Result → Shared → Prop} {h : Heap} {g : Array GenState} {d : Drawn} {t : Nat} {os : OsState}
variable {nm q : Str} {C N : Addr} {bs bm bmB : List Value} {hdct : Bool} {sn : List Str} {sub : List Value} {ab : Bool} {col : Option Bool} {dd : Option Addr} {k0 k1 k2 k3 k5 : Option Value} {B newId initId : String}
theorem newK (F : ExcBaseFacts B newId initId bmB) (hT : ∀ X : String, bm.contains (.type X) = bmB.contains (.type X)) {ky : Str} {u : Value}
    (hC : h.get? C = some (excClassObj nm q C N bs bm hdct sn sub ab col dd k0 k1 k2 k3 k5 newId))
    (hq : R (.ok (.ret (.ref (h.objs.size + 1)))) ⟨(h.push { cls := .type "tuple", data := .seq ([] : List Value).toArray }).push
      { cls := .ref C, data := .fields #[.ref h.objs.size, .none, .none, .none, .bool false, .none] }, g, d, t, os⟩) :
    codeAny (model prog w) A (.builtin newId ⟨[.ref C], [(ky, u)]⟩) R ⟨h, g, d, t, os⟩ := by
  have hends := F.ends
  have hcB : (Value.ref C :: bm).contains (.type B) = true := by rw [List.contains_cons, hT, F.hasB, Bool.or_true]
  have hcA : (Value.ref C :: bm).contains (.type "AttributeError") = false := by rw [List.contains_cons, hT, F.noAttr]; rfl
  have hcN : (Value.ref C :: bm).contains (.type "NameError") = false := by rw [List.contains_cons, hT, F.noName]; rfl
  refine codeAny_builtinAt F.entry ?_
  unfold Builtin.«BaseException.__new__»
  refine wpAt_bind ?_
  show wpAt _ _ _ (stack >>= _) _ _ _
  refine wpAt_bind (wpAt_stack fun p below => wpAt_of_wpAny ?_)
  wp_walk
  refine wpAt_of_wpAny ?_
  rw [F.owner]
  repeat (first | with_reducible refine wpAny_madeHere_exc F.canon hC ?_ | with_reducible refine wpAny_loadPart_at hC ?_ | (with_reducible refine wpAny_isSubtype_exc hC ?_; first | rw [hcB] | rw [hcA] | rw [hcN]) | wp_step)
  show R _ _
  rw [Heap.size_push]
  exact hq
theorem type_callK (F : ExcBaseFacts B newId initId bmB) (hT : ∀ X : String, bm.contains (.type X) = bmB.contains (.type X)) {ky : Str} {u : Value} {fI : Addr} {Q : Fin → Shared → Prop}
    (hC : h.get? C = some (excClassObj nm q C N bs bm hdct sn sub ab col dd k0 k1 k2 k3 k5 newId))
    (hi : W.Looks (model prog w) h (typeLookup (.ref C) "__init__") (some (.ref fI))) (hb : ∀ self, W.Looks (model prog w) h (bindSpecial (.ref fI) self) (.ref fI, [self]))
    (hq : codeAny (model prog w) A (.call (.ref fI) ⟨[.ref (h.objs.size + 1)], [(ky, u)]⟩)
      (fun r s' => match r with | .ok (.ret v) => v = .none ∧ Q (.done (.ret (.ref (h.objs.size + 1)))) s' | .ok _ => False | .error e => E e s')
      ⟨(h.push (W.kdv_tup [])).push (excO C h.objs.size), g, d, t, os⟩) :
    wpAny (model prog w) A (Builtin.«type.__call__» ⟨[.ref C], [(ky, u)]⟩) Q E ⟨h, g, d, t, os⟩ := by
  repeat (first | with_reducible refine wpAny_loadPart_at hC ?_ | with_reducible refine wpAny_madeBy_exc hC ?_ | wp_step)
  refine codeAny_call_builtin_code (Code.quiet_builtin _ F.quiet) (check_newK F hT hC ?_)
  refine newK F hT hC ?_
  show wpAny _ _ _ _ _ _
  have k : ∀ b o, h.get? b = some o → ((h.push (W.kdv_tup [])).push (excO C h.objs.size)).get? b = some o := fun b o e => Heap.get?_push_of_some _ (Heap.get?_push_of_some _ e)
  have hC₁ := k _ _ hC
  have hget : ((h.push (W.kdv_tup [])).push (excO C h.objs.size)).get? (h.objs.size + 1) = some (excO C h.objs.size) := by heap_get
  have hcC : (Value.ref C :: bm).contains (.ref C) = true := by simp
  have i1 := hi.keeps k
  have b1 := (hb (.ref (h.objs.size + 1))).keeps k
  unfold isInstance
  repeat (first | with_reducible refine wpAny_loadPart_at hget ?_ | (with_reducible refine wpAny_isSubtype_exc hC₁ ?_; rw [hcC]) | wp_step)
  show wpAny _ _ (typeLookup (.ref C) _) _ _ _
  refine i1.at ?_
  refine wpAny_holding (wpAny_bind (b1.at ?_))
  refine wpAny_bind (wpAny_call (codeAny_mono hq fun r s' z => ?_))
  rcases r with e | (v | _ | _ | _) <;> first | exact z | exact z.elim | skip
  obtain ⟨rfl, z⟩ := z
  first
    | exact wpAny_pure (wpAny_pure z)
    | (wp_walk; exact z)
theorem call_ownK (F : ExcBaseFacts B newId initId bmB) (hT : ∀ X : String, bm.contains (.type X) = bmB.contains (.type X)) {ky : Str} {u : Value} {fI : Addr}
    (hC : h.get? C = some (excClassObj nm q C N bs bm hdct sn sub ab col dd k0 k1 k2 k3 k5 newId))
    (hi : W.Looks (model prog w) h (typeLookup (.ref C) "__init__") (some (.ref fI))) (hb : ∀ self, W.Looks (model prog w) h (bindSpecial (.ref fI) self) (.ref fI, [self]))
    (hq : codeAny (model prog w) (A.under (.builtin "type.__call__" ⟨[.ref C], [(ky, u)]⟩)) (.call (.ref fI) ⟨[.ref (h.objs.size + 1)], [(ky, u)]⟩) (W.InitBack (h.objs.size + 1) R)
      ⟨(h.push (W.kdv_tup [])).push (excO C h.objs.size), g, d, t, os⟩) :
    codeAny (model prog w) A (.call (.ref C) ⟨[], [(ky, u)]⟩) R ⟨h, g, d, t, os⟩ := by
  have f1 := tc_lookup
  have f2 := tc_bind (.ref C)
  have hTy : (⟨h, g, d, t, os⟩ : Shared).TypeIs (.ref C) "type" := ⟨_, hC, rfl⟩
  refine codeAny_of_tree ?_
  show wpAny _ _ (callAny (.ref C) _) _ _ _
  repeat (any_goals (first | assumption | with_reducible refine wpAny_loadPart_at hC ?_ | wp_step))
  refine ⟨rfl, ?_⟩
  refine codeAny_call_builtin_at (Code.quiet_builtin _ (by decide +kernel)) entry_typeCall (wpAny_check_type_call_sub hC (type_callK F hT hC hi hb ?_))
  refine codeAny_mono hq fun r s' z => ?_
  rcases r with e | (v | _ | _ | _) <;> exact z
end
end PySem.HandSPX

namespace Sq
open PySem PySem.Spec PyProof.Rows L2
/-! ## an own exception as a value: C(e), C(value = e) -/
structure OwnX (P : Program) (w : World) (K : PySem.W.Frag) (mg : Str → Option Value) (base : Heap) (k : Nat) (x : Str) (C : Addr) : Prop where
  ex : ∃ (f : Addr) (fd : FuncData), OexC K C ∧ PySem.W.findIn K (.ref C) "__init__" = some (some (.ref f)) ∧ PySem.W.typeIn K (.ref f) = some (.type "function") ∧ FnOk P w K mg base CX0 k f fd ["self", "value"] (spXI C) ∧ mg x = some (.ref C) ∧ L2.Binds K fd ["self", "value"] [] ∧
    ∀ (s : Shared) (u v : Value), BindsTo s fd ⟨[u], [("value", v)]⟩ ((["self", "value"] : List Str).zip [u, v])
def tOex (C : Addr) (te : TE) : TE := fun σ H Q => te σ H fun v H1 => ∀ a d, H1 a = none → H1 d = none → d ≠ a → Q (.ref a) (upd (upd H1 d (exd d [("value", v)])) a (exo a C (some d)))
theorem xi_sp {C a : Addr} {v : V} {H : Hp} {Q : VK} {E : XK} (na : H a = none) (q : ∀ a d, H a = none → H d = none → d ≠ a → Q (.ref a) (upd (upd H d (exd d [("value", v)])) a (exo a C (some d)))) :
    spXI C [.ref a, v] (upd H a (exo a C none)) (fun x H2 => x = .non ∧ Q (.ref a) H2) E := by
  refine ⟨a, v, rfl, upd_same, fun dx nd ne => ⟨rfl, ?_⟩⟩
  rw [upd_ne ne] at nd
  have e : upd (upd (upd H a (exo a C none)) dx (exd dx [("value", v)])) a (exo a C (some dx)) = upd (upd H dx (exd dx [("value", v)])) a (exo a C (some dx)) := by
    funext b
    by_cases h1 : b = a
    · rw [h1, upd_same, upd_same]
    · rw [upd_ne h1, upd_ne h1]
      by_cases h2 : b = dx
      · rw [h2, upd_same, upd_same]
      · rw [upd_ne h2, upd_ne h2, upd_ne h1]
  rw [e]
  exact q a dx na nd ne
section
variable {X : Cx} {k j : Nat} {C : Addr} {x : Str} {p pos : Pos} {e : Expr} {te : TE} {kws : List Keyword} {t : TA}
theorem pe_oex (c : OwnX X.prog X.w X.K X.mg X.base k x C) (hr : Room j X.A) (hk : k + 1 ≤ j) (hg : Gl X x) (ha : PE X e te)
    (hdb : (x == ("__debug__" : Str)) = false := by decide) (he : starEach [e] X.env = (false, eval e X.env) :: starEach [] X.env := by rfl) (hpl : (backTo pos (starEach [] X.env)).any (·.1) = false := by rfl) : PE X (.Call (.Name x p) [e] [] pos) (tOex C te) := by
  obtain ⟨f, fd, T, iC, tI, FO, hm, b, bk⟩ := c.ex
  obtain ⟨nm, q, N, bs, bm, sn, sub, ab, col, dd, k0, k1, k2, k3, k5, hC, hbm⟩ := T.cls
  refine ⟨fun pins s σ H Q I h => wpAny_Call_Name_kw (ld_glob I hg hm ?_ hdb)⟩
  have pa : PA X [e] (tCons (tWk te) tNil) := pa_cons (pe_wk ha) pa_nil he
  refine PySem.W.callWith_K (h₀ := X.base) I.ok.mod.kin T.kC (thn (pa.run pos pins s σ H (fun vs H1 => ∃ v, vs = [v] ∧ ∀ a d, H1 a = none → H1 d = none → d ≠ a → Q (.ref a) (upd (upd H1 d (exd d [("value", v)])) a (exo a C (some d)))) I ⟨_, h, fun v G q => ⟨v, rfl, q⟩⟩) fun us s1 hh => ?_) he hpl
  obtain ⟨vs, H1, I1, r1, v, rfl, q1⟩ := hh
  obtain ⟨u, rfl, ru⟩ := r1.one
  refine ⟨I1.kIn, ?_⟩
  show wpAny _ _ (call (.ref C) [u]) _ _ _
  obtain ⟨hp, g, dr, tk, os⟩ := s1
  have hsz : hp.objs.size ≤ hp.objs.size + 1 := Nat.le_succ _
  have hn : H1 (hp.objs.size + 1) = none := I1.hok.fresh hsz
  have kk : ∀ b o, hp.get? b = some o → ((hp.push (PySem.W.kdv_tup [u])).push (PySem.HandSPX.excO C hp.objs.size)).get? b = some o := fun b o e => Heap.get?_push_of_some _ (Heap.get?_push_of_some _ e)
  have hget : ((hp.push (PySem.W.kdv_tup [u])).push (PySem.HandSPX.excO C hp.objs.size)).get? (hp.objs.size + 1) = some (PySem.HandSPX.excO C hp.objs.size) := by heap_get
  have I2 : Inv X pins σ (upd H1 (hp.objs.size + 1) (exo (hp.objs.size + 1) C none)) ⟨(hp.push (PySem.W.kdv_tup [u])).push (PySem.HandSPX.excO C hp.objs.size), g, dr, tk, os⟩ :=
    I1.laid (t' := tk) (a := hp.objs.size + 1) (o := exo (hp.objs.size + 1) C none) (h' := (hp.push (PySem.W.kdv_tup [u])).push (PySem.HandSPX.excO C hp.objs.size)) kk hsz (exo_ok hget)
  have r2 : Vals [V.ref (hp.objs.size + 1), v] [Value.ref (hp.objs.size + 1), u] := .cons rfl (.cons ru .nil)
  have hq := xi_sp (E := E0) hn q1
  have bb := b _ [Value.ref (hp.objs.size + 1), u] I2.kIn rfl
  refine wpAny_call (PySem.HandSPX.call_own F.excBase_ValueError (fun Y => PySem.HandSPX.refsVE_contains Y bm hbm) (I1.kIn _ _ hC) (PySem.W.looks_findIn I1.kIn iC) (fun self => PySem.W.bind_fn I1.kIn self tI) (lit_len (Nat.le_of_ble_eq_true rfl))
    (codeAny_mono (FO.run _ X.stack _ _ ⟨[Value.ref (hp.objs.size + 1), u], []⟩ [Value.ref (hp.objs.size + 1), u] _ _ E0 ((hr.mono hk).make C [u] []) (I2.env0.make C [u] []) bb r2 hq) fun r s' hq' => ?_))
  cases r with
  | error er => exact False.elim hq'
  | ok fl =>
    cases fl with
    | ret u =>
      obtain ⟨v, H', I3, rv, ev, q3⟩ := I2.after hq'
      subst ev
      exact ⟨rv, ⟨V.ref (hp.objs.size + 1), H', I3, rfl, q3⟩⟩
    | next => exact False.elim hq'
    | brk => exact False.elim hq'
    | cont => exact False.elim hq'
theorem pe_oexK {kpos : Pos} (c : OwnX X.prog X.w X.K X.mg X.base k x C) (hr : Room j X.A) (hk : k + 1 ≤ j) (hg : Gl X x) (ha : PE X e te)
    (hall : (backToKw pos (keywordEach [⟨some "value", e, kpos⟩] X.env)).all (·.1.isSome) = true := by rfl) (hks : (backToKw pos (keywordEach [⟨some "value", e, kpos⟩] X.env)).filterMap (·.1) = (["value"] : List Str) := by rfl) (hdb : (x == ("__debug__" : Str)) = false := by decide)
    (hpl : ((backTo pos (starEach [] X.env)).any (·.1) || (backToKw pos (keywordEach [⟨some "value", e, kpos⟩] X.env)).any (·.1.isNone)) = false := by rfl) : PE X (.Call (.Name x p) [] [⟨some "value", e, kpos⟩] pos) (tOex C te) := by
  obtain ⟨f, fd, T, iC, tI, FO, hm, b, bk⟩ := c.ex
  obtain ⟨nm, q, N, bs, bm, sn, sub, ab, col, dd, k0, k1, k2, k3, k5, hC, hbm⟩ := T.cls
  have pk : PK X [⟨some "value", e, kpos⟩] (tCons (tWk te) tNil) := pk_cons (pe_wk ha) pk_nil
  refine ⟨fun pins s σ H Q I h => wpAny_Call_Name_kw (ld_glob I hg hm (PySem.W.callWith_KW0 (h₀ := X.base) I.ok.mod.kin T.kC hall (thn (pk.run pos pins s σ H (fun vs H1 => ∃ v, vs = [v] ∧ ∀ a d, H1 a = none → H1 d = none → d ≠ a → Q (.ref a) (upd (upd H1 d (exd d [("value", v)])) a (exo a C (some d)))) I ⟨_, h, fun v G q => ⟨v, rfl, q⟩⟩) fun us s1 hh => ?_) hpl) hdb)⟩
  obtain ⟨vs, H1, I1, r1, v, rfl, q1⟩ := hh
  obtain ⟨u, rfl, ru⟩ := r1.one
  refine ⟨I1.kIn, ?_⟩
  rw [hks]
  show wpAny _ _ (call (.ref C) [] [("value", u)]) _ _ _
  obtain ⟨hp, g, dr, tk, os⟩ := s1
  have hsz : hp.objs.size ≤ hp.objs.size + 1 := Nat.le_succ _
  have hn : H1 (hp.objs.size + 1) = none := I1.hok.fresh hsz
  have kk : ∀ b o, hp.get? b = some o → ((hp.push (PySem.W.kdv_tup [])).push (PySem.HandSPX.excO C hp.objs.size)).get? b = some o := fun b o e => Heap.get?_push_of_some _ (Heap.get?_push_of_some _ e)
  have hget : ((hp.push (PySem.W.kdv_tup [])).push (PySem.HandSPX.excO C hp.objs.size)).get? (hp.objs.size + 1) = some (PySem.HandSPX.excO C hp.objs.size) := by heap_get
  have I2 : Inv X pins σ (upd H1 (hp.objs.size + 1) (exo (hp.objs.size + 1) C none)) ⟨(hp.push (PySem.W.kdv_tup [])).push (PySem.HandSPX.excO C hp.objs.size), g, dr, tk, os⟩ :=
    I1.laid (t' := tk) (a := hp.objs.size + 1) (o := exo (hp.objs.size + 1) C none) (h' := (hp.push (PySem.W.kdv_tup [])).push (PySem.HandSPX.excO C hp.objs.size)) kk hsz (exo_ok hget)
  have r2 : Vals [V.ref (hp.objs.size + 1), v] [Value.ref (hp.objs.size + 1), u] := .cons rfl (.cons ru .nil)
  have hq := xi_sp (E := E0) hn q1
  refine wpAny_call (PySem.HandSPX.call_ownK F.excBase_ValueError (fun Y => PySem.HandSPX.refsVE_contains Y bm hbm) (I1.kIn _ _ hC) (PySem.W.looks_findIn I1.kIn iC) (fun self => PySem.W.bind_fn I1.kIn self tI)
    (codeAny_mono (FO.run _ X.stack _ _ ⟨[Value.ref (hp.objs.size + 1)], [("value", u)]⟩ [Value.ref (hp.objs.size + 1), u] _ _ E0 ((hr.mono hk).make C [] [("value", u)]) (I2.env0.make C [] [("value", u)]) (bk _ _ _) r2 hq) fun r s' hq' => ?_))
  cases r with
  | error er => exact False.elim hq'
  | ok fl =>
    cases fl with
    | ret u =>
      obtain ⟨v, H', I3, rv, ev, q3⟩ := I2.after hq'
      subst ev
      exact ⟨rv, ⟨V.ref (hp.objs.size + 1), H', I3, rfl, q3⟩⟩
    | next => exact False.elim hq'
    | brk => exact False.elim hq'
    | cont => exact False.elim hq'
end
theorem kept_own {H : Hp} {a C d : Addr} {v : V} (na : H a = none) (nd : H d = none) (ne : d ≠ a) : Kept (upd (upd H d (exd d [("value", v)])) a (exo a C (some d))) a C [("value", v)] := ⟨d, .inr ⟨upd_same, upd_off ne upd_same⟩⟩
theorem own_mk {P : Program} {w : World} {K : PySem.W.Frag} {h base : Heap} {mg : Str → Option Value} {x : Str} {C f cc cda N : Addr} {nm q qual m file : Str} {bs bm sub : List Value} {sn : List Str} {ab : Bool} {col : Option Bool} {dd cld cdd od an : Option Addr} {k0 k1 k2 k3 k5 : Option Value}
    {cl ccl oc kV doc pm ct : Value} {csl ccs osl : Array (Option Value)} {cvs : Array Value} {tf : Tok} {p0 p1 p2 p3 p4 p5 p6 p7 p8 p9 q0 q1 : Pos} (X : K.In h) (G : h.Ns mainGlobals mg) (hm : mg x = some (.ref C))
    (lC : K.lookup C = some (excClassObj nm q C N bs bm true sn sub ab col dd k0 k1 k2 k3 k5 "ValueError.__new__")) (rC : PySem.HandSPX.refsVE bm = true) (sa : PySem.W.findIn K (.ref C) "__setattr__" = some (some (.builtin "object.__setattr__")))
    (ex : PySem.W.subIn K (.ref C) (.type "BaseException") = some true) (ty : PySem.W.typeIn K (.ref C) = some (.type "type")) (kc : PySem.W.keepIn K (.ref C) = true)
    (ini : PySem.W.findIn K (.ref C) "__init__" = some (some (.ref f))) (tyf : PySem.W.typeIn K (.ref f) = some (.type "function"))
    (l : K.lookup f = some ⟨oc, od, .func (PySem.W.ksFn "__init__" qual (xiArgs q0 q1) (xiBody m p0 p1 p2 p3 p4 p5 p6 p7 p8 p9) xiScope .none kV doc pm an (.ref cda) ct cc), osl⟩)
    (co : PySem.W.codeIn K (.ref cda) qual = true) (cell : K.lookup cc = some ⟨cl, cld, .cell (some (.ref C)), csl⟩) (rec_ : K.lookup cda = some ⟨ccl, cdd, .fields cvs, ccs⟩) (v2 : cvs[2]? = some (.str file tf)) (fl : ((P.main.file : Str) == file) = true)
    (top : (P.main.scope.names.lookup ("super" : Str)).isSome = false) (opq : PySem.W.nsIn K PySem.cStatics "thirdparty.any" = some none) (sup : PySem.W.ks_superIn K C C "__init__" = some (some (.builtin "ValueError.__init__"))) (veb : PySem.W.subIn K (.ref C) (.type "ValueError") = some true)
    (slf : PySem.W.mroIn K C (.ref C) = some true) (val : PySem.W.findIn K (.ref C) "value" = some none) (ms : PySem.W.nsIn K mainGlobals "super" = some none) (he : XiCall qual f cc cda m p0 p1 p2 p3 p4)
    (hb : ∀ us : List Value, us.length = 2 → bindArgs (PySem.W.ksFn "__init__" qual (xiArgs q0 q1) (xiBody m p0 p1 p2 p3 p4 p5 p6 p7 p8 p9) xiScope .none kV doc pm an (.ref cda) ct cc) ⟨us, []⟩ = pure ((["self", "value"] : List Str).zip us))
    (hbk : ∀ u v : Value, bindArgs (PySem.W.ksFn "__init__" qual (xiArgs q0 q1) (xiBody m p0 p1 p2 p3 p4 p5 p6 p7 p8 p9) xiScope .none kV doc pm an (.ref cda) ct cc) ⟨[u], [("value", v)]⟩ = pure ((["self", "value"] : List Str).zip [u, v])) : OwnX P w K mg base 1 x C :=
  ⟨f, _, ⟨⟨nm, q, N, bs, bm, sn, sub, ab, col, dd, k0, k1, k2, k3, k5, lC, rC⟩, sa, ex, ty, kc⟩, ini, tyf,
    ok_xi ⟨⟨nm, q, N, bs, bm, sn, sub, ab, col, dd, k0, k1, k2, k3, k5, lC, rC⟩, sa, ex, ty, kc⟩ ⟨co, ⟨cl, cld, csl, cell⟩, ⟨ccl, cdd, cvs, ccs, tf, rec_, v2⟩, fl, top, opq, sup, veb, slf, val⟩ l (PySem.W.mg_none_of X G ms) he, hm, L2.Binds.all hb, fun _ u v => .of_eq (hbk u v)⟩
/-! ## repr of any plain value -/
@[irreducible] def rReprV (K : PySem.W.Frag) : List V → Hp → VK → Prop := fun xs H Q => ∃ (x : V) (d : PyData), xs = [x] ∧ Dp K H x d ∧ d.showable = true ∧ d.hasDict = false ∧ d.depth ≤ 30 ∧ d.shown.length ≤ sizeLine ∧ Q (.str d.shown) H
theorem call_reprVK {X : Cx} {K : PySem.W.Frag} (hG : X.A.guards = some []) (hu : X.A.units + 64 < cLine) (h : X.K = K := by rfl) : CallR X (.builtin "repr") (rReprV K) := by
  subst h
  intro pins s σ H xs us Q I r h
  unfold rReprV at h
  obtain ⟨x, d, rfl, hd, hs, hn, hdp, hz, q⟩ := h
  obtain ⟨v, rfl, rv⟩ := vals1 r
  have ref : ∀ a : Addr, x = .ref a → wpAny (model X.prog X.w) X.A (call (.builtin "repr") [v]) (EP X pins σ Q) X.xe s := fun a e => by
    subst e
    cases rv
    obtain ⟨as, rd⟩ := Dp.reads I d _ _ hd rfl
    refine repr_of_reads' rd hs (PyData.noDict_hsm hn) hG (by omega) (fun b o e => e) (fun h' t tk hk => ?_) hz
    exact ⟨.str d.shown, H, I.kept hk, ⟨_, rfl⟩, q⟩
  cases hd with
  | non =>
    cases rv
    simp only [PyData.shown] at q
    exact PySem.P.repr_of_none ⟨.str _, H, I.tok _, ⟨_, rfl⟩, q⟩
  | bl b =>
    cases rv
    simp only [PyData.shown] at q
    exact PySem.P.repr_of_bool ⟨.str _, H, I.tok _, ⟨_, rfl⟩, q⟩
  | int i =>
    obtain ⟨t, rfl⟩ := rv
    simp only [PyData.shown] at q
    exact PySem.P.repr_of_int (by simpa [PyData.showable] using hs) ⟨.str _, H, I.tok _, ⟨_, rfl⟩, q⟩
  | str a =>
    obtain ⟨t, rfl⟩ := rv
    simp only [PyData.shown] at q hz
    exact PySem.P.repr_of_str ⟨.str _, H, I.tok _, ⟨_, rfl⟩, q⟩ hz
  | lst h1 h2 => exact ref _ rfl
  | tup h1 h2 => exact ref _ rfl
theorem rReprV_of {K : PySem.W.Frag} {H : Hp} {x : V} {d : PyData} {Q : VK} (hd : Dp K H x d) (h1 : d.showable = true) (h2 : d.hasDict = false) (h3 : d.depth ≤ 30) (h4 : d.shown.length ≤ sizeLine) (q : Q (.str d.shown) H) : rReprV K [x] H Q := by
  unfold rReprV
  exact ⟨x, d, rfl, hd, h1, h2, h3, h4, q⟩
/-! ## text * number -/
def rRepS : R2 := fun x y H Q => ∃ (a : Str) (n : Int), x = .str a ∧ y = .int n ∧ MulOk a n ∧ Q (.str (Txt.mul a n)) H
theorem op_rep_str {X : Cx} : OpR X (binaryOp .Mult) rRepS := by
  intro pins s σ H x y v u Q I r1 r2 h
  obtain ⟨a, n, rfl, rfl, hm, q⟩ := h
  obtain ⟨t, rfl⟩ := r1
  obtain ⟨t', rfl⟩ := r2
  exact SB.mul hm fun t2 k => ⟨.str _, H, I.tok _, ⟨_, rfl⟩, q⟩
/-- a list of ints shown -/
theorem r_reprVI {K : PySem.W.Frag} {H : Hp} {a : Addr} {ns : List Int} {Q : VK} (h1 : SqL K H a (iv ns)) (hl : ns.length ≤ 5000) (hz : ∀ n ∈ ns, n.natAbs.log2 < 1920) (q : Q (.str (dI ns).shown) H) : rReprV K [.ref a] H Q := by
  refine rReprV_of (dp_iv h1) ?_ ?_ ?_ ?_ q
  · simp only [dI, PyData.showable]
    exact show_ints ns hz
  · simp only [dI, PyData.hasDict]
    exact nod_ints ns
  · simp only [dI, PyData.depth, dep_ints]
    decide
  · obtain ⟨e1, e2⟩ := shown_ints_len ns hz
    have e3 := listText_len_le (PyData.shownAll (ns.map .int))
    simp only [dI, PyData.shown]
    rw [sizeLine_eq]
    omega
theorem short_of {d : PyData} (h1 : d.leavesShort 2000 = true) (h2 : d.bulk ≤ 8000) : d.shown.length ≤ sizeLine := by
  have := PyData.shown_le_bulk 2000 (by decide) d h1
  have : (2000 + 2) * d.bulk ≤ (2000 + 2) * 8000 := Nat.mul_le_mul_left _ h2
  rw [sizeLine_eq]
  omega
/-- two texts -/
def dT2 (a b : List Nat) : PyData := .list [.str (SX.S a), .str (SX.S b)]
theorem short_str {a : List Nat} (h : ∀ c ∈ a, c < 16 ^ 8) : (PyData.str (SX.S a)).leavesShort 2000 = true := by
  simp only [PyData.leavesShort, List.all_eq_true, decide_eq_true_eq]
  exact h
theorem r_reprT2 {K : PySem.W.Frag} {H : Hp} {p : Addr} {a b : List Nat} {Q : VK} (h1 : H p = some (.lst [.str (SX.S a), .str (SX.S b)])) (ha : ∀ c ∈ a, c < 16 ^ 8) (hb : ∀ c ∈ b, c < 16 ^ 8) (la : a.length ≤ 3000) (lb : b.length ≤ 3000) (q : Q (.str (dT2 a b).shown) H) : rReprV K [.ref p] H Q := by
  refine rReprV_of (.lst (seqL_of h1) (.cons (.str _) (.cons (.str _) .nil))) ?_ ?_ ?_ ?_ q
  · simp [PyData.showable, PyData.showableAll]
  · simp [PyData.hasDict, PyData.hasDictAll]
  · simp [PyData.depth, PyData.depthAll]
  · refine short_of ?_ ?_
    · simp only [PyData.leavesShort, PyData.leavesShortAll, Bool.and_true, Bool.and_eq_true]
      exact ⟨by simpa [PyData.leavesShort] using short_str ha, by simpa [PyData.leavesShort] using short_str hb⟩
    · simp only [PyData.bulk, PyData.bulkAll]
      have e1 : a.toArray.size = a.length := SX.S_len a
      have e2 : b.toArray.size = b.length := SX.S_len b
      omega
end Sq


set_option Elab.async false
set_option maxRecDepth 100000
set_option maxHeartbeats 4000000
namespace Sq
open PySem PySem.Spec L2
/-! ### values that are shown by repr, their size bounded -/
structure DOk (k b : Nat) (d : PyData) : Prop where
  sh : d.showable = true
  nd : d.hasDict = false
  dp : d.depth ≤ k
  ls : d.leavesShort 2000 = true
  bk : d.bulk ≤ b
theorem DOk.mono {k b k' b' : Nat} {d : PyData} (h : DOk k b d) (hk : k ≤ k') (hb : b ≤ b') : DOk k' b' d := ⟨h.sh, h.nd, Nat.le_trans h.dp hk, h.ls, Nat.le_trans h.bk hb⟩
theorem dok_non : DOk 0 0 .none := ⟨by simp [PyData.showable], by simp [PyData.hasDict], by simp [PyData.depth], by simp [PyData.leavesShort], by simp [PyData.bulk]⟩
theorem dok_bl (b : Bool) : DOk 0 0 (.bool b) := ⟨by simp [PyData.showable], by simp [PyData.hasDict], by simp [PyData.depth], by simp [PyData.leavesShort], by simp [PyData.bulk]⟩
theorem dok_int {i : Int} (h : i.natAbs.log2 < 1920) : DOk 0 0 (.int i) := ⟨by simpa [PyData.showable] using h, by simp [PyData.hasDict], by simp [PyData.depth], by
  have e := int_text_length_le (k := 1920) (by decide) h
  have z : (PyData.shown (.int i)).length ≤ 2000 := by
    show (Str.ofString (toString i)).length ≤ 2000
    rw [PySem.ofString_length]
    omega
  simpa [PyData.leavesShort] using z, by simp [PyData.bulk]⟩
theorem dok_str {x : Str} {b : Nat} (h1 : (PyData.str x).leavesShort 2000 = true) (h2 : x.cps.size ≤ b) : DOk 0 b (.str x) := ⟨by simp [PyData.showable], by simp [PyData.hasDict], by simp [PyData.depth], h1, by simpa [PyData.bulk] using h2⟩
theorem dok_strS {a : List Nat} {b : Nat} (h : ∀ c ∈ a, c < 16 ^ 8) (l : a.length ≤ b) : DOk 0 b (.str (SX.S a)) := dok_str (short_str h) (by simpa [SX.S] using l)
theorem dok_all {k b : Nat} : ∀ {ds : List PyData}, (∀ d ∈ ds, DOk k b d) → PyData.showableAll ds = true ∧ PyData.hasDictAll ds = false ∧ PyData.depthAll ds ≤ k ∧ PyData.leavesShortAll 2000 ds = true ∧ PyData.bulkAll ds ≤ ds.length * (b + 1)
  | [], _ => by simp [PyData.showableAll, PyData.hasDictAll, PyData.depthAll, PyData.leavesShortAll, PyData.bulkAll]
  | d :: r, h => by
    obtain ⟨a1, a2, a3, a4, a5⟩ := dok_all (ds := r) fun x hx => h x (List.mem_cons_of_mem _ hx)
    obtain ⟨b1, b2, b3, b4, b5⟩ := h d (List.mem_cons_self ..)
    refine ⟨by simp [PyData.showableAll, a1, b1], by simp [PyData.hasDictAll, a2, b2], ?_, by simp [PyData.leavesShortAll, a4, b4], ?_⟩
    · simp only [PyData.depthAll]
      omega
    · simp only [PyData.bulkAll, List.length_cons, Nat.add_mul]
      omega
theorem dok_list {k b m : Nat} {ds : List PyData} (h : ∀ d ∈ ds, DOk k b d) (hm : ds.length * (b + 1) ≤ m) : DOk (k + 1) m (.list ds) := by
  obtain ⟨a1, a2, a3, a4, a5⟩ := dok_all h
  exact ⟨by simpa [PyData.showable] using a1, by simpa [PyData.hasDict] using a2, by simpa [PyData.depth] using a3, by simpa [PyData.leavesShort] using a4, Nat.le_trans (by simpa [PyData.bulk] using a5) hm⟩
theorem dok_tup {k b m : Nat} {ds : List PyData} (h : ∀ d ∈ ds, DOk k b d) (hm : ds.length * (b + 1) ≤ m) : DOk (k + 1) m (.tuple ds) := by
  obtain ⟨a1, a2, a3, a4, a5⟩ := dok_all h
  exact ⟨by simpa [PyData.showable] using a1, by simpa [PyData.hasDict] using a2, by simpa [PyData.depth] using a3, by simpa [PyData.leavesShort] using a4, Nat.le_trans (by simpa [PyData.bulk] using a5) hm⟩
theorem dok_dI {ns : List Int} {m : Nat} (h : ∀ n ∈ ns, n.natAbs.log2 < 1920) (hm : ns.length ≤ m) : DOk 1 m (dI ns) := by
  refine dok_list (k := 0) (b := 0) (fun d hd => ?_) (by simpa using hm)
  obtain ⟨n, hn, rfl⟩ := List.mem_map.mp hd
  exact dok_int (h n hn)
theorem rRepr_ok {K : PySem.W.Frag} {H : Hp} {x : V} {d : PyData} {k b : Nat} {Q : VK} (h : DOk k b d) (hd : Dp K H x d) (hk : k ≤ 30) (hb : b ≤ 8000) (q : Q (.str d.shown) H) : rReprV K [x] H Q :=
  rReprV_of hd h.sh h.nd (Nat.le_trans h.dp hk) (short_of h.ls (Nat.le_trans h.bk hb)) q
theorem dpall_app {K : PySem.W.Frag} {H : Hp} {x : V} {d : PyData} : ∀ {xs : List V} {ds : List PyData}, DpAll K H xs ds → Dp K H x d → DpAll K H (xs ++ [x]) (ds ++ [d])
  | [], _, h, hx => by
    cases h
    exact .cons hx .nil
  | _ :: _, _, h, hx => by
    cases h with
    | cons a b => exact .cons a (dpall_app b hx)
theorem dpall_rep {K : PySem.W.Frag} {H : Hp} {x : V} {d : PyData} (hx : Dp K H x d) : ∀ n : Nat, DpAll K H (List.replicate n x) (List.replicate n d)
  | 0 => .nil
  | n + 1 => .cons hx (dpall_rep hx n)
theorem dpall_cat {K : PySem.W.Frag} {H : Hp} : ∀ {xs ys : List V} {ds es : List PyData}, DpAll K H xs ds → DpAll K H ys es → DpAll K H (xs ++ ys) (ds ++ es)
  | [], _, _, _, h, g => by
    cases h
    exact g
  | _ :: _, _, _, _, h, g => by
    cases h with
    | cons a b => exact .cons a (dpall_cat b g)
theorem kit_list {K : PySem.W.Frag} : PySem.W.kitOne K (.type "list") (.type "str") = some false := rfl
theorem kit_tup {K : PySem.W.Frag} : PySem.W.kitOne K (.type "tuple") (.type "str") = some false := rfl
theorem kit_int {K : PySem.W.Frag} : PySem.W.kitOne K (.type "int") (.type "str") = some false := rfl
theorem kit_bl {K : PySem.W.Frag} : PySem.W.kitOne K (.type "bool") (.type "str") = some false := rfl
theorem kit_non {K : PySem.W.Frag} : PySem.W.kitOne K (.type "NoneType") (.type "str") = some false := rfl
end Sq


set_option Elab.async false
set_option maxRecDepth 100000
set_option maxHeartbeats 4000000
namespace Sq
open PySem PySem.Spec PyProof.Rows L2
/-! ## isinstance of a kept exception, with a tuple of classes -/
def rIsXT (K : PySem.W.Frag) : List V → Hp → VK → Prop := fun xs H Q => ∃ (a C : Addr) (fs : List (Str × V)) (tp : Addr) (cs : List V) (ws : List Value) (b : Bool), xs = [.ref a, .ref tp] ∧ Kept H a C fs ∧ ExcC K C ∧ H tp = some (.tup cs) ∧ Paired ClsV cs ws ∧ PySem.W.kitAny K (.ref C) ws = some b ∧ Q (.bl b) H
theorem call_isXT {X : Cx} {K : PySem.W.Frag} (h : X.K = K := by rfl) : CallR X (.builtin "isinstance") (rIsXT K) := by
  subst h
  intro pins s σ H xs us Q I r h
  obtain ⟨a, C, fs, tp, cs, ws, b, rfl, k, EC, hT, hc, e, q⟩ := h
  obtain ⟨oe, od, d, mA, J, _⟩ := kept_at I k
  obtain ⟨u0, u1, rfl, r0, r1⟩ := vals2 r
  obtain rfl : u0 = Value.ref a := r0
  obtain rfl : u1 = Value.ref tp := r1
  obtain ⟨_, its, rv, o, h1, h2, n, h3⟩ := (show ObjOk X.prog X.w H s.heap tp (.tup cs) from I.hok tp _ hT)
  have e3 := ClsV.all hc rv
  subst e3
  obtain ⟨oc, od2, dt, sl⟩ := o
  simp only at h2 h3
  subst h2 h3
  obtain ⟨cd, hcd, _⟩ := PySem.W.any_some EC.hd
  exact PySem.W.kia_tup (PySem.W.kitx_exc (by rw [hcd]; rfl) EC.hg EC.hk EC.hs EC.ha EC.hn EC.ht EC.hm) I.kIn J h1 e (fun z => nomatch z) fun tk => ⟨.bl b, H, I.kept (t' := tk) fun _ _ z => z, rfl, q⟩
/-! ## a def that may raise, called by place and by keywords -/
structure Def2X (P : Program) (w : World) (K : PySem.W.Frag) (mg : Str → Option Value) (base : Heap) (k : Nat) (x : Str) (st : Stmt) (ps : List Str) (sp : Sp) : Prop where
  ex : ∃ (f : Addr) (fd : FuncData), Fun K x x st f fd ∧ mg x = some (.ref f) ∧ Binds K fd ps [] ∧ FnOk P w K mg base (L2.CX P w) k f fd ps sp
section
variable {P : Program} {w : World} {K : PySem.W.Frag} {mg : Str → Option Value} {base : Heap} {x : Str} {st : Stmt} {ps N : List Str} {k : Nat} {sp sp' : Sp}
theorem DefAt.twoX (D : DefAt K mg x st ps) (S : FnScope N ps (defScope st)) (len : ∀ vs H Q E, sp vs H Q E → vs.length = ps.length)
    (hb : ∀ (f : Addr) (cdv : Value) (A : Around) (outer : List Env) (s : Shared) (H : Hp) (vs : List V) (Q : VK) (E : XK), Room k (A.deeper (envOfC x (defScope st) s.heap.objs.size f cdv)) → sp vs H Q E →
      (Takes (cxOf (L2.CX P w) P w K mg base N x (defScope st) f cdv A outer s H E) fun cls d _ G => E cls d G) →
      ∃ t, PSs (cxOf (L2.CX P w) P w K mg base N x (defScope st) f cdv A outer s H E) (defBody st) t ∧ t { nx := fun _ H' => Q .non H', rt := Q } (start N vs) H) : Def2X P w K mg base (k + 1) x st ps sp := by
  obtain ⟨f, fd, F, hm, b⟩ := D.ex
  exact ⟨f, fd, F, hm, b, F.okX S len fun cdv A outer s H vs Q E hr hsp => hb f cdv A outer s H vs Q E hr hsp (takes_of rfl rfl rfl rfl)⟩
theorem Def2X.calX (D : Def2X P w K mg base k x st ps sp) : CalX P w K mg base k x sp := by
  obtain ⟨f, fd, F, hm, b, ok⟩ := D.ex
  exact ⟨f, fd, ps, ok, hm, F.kp, b⟩
theorem Def2X.calm (D : Def2X P w K mg base k x st ps sp) (h : ∀ vs H Q E, sp' vs H Q E → sp vs H Q E0) : Def2 P w K mg base k x st ps sp' := by
  obtain ⟨f, fd, F, hm, b, ok⟩ := D.ex
  exact ⟨f, fd, F, hm, b, fn_calm ok h⟩
end
end Sq


set_option Elab.async false
set_option maxRecDepth 100000
set_option maxHeartbeats 4000000
namespace Sq
open PySem PySem.Spec PyProof.Rows L2
/-! ## a stop behind a statement: its ways meet there, the rest is shown once -/
@[irreducible] def tCut (a b : TS) : TS := tSeq a b
theorem pss_cut {X : Cx} {st : Stmt} {rest : List Stmt} {a b : TS} (h1 : PS X st a) (h2 : PSs X rest b) : PSs X (st :: rest) (tCut a b) := by
  unfold tCut
  exact pss_cons h1 h2
theorem cut_at {a b : TS} {D : Ends} {σ : L2.St} {H : Hp} (P : L2.St → Hp → Prop) (h1 : ∀ N : L2.St → Hp → Prop, (∀ σ' H', P σ' H' → N σ' H') → a { D with nx := N } σ H) (h2 : ∀ σ' H', P σ' H' → b D σ' H') : tCut a b D σ H := by
  unfold tCut
  exact h1 _ h2
end Sq


set_option Elab.async false
set_option maxRecDepth 100000
set_option maxHeartbeats 2000000
/-! a run leaves the generators that sleep as they are, if it never wakes them: they are put to a sleep from which no run wakes -/
namespace Sq
open PySem
open Sem (wp)
/-- the same sleeper, but no run goes on behind its waking -/
def dumG : GenState → GenState
  | .suspended _ l c p fs cl => .suspended (fun _ => .unsupported "") l c p fs cl
  | x => x
def isSl : GenState → Bool
  | .suspended .. => true
  | _ => false
def NoGF : GenState → Prop
  | .suspended _ _ _ _ fs _ => splitAtGen fs = none
  | _ => True
def EndNG : End → Prop
  | .susp _ _ _ _ _ _ fs => splitAtGen fs = none
  | _ => True
theorem dum_seen : ∀ x : GenState, (dumG x).seen = x.seen
  | .suspended .. => rfl
  | .fresh _ => rfl
  | .running => rfl
  | .finished => rfl
theorem dum_bare : ∀ x : GenState, (dumG x).bare = x.bare
  | .suspended .. => rfl
  | .fresh _ => rfl
  | .running => rfl
  | .finished => rfl
theorem dum_awake : ∀ x : GenState, isSl x = false → dumG x = x
  | .suspended .., h => by cases h
  | .fresh _, _ => rfl
  | .running, _ => rfl
  | .finished, _ => rfl
theorem awake_nog : ∀ x : GenState, isSl x = false → NoGF x
  | .suspended .., h => by cases h
  | .fresh _, _ => trivial
  | .running, _ => trivial
  | .finished, _ => trivial
theorem nog_end : ∀ e : End, EndNG e → NoGF e.genState
  | .ret _, _ => trivial
  | .susp .., h => h
theorem split_app {fs : List Frame} (h : splitAtGen fs = none) : ∀ fs0 : List Frame, splitAtGen fs0 = none → splitAtGen (fs0 ++ fs) = none
  | [], _ => h
  | .gen .. :: r, q => by cases q
  | .ret k hh g l c p kp :: r, q => by
    have q' : (splitAtGen r).map (fun x => (Frame.ret k hh g l c p kp :: x.1, x.2.1, x.2.2)) = none := q
    have z := split_app h r (by simpa using q')
    show (splitAtGen (r ++ fs)).map _ = none
    rw [z]
    rfl
theorem split_tail {k hh g l c p kp} {fs : List Frame} (q : splitAtGen (Frame.ret k hh g l c p kp :: fs) = none) : splitAtGen fs = none := by
  have q' : (splitAtGen fs).map (fun x => (Frame.ret k hh g l c p kp :: x.1, x.2.1, x.2.2)) = none := q
  simpa using q'
section
variable {M : Model}
theorem no_stuck {Γ : Ctx} {p : Pos} {t : Sem PySem.Fin} {fs : List Frame} {s s' : Shared} {e : End} (h : Runs M Γ p t fs s e s') : ∀ x, t = .unsupported x → False := by
  induction h <;> intro x q <;> first | (cases q; done) | (rename_i ih _; exact ih x q) | (rename_i ih; exact ih x q) | (rename_i ih _ _; exact ih x q) | (rename_i ih _ _ _; exact ih x q)
end
/-- the tables of two states: D's sleepers cannot be woken in the first -/
structure Ag (D : Nat → Option GenState) (a b : Array GenState) : Prop where
  sz : a.size = b.size
  sl : ∀ i x, D i = some x → isSl x = true ∧ a[i]? = some (dumG x) ∧ b[i]? = some x
  el : ∀ i, D i = none → a[i]? = b[i]? ∧ ∀ x, a[i]? = some x → NoGF x
section
variable {D : Nat → Option GenState} {a b : Array GenState} {g : Nat} {x : GenState}
theorem Ag.lt (h : Ag D a b) {i : Nat} {x : GenState} (e : D i = some x) : i < a.size := by
  obtain ⟨_, q, _⟩ := h.sl i x e
  exact (Array.getElem?_eq_some_iff.mp q).1
theorem Ag.set (h : Ag D a b) (hg : D g = none) (hx : NoGF x) : Ag D (a.setIfInBounds g x) (b.setIfInBounds g x) where
  sz := by rw [Array.size_setIfInBounds, Array.size_setIfInBounds, h.sz]
  sl := fun i y e => by
    have ne : g ≠ i := fun z => by rw [z, e] at hg; cases hg
    rw [Array.getElem?_setIfInBounds_ne ne, Array.getElem?_setIfInBounds_ne ne]
    exact h.sl i y e
  el := fun i e => by
    by_cases z : g = i
    · subst z
      rw [Array.getElem?_setIfInBounds_self, Array.getElem?_setIfInBounds_self, h.sz]
      refine ⟨rfl, fun y q => ?_⟩
      split at q
      · cases q
        exact hx
      · cases q
    · rw [Array.getElem?_setIfInBounds_ne z, Array.getElem?_setIfInBounds_ne z]
      exact h.el i e
theorem Ag.push (h : Ag D a b) (hx : NoGF x) : Ag D (a.push x) (b.push x) where
  sz := by rw [Array.size_push, Array.size_push, h.sz]
  sl := fun i y e => by
    have lt := h.lt e
    have lt2 : i < b.size := by rw [← h.sz]; exact lt
    rw [Array.getElem?_push_lt lt, Array.getElem?_push_lt lt2, ← Array.getElem?_eq_getElem lt, ← Array.getElem?_eq_getElem lt2]
    exact h.sl i y e
  el := fun i e => by
    rcases Nat.lt_trichotomy i a.size with lt | eq | gt
    · have lt2 : i < b.size := by rw [← h.sz]; exact lt
      rw [Array.getElem?_push_lt lt, Array.getElem?_push_lt lt2, ← Array.getElem?_eq_getElem lt, ← Array.getElem?_eq_getElem lt2]
      exact h.el i e
    · subst eq
      rw [Array.getElem?_push_size, h.sz, Array.getElem?_push_size]
      refine ⟨rfl, fun y q => ?_⟩
      cases q
      exact hx
    · have g1 : (a.push x)[i]? = none := Array.getElem?_eq_none (by rw [Array.size_push]; omega)
      have g2 : (b.push x)[i]? = none := Array.getElem?_eq_none (by rw [Array.size_push, ← h.sz]; omega)
      rw [g1, g2]
      exact ⟨rfl, fun y q => by cases q⟩
/-- a state that is not a sleeper's -/
theorem Ag.at (h : Ag D a b) (e : a[g]? = some x) (hx : isSl x = false) : D g = none ∧ b[g]? = some x := by
  cases q : D g with
  | none =>
    refine ⟨rfl, ?_⟩
    rw [← (h.el g q).1]
    exact e
  | some y =>
    obtain ⟨h1, h2, _⟩ := h.sl g y q
    rw [e] at h2
    have e2 : x = dumG y := Option.some.inj h2
    rw [e2] at hx
    cases y with
    | suspended k l c p fs cl => cases hx
    | fresh _ => cases h1
    | running => cases h1
    | finished => cases h1
theorem Ag.seen (h : Ag D a b) (e : a[g]? = some x) : ∃ y, b[g]? = some y ∧ y.seen = x.seen := by
  cases q : D g with
  | none => exact ⟨x, by rw [← (h.el g q).1]; exact e, rfl⟩
  | some y =>
    obtain ⟨_, h2, h3⟩ := h.sl g y q
    rw [e] at h2
    have e2 : x = dumG y := Option.some.inj h2
    exact ⟨y, h3, by rw [e2, dum_seen]⟩
theorem Ag.susp (h : Ag D a b) {k l c p fs cl} (e : a[g]? = some (.suspended k l c p fs cl)) : (k = fun _ => .unsupported "") ∨ (D g = none ∧ b[g]? = some (.suspended k l c p fs cl) ∧ splitAtGen fs = none) := by
  cases q : D g with
  | none => exact .inr ⟨rfl, by rw [← (h.el g q).1]; exact e, (h.el g q).2 _ e⟩
  | some y =>
    obtain ⟨h1, h2, h3⟩ := h.sl g y q
    rw [e] at h2
    have e2 : GenState.suspended k l c p fs cl = dumG y := Option.some.inj h2
    cases y with
    | suspended k1 l1 c1 p1 fs1 cl1 => exact .inl (GenState.suspended.inj e2).1
    | fresh _ => cases h1
    | running => cases h1
    | finished => cases h1
end
section
variable {M : Model} {D : Nat → Option GenState}
theorem runs_asleep {Γ : Ctx} {p : Pos} {t : Sem PySem.Fin} {fs : List Frame} {s s' : Shared} {e : End} (h : Runs M Γ p t fs s e s') : splitAtGen fs = none → ∀ G, Ag D s.gens G →
    EndNG e ∧ ∃ G', Ag D s'.gens G' ∧ Runs M Γ p t fs { s with gens := G } e { s' with gens := G' } := by
  induction h with
  | done => exact fun _ G g => ⟨trivial, G, g, .done⟩
  | raise => exact fun _ G g => ⟨trivial, G, g, .raise⟩
  | again hq _ ih => intro hf G g; obtain ⟨n, G', g', r⟩ := ih hf G g; exact ⟨n, G', g', .again hq r⟩
  | rule _ ih => intro hf G g; obtain ⟨n, G', g', r⟩ := ih hf G g; exact ⟨n, G', g', .rule r⟩
  | «at» _ ih => intro hf G g; obtain ⟨n, G', g', r⟩ := ih hf G g; exact ⟨n, G', g', .at r⟩
  | load ho _ ih => intro hf G g; obtain ⟨n, G', g', r⟩ := ih hf G g; exact ⟨n, G', g', .load ho r⟩
  | update ho _ ih => intro hf G g; obtain ⟨n, G', g', r⟩ := ih hf G g; exact ⟨n, G', g', .update ho r⟩
  | loadIfAlive _ ih => intro hf G g; obtain ⟨n, G', g', r⟩ := ih hf G g; exact ⟨n, G', g', .loadIfAlive r⟩
  | point _ ih => intro hf G g; obtain ⟨n, G', g', r⟩ := ih hf G g; exact ⟨n, G', g', .point r⟩
  | alloc _ ih => intro hf G g; obtain ⟨n, G', g', r⟩ := ih hf G g; exact ⟨n, G', g', .alloc r⟩
  | fresh _ ih => intro hf G g; obtain ⟨n, G', g', r⟩ := ih hf G g; exact ⟨n, G', g', .fresh r⟩
  | ask _ ih => intro hf G g; obtain ⟨n, G', g', r⟩ := ih hf G g; exact ⟨n, G', g', .ask r⟩
  | choose hn _ ih => intro hf G g; obtain ⟨n, G', g', r⟩ := ih hf G g; exact ⟨n, G', g', .choose hn r⟩
  | os _ ih => intro hf G g; obtain ⟨n, G', g', r⟩ := ih hf G g; exact ⟨n, G', g', .os r⟩
  | handled _ ih => intro hf G g; obtain ⟨n, G', g', r⟩ := ih hf G g; exact ⟨n, G', g', .handled r⟩
  | stack _ ih => intro hf G g; obtain ⟨n, G', g', r⟩ := ih hf G g; exact ⟨n, G', g', .stack r⟩
  | thread _ ih => intro hf G g; obtain ⟨n, G', g', r⟩ := ih hf G g; exact ⟨n, G', g', .thread r⟩
  | genState hs _ ih =>
    intro hf G g
    obtain ⟨n, G', g', r⟩ := ih hf G g
    obtain ⟨y, e2, es⟩ := g.seen hs
    exact ⟨n, G', g', .genState e2 (by rw [es]; exact r)⟩
  | newGen _ ih =>
    intro hf G g
    obtain ⟨n, G', g', r⟩ := ih hf (G.push (.fresh _)) (g.push trivial)
    refine ⟨n, G', g', .newGen ?_⟩
    rw [g.sz] at r
    exact r
  | call _ _ ih1 ih2 =>
    intro hf G g
    obtain ⟨_, G1, g1, r1⟩ := ih1 rfl G g
    obtain ⟨n, G', g', r⟩ := ih2 hf G1 g1
    exact ⟨n, G', g', .call r1 r⟩
  | callSusp _ ih =>
    intro hf G g
    obtain ⟨n, G', g', r⟩ := ih rfl G g
    exact ⟨split_app rfl _ n, G', g', .callSusp r⟩
  | yield => exact fun _ G g => ⟨rfl, G, g, .yield⟩
  | resumeFresh hs _ hq _ ih1 ih2 =>
    intro hf G g
    obtain ⟨d, e⟩ := g.at hs rfl
    obtain ⟨n1, G1, g1, r1⟩ := ih1 rfl _ (g.set d trivial)
    obtain ⟨n, G', g', r⟩ := ih2 hf _ (g1.set d (nog_end _ n1))
    exact ⟨n, G', g', .resumeFresh e r1 hq r⟩
  | resumeSuspended hs hr hq _ ih1 ih2 =>
    intro hf G g
    rcases g.susp hs with rfl | ⟨d, e, nf⟩
    · exact (no_stuck hr _ rfl).elim
    · obtain ⟨n1, G1, g1, r1⟩ := ih1 nf _ (g.set d trivial)
      obtain ⟨n, G', g', r⟩ := ih2 hf _ (g1.set d (nog_end _ n1))
      exact ⟨n, G', g', .resumeSuspended e r1 hq r⟩
  | resumeJustStarted hs hv _ ih =>
    intro hf G g
    obtain ⟨d, e⟩ := g.at hs rfl
    obtain ⟨n, G', g', r⟩ := ih hf G g
    exact ⟨n, G', g', .resumeJustStarted e hv r⟩
  | resumeThrowFresh hs _ ih =>
    intro hf G g
    obtain ⟨d, e⟩ := g.at hs rfl
    obtain ⟨n, G', g', r⟩ := ih hf _ (g.set d trivial)
    exact ⟨n, G', g', .resumeThrowFresh e r⟩
  | resumeRunning hs _ ih =>
    intro hf G g
    obtain ⟨d, e⟩ := g.at hs rfl
    obtain ⟨n, G', g', r⟩ := ih hf G g
    exact ⟨n, G', g', .resumeRunning e r⟩
  | resumeFinished hs _ ih =>
    intro hf G g
    obtain ⟨d, e⟩ := g.at hs rfl
    obtain ⟨n, G', g', r⟩ := ih hf G g
    exact ⟨n, G', g', .resumeFinished e r⟩
  | segRet _ _ ih1 ih2 =>
    intro hf G g
    obtain ⟨_, G1, g1, r1⟩ := ih1 rfl G g
    obtain ⟨n, G', g', r⟩ := ih2 (split_tail hf) G1 g1
    exact ⟨n, G', g', .segRet r1 r⟩
  | segGen _ _ _ _ => intro hf; cases hf
  | segSuspOut hs _ ih =>
    intro hf G g
    obtain ⟨n, G', g', r⟩ := ih rfl G g
    exact ⟨split_app hf _ n, G', g', .segSuspOut hs r⟩
  | segSuspGen hs _ _ _ _ _ => intro hf; rw [hf] at hs; cases hs
theorem wakes_asleep {Γ : Ctx} {p : Pos} {g : Nat} {r : Resume} {s s' : Shared} {res : GenResult} (h : Wakes M Γ p g r s res s') {G : Array GenState} (a : Ag D s.gens G) :
    ∃ G', Ag D s'.gens G' ∧ Wakes M Γ p g r { s with gens := G } res { s' with gens := G' } := by
  unfold Wakes at h
  cases e : s.gens[g]? with
  | none => rw [e] at h; exact h.elim
  | some x =>
    rw [e] at h
    have fin : ∀ y, isSl y = false → x = y → G[g]? = some y ∧ D g = none := fun y hy z => by
      rw [z] at e
      obtain ⟨q1, q2⟩ := a.at e hy
      exact ⟨q2, q1⟩
    cases x with
    | fresh c =>
      obtain ⟨e2, d⟩ := fin (.fresh c) rfl rfl
      cases r with
      | send v =>
        cases v with
        | none =>
          obtain ⟨e1, s1, hr, hq, er, es⟩ := h
          obtain ⟨n1, G1, g1, r1⟩ := runs_asleep hr rfl _ (a.set d trivial)
          subst es
          refine ⟨G1.setIfInBounds g e1.genState, g1.set d (nog_end _ n1), ?_⟩
          unfold Wakes
          rw [show ({ s with gens := G } : Shared).gens[g]? = _ from e2]
          exact ⟨e1, _, r1, hq, er, rfl⟩
        | _ =>
          obtain ⟨er, es⟩ := h
          subst es
          refine ⟨G, a, ?_⟩
          unfold Wakes
          rw [show ({ s' with gens := G } : Shared).gens[g]? = _ from e2]
          exact ⟨er, rfl⟩
      | throw v =>
        obtain ⟨er, es⟩ := h
        subst es
        refine ⟨_, a.set d trivial, ?_⟩
        unfold Wakes
        rw [show ({ s with gens := G } : Shared).gens[g]? = _ from e2]
        exact ⟨er, rfl⟩
    | running =>
      obtain ⟨e2, d⟩ := fin .running rfl rfl
      obtain ⟨er, es⟩ := h
      subst es
      refine ⟨G, a, ?_⟩
      unfold Wakes
      rw [show ({ s' with gens := G } : Shared).gens[g]? = _ from e2]
      exact ⟨er, rfl⟩
    | finished =>
      obtain ⟨e2, d⟩ := fin .finished rfl rfl
      obtain ⟨er, es⟩ := h
      subst es
      refine ⟨G, a, ?_⟩
      unfold Wakes
      rw [show ({ s' with gens := G } : Shared).gens[g]? = _ from e2]
      exact ⟨er, rfl⟩
    | suspended k l c q fs cl =>
      obtain ⟨e1, s1, hr, hq, er, es⟩ := h
      rcases a.susp e with rfl | ⟨d, e2, nf⟩
      · exact (no_stuck hr _ rfl).elim
      · obtain ⟨n1, G1, g1, r1⟩ := runs_asleep hr nf _ (a.set d trivial)
        subst es
        refine ⟨G1.setIfInBounds g e1.genState, g1.set d (nog_end _ n1), ?_⟩
        unfold Wakes
        rw [show ({ s with gens := G } : Shared).gens[g]? = _ from e2]
        exact ⟨e1, _, r1, hq, er, rfl⟩
/-- what was shown with D's sleepers out of reach holds with them -/
def Slept2 {α : Type} (D : Nat → Option GenState) (Q : α → Shared → Prop) (v : α) (b : Shared) : Prop := ∃ s' G', b = { s' with gens := G' } ∧ Ag D s'.gens G' ∧ Q v s'
theorem wp_asleep {α : Type} {Γ : Ctx} (t : Sem α) : ∀ (Q : α → Shared → Prop) (E : Value → Shared → Prop) (p : Pos) (s : Shared) (G : Array GenState), Ag D s.gens G → wp M Γ t (fun v _ s' => Q v s') (fun v _ s' => E v s') p s →
    wp M Γ t (fun v _ b => Slept2 D Q v b) (fun v _ b => Slept2 D E v b) p { s with gens := G } := by
  induction t with
  | pure a => intro Q E p s G g h; exact ⟨s, G, rfl, g, h⟩
  | raise e => intro Q E p s G g h; exact ⟨s, G, rfl, g, h⟩
  | unsupported _ => intro Q E p s _ _ h; exact h
  | finish _ => intro Q E p s _ _ h; exact h
  | rule _ k ih => intro Q E p s G g h; exact ih () Q E p s G g h
  | «at» p' k ih => intro Q E p s G g h; exact ih () Q E p' s G g h
  | load a _ k ih => intro Q E p s G g h; obtain ⟨o, ho, h⟩ := h; exact ⟨o, ho, ih o Q E p s G g h⟩
  | update a _ f k ih => intro Q E p s G g h; exact ⟨h.1, ih () Q E p { s with heap := s.heap.update a f } G g h.2⟩
  | loadIfAlive a k ih => intro Q E p s G g h; exact ih _ Q E p s G g h
  | point _ k ih => intro Q E p s G g h; exact ih () Q E p s G g h
  | register _ _ => intro Q E p s _ _ h; exact h
  | alloc o k ih => intro Q E p s G g h; exact ih _ Q E p { s with heap := s.heap.push o } G g h
  | fresh k ih => intro Q E p s G g h; exact ih _ Q E p { s with toks := s.toks + 1 } G g h
  | ask k ih => intro Q E p s G g h; exact ih _ Q E p s G g h
  | choose src m k ih => intro Q E p s G g h; exact ⟨h.1, ih _ Q E p { s with drawn := s.drawn.bump src } G g h.2⟩
  | os q _ k ih => intro Q E p s G g h; exact ih _ Q E p { s with os := (Os.step s.os q).1 } G g h
  | call c hd _ _ k ih =>
    intro Q E p s G g h
    obtain ⟨r, s', hr, h⟩ := h
    obtain ⟨_, G', g', hr'⟩ := runs_asleep hr rfl G g
    exact ⟨r, _, hr', ih r Q E p s' G' g' h⟩
  | handled own k ih => intro Q E p s G g h; exact ih _ Q E p s G g h
  | genState gn k ih =>
    intro Q E p s G g h
    obtain ⟨st, hs, h⟩ := h
    obtain ⟨y, e2, es⟩ := g.seen hs
    exact ⟨y, e2, by rw [es]; exact ih _ Q E p s G g h⟩
  | newGen c k ih =>
    intro Q E p s G g h
    have z := ih _ Q E p { s with gens := s.gens.push (.fresh c) } (G.push (.fresh c)) (g.push trivial) h
    show wp M Γ (k G.size) _ _ p _
    rw [← g.sz]
    exact z
  | resume gn r _ k ih =>
    intro Q E p s G g h
    obtain ⟨res, s', hw, h⟩ := h
    obtain ⟨G', g', hw'⟩ := wakes_asleep hw g
    exact ⟨res, _, hw', ih res Q E p s' G' g' h⟩
  | yield _ _ _ _ => intro Q E p s _ _ h; exact h
  | stack k ih => intro Q E p s G g h; exact ih _ Q E p s G g h
  | fork _ _ => intro Q E p s _ _ h; exact h
  | thread k ih => intro Q E p s G g h; exact ih _ Q E p s G g h
  | await _ _ _ _ _ => intro Q E p s _ _ h; exact h
theorem wpAny_asleep {α : Type} {A : Around} {t : Sem α} {Q : α → Shared → Prop} {E : Value → Shared → Prop} {s : Shared} {G : Array GenState} (g : Ag D s.gens G) (h : wpAny M A t Q E s) :
    wpAny M A t (Slept2 D Q) (Slept2 D E) { s with gens := G } := fun Γ p hΓ => wp_asleep t Q E p s G g (h Γ p hΓ)
end
/-- all sleepers of a table -/
def sleepers (G : Array GenState) (i : Nat) : Option GenState := (G[i]?).filter isSl
theorem ag_all (G : Array GenState) : Ag (sleepers G) (G.map dumG) G where
  sz := Array.size_map
  sl := fun i x e => by
    unfold sleepers at e
    cases q : G[i]? with
    | none => rw [q] at e; cases e
    | some y =>
      rw [q] at e
      obtain ⟨e1, e2⟩ := (Option.filter_eq_some_iff.mp e)
      cases e1
      exact ⟨e2, by rw [Array.getElem?_map, q]; rfl, rfl⟩
  el := fun i e => by
    unfold sleepers at e
    rw [Array.getElem?_map]
    cases q : G[i]? with
    | none => exact ⟨rfl, fun x z => by cases z⟩
    | some y =>
      rw [q] at e
      have hy : isSl y = false := by
        cases z : isSl y with
        | false => rfl
        | true => rw [Option.filter_some, z] at e; cases e
      rw [Option.map_some, dum_awake y hy]
      exact ⟨rfl, fun x z => by cases z; exact awake_nog y hy⟩
theorem dum_allBare {G : Array GenState} (h : PyProof.Rows.AllBare G) : PyProof.Rows.AllBare (G.map dumG) := fun y hy => by
  obtain ⟨x, hx, rfl⟩ := Array.mem_map.mp hy
  rw [dum_bare]
  exact h x hx
theorem ag_bare {D : Nat → Option GenState} {a b : Array GenState} (g : Ag D a b) (h : PyProof.Rows.AllBare a) : PyProof.Rows.AllBare b := fun y hy => by
  obtain ⟨i, hi, e⟩ := Array.mem_iff_getElem.mp hy
  have e2 : b[i]? = some y := by rw [Array.getElem?_eq_getElem hi, e]
  cases q : D i with
  | none =>
    have e3 := (g.el i q).1.trans e2
    exact h y (Array.mem_of_getElem? e3)
  | some x =>
    obtain ⟨_, h2, h3⟩ := g.sl i x q
    rw [e2] at h3
    cases h3
    have := h _ (Array.mem_of_getElem? h2)
    rw [dum_bare] at this
    exact this
/-- a sleeper of the table still sleeps -/
theorem ag_still {G a b : Array GenState} (g : Ag (sleepers G) a b) {i : Nat} {x : GenState} (e : G[i]? = some x) (hx : isSl x = true) : b[i]? = some x := by
  refine (g.sl i x ?_).2.2
  unfold sleepers
  rw [e, Option.filter_some, hx]
  rfl
end Sq


set_option Elab.async false
set_option maxRecDepth 100000
set_option maxHeartbeats 2000000
/-! for in a generator's body; list(g(..)) -/
namespace Sq
open PySem PySem.Spec PyProof.Rows L2 GenW
section
variable {prog : Program} {w : World} {A : Around} {R : GenEnd} {Y : Protocol} {n : Nat} {s₀ : Shared} {c : Code} {fs : List Frame} {s : Shared} {env : Env}
  {K : Flow → Sem PySem.Fin} {H : Value → Sem PySem.Fin} {gd : Bool → Bool} {lv : List Value → List Value}
theorem seg_For {target iter : Expr} {body orelse : List Stmt} {pos : Pos}
    (h : wpAny (model prog w) (A.over c fs) (eval iter env) (fun x s₁ => wpAny (model prog w) (A.over c fs) (pyIter x) (fun it s₂ =>
      ∀ p, Seg (model prog w) A R Y n s₀ (.forLoop target it body orelse env) ((model prog w).den (.forLoop target it body orelse env))
        (.ret (fun r => ((match r with | .ok f => (.pure f : Sem Flow) | .error e => .raise e).onRaise (cameBack env)).wrap K H gd lv) none (gd false) (lv []) c p [] :: fs) s₂)
      (fun x s' => Seg (model prog w) A R Y n s₀ c (H x) fs s') s₁) (fun x s' => Seg (model prog w) A R Y n s₀ c (H x) fs s') s)
    (hs : ∀ x, foldedSetIterable iter env x = pure x := by intro _; rfl) :
    Seg (model prog w) A R Y n s₀ c ((exec (.For target iter body orelse pos) env).wrap K H gd lv) fs s := by
  rw [exec_For]
  refine seg_bind_wrap (wpAny_standAt (seg_bind_wrap (wpAny_mono h (fun x s₁ h₁ => ?_) fun _ _ z => z)))
  refine seg_bind_wrap (wpAny_of_eq (hs x) (seg_bind_wrap (wpAny_standAt (seg_bind_wrap (wpAny_holding (wpAny_mono h₁ (fun it s₂ h₂ => ?_) fun _ _ z => z))))))
  exact seg_call h₂
theorem seg_forLoop {target : Expr} {it : Value} {body : List Stmt}
    (h : wpAny (model prog w) (A.over (.forLoop target it body [] env) fs) (pyNext it) (fun r s₁ => match r with
      | none => Seg (model prog w) A R Y n s₀ (.block [] env) (.pure (.done .next)) fs s₁
      | some v => wpAny (model prog w) (A.over (.forLoop target it body [] env) fs) (letOwnedTupleGo target it v) (fun _ s₁' =>
          wpAny (model prog w) (A.over (.forLoop target it body [] env) fs) (assign target env v) (fun _ s₂ =>
            Seg (model prog w) A R Y n s₀ (.forLoop target it body [] env) ((execs body env).wrap (fun f => match f with
            | .next | .cont => .pure (.again (.forLoop target it body [] env))
            | .brk => .pure (.done .next)
            | .ret v => .pure (.done (.ret v))) (fun e => (do noteFrame e env; theTreesLotGoes e : Sem Unit).wrap (fun _ => .raise e) .raise id id) id id) fs s₂)
          (fun x s' => Seg (model prog w) A R Y n s₀ (.forLoop target it body [] env) ((do noteFrame x env; theTreesLotGoes x : Sem Unit).wrap (fun _ => .raise x) .raise id id) fs s') s₁')
          (fun x s' => Seg (model prog w) A R Y n s₀ (.forLoop target it body [] env) ((do noteFrame x env; theTreesLotGoes x : Sem Unit).wrap (fun _ => .raise x) .raise id id) fs s') s₁)
      (fun x s' => Seg (model prog w) A R Y n s₀ (.forLoop target it body [] env) ((do noteFrame x env; theTreesLotGoes x : Sem Unit).wrap (fun _ => .raise x) .raise id id) fs s') s) :
    Seg (model prog w) A R Y n s₀ (.forLoop target it body [] env) ((model prog w).den (.forLoop target it body [] env)) fs s := by
  show Seg _ A R Y n s₀ _ ((forTurn target it body [] env).onRaise (fun x => do noteFrame x env; theTreesLotGoes x)) fs s
  rw [Sem.onRaise_eq_wrap]
  have eN : ∀ (x : Value) (s' : Shared), Seg (model prog w) A R Y n s₀ (.forLoop target it body [] env) ((do noteFrame x env; theTreesLotGoes x : Sem Unit).wrap (fun _ => .raise x) .raise id id) fs s' →
      Seg (model prog w) A R Y n s₀ (.forLoop target it body [] env) ((do noteFrame x env; theTreesLotGoes x : Sem Unit).bind fun _ => .raise x) fs s' := fun x s' hx => by
    rw [Sem.bind_eq_wrap]
    exact hx
  unfold forTurn
  refine seg_bind_wrap (wpAny_standAt (seg_bind_wrap (wpAny_onRaise (wpAny_mono h (fun r s₁ h₁ => ?_) fun x s' hx => wpAny_standAt (eN x s' hx)))))
  cases r with
  | none => exact seg_again rfl h₁
  | some v =>
    refine seg_bind_wrap (wpAny_mono h₁ (fun _ s₁' h₁' => ?_) fun x s' hx => eN x s' hx)
    refine seg_bind_wrap (wpAny_mono h₁' (fun _ s₂ h₂ => ?_) fun x s' hx => eN x s' hx)
    rw [Sem.bind_eq_wrap', Sem.wrap_wrap]
    rw [Sem.wrap_congr (execs body env) _ _ (K' := fun f => match f with
            | .next | .cont => .pure (.again (.forLoop target it body [] env))
            | .brk => .pure (.done .next)
            | .ret v => .pure (.done (.ret v))) (H' := (fun e => (do noteFrame e env; theTreesLotGoes e : Sem Unit).wrap (fun _ => .raise e) .raise id id))
        (fun f => by cases f <;> rfl)
        (fun e => by first | exact Sem.bind_eq_wrap _ _ | (show (do noteFrame e env; theTreesLotGoes e : Sem Unit).bind (fun _ => .raise e) = _; rw [Sem.bind_eq_wrap]))]
    exact h₂
end
section
variable {X : Cx}
def tGFor (wi : TI) (g : TG) (tb : TGn) : TGn := fun D ys σ H => wi σ H fun J H1 => ∃ W : Nat → Nat → List V → L2.St → Hp → Prop, (∃ m, W 0 m ys σ H1) ∧ ∀ i m ys σ H, W i m ys σ H →
  (J.stop i H ∧ D.nx ys σ H) ∨ (J.go i H ∧ ∃ N : List V → L2.St → Hp → Prop, (∀ ys' σ' H', N ys' σ' H' → ∃ m', m' < m ∧ W (i + 1) m' ys' σ' H') ∧ ∀ x H', J.yld i H x H' → g x σ H' fun σ2 H2 => tb { D with nx := N, ct := N, bk := D.nx } ys σ2 H2)
theorem gs_for {tg iter : Expr} {body : List Stmt} {wi : TI} {g : TG} {tb : TGn} {pos : Pos} (hp : PassesOwn (model X.prog X.w) X.A X.env X.xe) (hc : X.calm = true) (hi : PI X tg iter wi) (hg : PG X tg g) (hb : GSs X body tb)
    (hs : ∀ x, foldedSetIterable iter X.env x = pure x := by intro _; rfl) : GS X (.For tg iter body [] pos) (tGFor wi g tb) := by
  refine ⟨fun A S ip R n ys s₀ c fs K J gd lv s σ H D gc hn k hI ht => ?_⟩
  obtain ⟨acc, cc, r, I⟩ := hI
  refine seg_For ?_ hs
  rw [gc.over]
  refine wpAny_mono (hi.run _ s σ H _ I ht) (fun v s1 h1 => wpAny_mono h1 (fun itv s2 h2 p => ?_) fun x s' hx => k.exc n s₀ x s' hx) fun x s' hx => k.exc n s₀ x s' hx
  obtain ⟨it, fp, tn, JI, H2, e, I2, T, st2, f2, W, ⟨m0, w0⟩, turn⟩ := h2
  subst e
  have gl := fun (kk : Result → Sem PySem.Fin) => gc_loop (k := kk) (c' := .forLoop tg (.ref it) body [] X.env) (l := lv []) (kp := []) (p := p) gc rfl rfl
  have fpS : ∀ b ∈ fp, b ≠ S := fun b hb z => (f2 b hb).2.2.2.2.2 (S, lstObj acc cc) (List.mem_append_right _ List.mem_cons_self) z.symm
  have stat : ∀ {acc' : Array Value} {c' : Nat} {H' : Hp}, (∀ b ∈ fp, H' b = none) → ∀ b ∈ fp, FpOk X ((S, lstObj acc' c') :: ip) H' b := fun {acc' c' H'} hn b hb => by
    obtain ⟨_, g1, g2, g3, g4, g5⟩ := f2 b hb
    refine ⟨hn b hb, g1, g2, g3, g4, fun q hq => ?_⟩
    rcases List.mem_append.mp hq with hq | hq
    · exact g5 q (List.mem_append_left _ hq)
    · rcases List.mem_cons.mp hq with hq | hq
      · rw [hq]
        exact (fpS b hb).symm
      · exact g5 q (List.mem_append_right _ (List.mem_cons_of_mem _ hq))
  have loop : ∀ (m i n : Nat) (ys : List V) (s₀ s : Shared) (σ : L2.St) (H : Hp), n + ys.length = sizeLine → W i m ys σ H → GI X S ip ys σ H s → tn i s.heap → (∀ b ∈ fp, H b = none) →
      Seg (model X.prog X.w) A R (GY X S) n s₀ (.forLoop tg (.ref it) body [] X.env) ((model X.prog X.w).den (.forLoop tg (.ref it) body [] X.env))
        (.ret (fun r => ((match r with | .ok f => (.pure f : Sem Flow) | .error e => .raise e).onRaise (cameBack X.env)).wrap K J gd lv) none (gd false) (lv []) c p [] :: fs) s := by
    intro m
    induction m using Nat.strongRecOn with
    | ind m ih =>
      intro i n ys s₀ s σ H hn w hI st fr
      have ee : ∀ (n : Nat) (s₀ : Shared) (x : Value) (s' : Shared), X.xe x s' → Seg (model X.prog X.w) A R (GY X S) n s₀ (.forLoop tg (.ref it) body [] X.env)
          ((do noteFrame x X.env; theTreesLotGoes x : Sem Unit).wrap (fun _ => .raise x) .raise id id)
          (.ret (fun r => ((match r with | .ok f => (.pure f : Sem Flow) | .error e => .raise e).onRaise (cameBack X.env)).wrap K J gd lv) none (gd false) (lv []) c p [] :: fs) s' := fun n s₀ x s' hx => by
        refine seg_wrap ?_
        rw [(gl _).over]
        refine wpAny_bind (wpAny_mono (hp x s' hx) (fun _ s'' hcb => wpAny_theTreesLotGoes ?_) fun y s'' hcb => ?_)
        · exact seg_leaf (.error x) (seg_cameBack gc k hcb)
        · exact seg_leaf (.error y) (seg_cameBack gc k hcb)
      refine seg_forLoop ?_
      rw [(gl _).over]
      obtain ⟨acc, cc, r, I⟩ := hI
      rcases turn i m ys σ H w with ⟨stop, qn⟩ | ⟨go, N, hN, step⟩
      · refine wpAny_mono (T.done X rfl rfl rfl hc i _ s σ H X.xe I (stat fr) st stop) (fun r s' hr => ?_) fun x s' hx => ee n s₀ x s' hx
        obtain ⟨hr, I4⟩ := hr
        subst hr
        exact seg_leaf (.ok .next) (k.ok n ys s₀ s' .next hn ⟨σ, H, ⟨acc, cc, r, I4⟩, qn⟩)
      · refine wpAny_mono (T.item X rfl rfl rfl hc i _ s σ H X.xe I (stat fr) st go) (fun r s4 hr => ?_) fun x s' hx => ee n s₀ x s' hx
        obtain ⟨u, hr, h4⟩ := hr
        subst hr
        refine wpAny_mono h4 (fun _ s5 h5 => ?_) fun x s' hx => ee n s₀ x s' hx
        obtain ⟨x, H5, I5, r5, y5, st5, fr5⟩ := h5
        have I5' := I5.pinned (stat fr5) (T.obj _ _ st5)
        refine wpAny_mono (hg.run _ s5 σ H5 x u _ I5' r5 (step x H5 y5)) (fun _ s6 h6 => ?_) fun x s' hx => ee n s₀ x s' hx
        obtain ⟨σ6, H6, I6, q6⟩ := h6
        have gb : GC X S (ip ++ pinsAt fp s5.heap) A (.forLoop tg (.ref it) body [] X.env) (.ret (fun r => ((match r with | .ok f => (.pure f : Sem Flow) | .error e => .raise e).onRaise (cameBack X.env)).wrap K J gd lv) none (gd false) (lv []) c p [] :: fs) id :=
          { gl _ with ip := fun q hq => (List.mem_append.mp hq).elim (gc.ip q) fun z => fpS _ (of_pinsAt z).1 }
        have again : ∀ {ys' : List V} {s7 : Shared} {σ7 : L2.St} {H7 : Hp}, GI X S (ip ++ pinsAt fp s5.heap) ys' σ7 H7 s7 → GI X S ip ys' σ7 H7 s7 ∧ tn (i + 1) s7.heap ∧ ∀ b ∈ fp, H7 b = none := fun {ys' s7 σ7 H7} h7 => by
          obtain ⟨acc7, cc7, r7, I7⟩ := h7
          have pin : ∀ b ∈ fp, ∀ o, s5.heap.get? b = some o → s7.heap.get? b = some o ∧ H7 b = none := fun b hb o e => by
            have z := I7.pin (b, o) (List.mem_append_right _ (List.mem_cons_of_mem _ (List.mem_append_right _ (mem_pinsAt hb e))))
            exact ⟨z.1, z.2.1⟩
          refine ⟨⟨acc7, cc7, r7, I7.pins_of fun q hq => ?_⟩, T.keep _ _ _ st5 fun b hb o e => (pin b hb o e).1, fun b hb => ?_⟩
          · rcases List.mem_cons.mp hq with z | z
            · exact I7.pin q (List.mem_append_right _ (by rw [z]; exact List.mem_cons_self))
            · exact I7.pin q (List.mem_append_right _ (List.mem_cons_of_mem _ (List.mem_append_left _ z)))
          · obtain ⟨o, e, d⟩ := T.obj _ _ st5 b hb
            exact (pin b hb o e).2
        refine hb.run A S (ip ++ pinsAt fp s5.heap) R n ys s₀ _ _ _ _ id id s6 σ6 H6 { D with nx := N, ct := N, bk := D.nx } gb hn ⟨fun n' ys' s₀' s7 f hn' hs7 => ?_, fun n' s₀' x s3 hx => ee n' s₀' x s3 hx⟩ ⟨acc, cc, r, I6⟩ q6
        cases f with
        | next =>
          obtain ⟨σ7, H7, I7, n7⟩ := hs7
          obtain ⟨m', hm, w7⟩ := hN ys' σ7 H7 n7
          obtain ⟨a1, a2, a3⟩ := again I7
          exact seg_again rfl (ih m' hm (i + 1) n' ys' s₀' s7 σ7 H7 hn' w7 a1 a2 a3)
        | cont =>
          obtain ⟨σ7, H7, I7, n7⟩ := hs7
          obtain ⟨m', hm, w7⟩ := hN ys' σ7 H7 n7
          obtain ⟨a1, a2, a3⟩ := again I7
          exact seg_again rfl (ih m' hm (i + 1) n' ys' s₀' s7 σ7 H7 hn' w7 a1 a2 a3)
        | brk =>
          obtain ⟨σ7, H7, I7, n7⟩ := hs7
          exact seg_leaf (.ok .next) (k.ok n' ys' s₀' s7 .next hn' ⟨σ7, H7, (again I7).1, n7⟩)
        | ret v =>
          obtain ⟨x7, σ7, H7, I7, r7, n7⟩ := hs7
          exact seg_leaf (.ok (.ret v)) (k.ok n' ys' s₀' s7 (.ret v) hn' ⟨x7, σ7, H7, (again I7).1, r7, n7⟩)
  exact loop m0 0 n ys s₀ s2 σ H2 hn w0 ⟨acc, cc, r, I2⟩ st2 fun b hb => (f2 b hb).1
/-- a comprehension's loop over a list, for any body -/
theorem it_list {K : PySem.W.Frag} {a : Addr} {xs : List V} {H0 : Hp} {Bd : V → Hp → (Hp → Prop) → Prop} {Qd : Hp → Prop} (Pv : Nat → Hp → Prop) (h0 : Pv 0 H0) (hl : ∀ i H, i ≤ xs.length → Pv i H → SqL K H a xs)
    (hs : ∀ i x H, xs[i]? = some x → Pv i H → Bd x H (Pv (i + 1))) (hd : ∀ H, Pv xs.length H → Qd H) :
    ∃ W : Nat → Nat → Hp → Prop, (∃ m, W 0 m H0) ∧ ∀ i m H, W i m H →
      ((Itl K a).stop i H ∧ Qd H) ∨ ((Itl K a).go i H ∧ ∃ Nx : Hp → Prop, (∀ H', Nx H' → ∃ m', m' < m ∧ W (i + 1) m' H') ∧ ∀ x H', (Itl K a).yld i H x H' → Bd x H' Nx) := by
  refine ⟨fun i m H => m = xs.length - i ∧ i ≤ xs.length ∧ Pv i H, ⟨xs.length, by simp, Nat.zero_le _, h0⟩, ?_⟩
  rintro i m H ⟨rfl, hi, p⟩
  have q := hl i H hi p
  by_cases hlt : i < xs.length
  · refine .inr ⟨⟨xs, xs[i], q, by simp [hlt]⟩, Pv (i + 1), fun H' p' => ⟨xs.length - (i + 1), by omega, rfl, hlt, p'⟩, fun x H' y => ?_⟩
    obtain ⟨e, y⟩ := y
    subst e
    exact hs i x _ (y xs q) p
  · have e : i = xs.length := by omega
    subst e
    exact .inl ⟨⟨xs, q, Nat.le_refl _⟩, hd H p⟩
theorem gfor_list {K : PySem.W.Frag} {a : Addr} {xs : List V} {g : TG} {tb : TGn} {D : GEnds} {ys : List V} {σ : L2.St} {H : Hp} (Pv : Nat → List V → L2.St → Hp → Prop) (h0 : Pv 0 ys σ H) (hl : ∀ i ys σ H, i ≤ xs.length → Pv i ys σ H → SqL K H a xs)
    (hs : ∀ i x ys σ H, xs[i]? = some x → Pv i ys σ H → g x σ H fun σ2 H2 => tb { D with nx := Pv (i + 1), ct := Pv (i + 1), bk := D.nx } ys σ2 H2) (hd : ∀ ys σ H, Pv xs.length ys σ H → D.nx ys σ H) :
    ∃ W : Nat → Nat → List V → L2.St → Hp → Prop, (∃ m, W 0 m ys σ H) ∧ ∀ i m ys σ H, W i m ys σ H →
      ((Itl K a).stop i H ∧ D.nx ys σ H) ∨ ((Itl K a).go i H ∧ ∃ N : List V → L2.St → Hp → Prop, (∀ ys' σ' H', N ys' σ' H' → ∃ m', m' < m ∧ W (i + 1) m' ys' σ' H') ∧ ∀ x H', (Itl K a).yld i H x H' → g x σ H' fun σ2 H2 => tb { D with nx := N, ct := N, bk := D.nx } ys σ2 H2) := by
  refine ⟨fun i m ys σ H => m = xs.length - i ∧ i ≤ xs.length ∧ Pv i ys σ H, ⟨xs.length, by simp, Nat.zero_le _, h0⟩, ?_⟩
  rintro i m ys σ H ⟨rfl, hi, p⟩
  have q := hl i ys σ H hi p
  by_cases hlt : i < xs.length
  · refine .inr ⟨⟨xs, xs[i], q, by simp [hlt]⟩, Pv (i + 1), fun ys' σ' H' p' => ⟨xs.length - (i + 1), by omega, rfl, hlt, p'⟩, fun x H' y => ?_⟩
    obtain ⟨e, y⟩ := y
    subst e
    exact hs i x ys σ _ (y xs q) p
  · have e : i = xs.length := by omega
    subst e
    exact .inl ⟨⟨xs, q, Nat.le_refl _⟩, hd ys σ H p⟩
end
/-- a generator def that may be called by its name -/
structure CalGn (P : Program) (w : World) (K : PySem.W.Frag) (mg : Str → Option Value) (base : Heap) (k : Nat) (x : Str) (ps : List Str) (sp : SpG) : Prop where
  ex : ∃ (f : Addr) (fd : FuncData), GFn P w K mg base k f fd ps sp ∧ mg x = some (.ref f) ∧ PySem.W.keepIn K (.ref f) = true ∧ Binds K fd ps []
section
variable {P : Program} {w : World} {K : PySem.W.Frag} {mg : Str → Option Value} {base : Heap}
theorem DefAt.gen {x : Str} {st : Stmt} {ps N : List Str} {k : Nat} {sp : SpG} (D : DefAt K mg x st ps) (S : GScope N ps (defScope st)) (len : ∀ vs H Q E, sp vs H Q E → vs.length = ps.length)
    (hb : ∀ (f : Addr) (cdv : Value) (A : Around) (outer : List Env) (s : Shared) (H : Hp) (vs : List V) (Q : List V → Hp → Prop) (E : XK) (pn : List (Addr × Obj)), Room k (A.deeper (envOfC x (defScope st) s.heap.objs.size f cdv)) →
      Takes (gcxOf P w K mg base N x (defScope st) f cdv A outer s H E pn) (fun cls d _ H' => E cls d H') → PassesOwn (model P w) (gcxOf P w K mg base N x (defScope st) f cdv A outer s H E pn).A (gcxOf P w K mg base N x (defScope st) f cdv A outer s H E pn).env (gcxOf P w K mg base N x (defScope st) f cdv A outer s H E pn).xe → sp vs H Q E →
      ∃ t, GSs (gcxOf P w K mg base N x (defScope st) f cdv A outer s H E pn) (defBody st) t ∧ t { nx := fun ys _ H' => Q ys H', rt := fun ys v H' => v = .non ∧ Q ys H' } [] (start N vs) H) : CalGn P w K mg base (k + 1) x ps sp := by
  obtain ⟨f, fd, ⟨⟨oc, od, kV, doc, pm, an, cdv, ct, osl, rfl, lk, hcd⟩, kp⟩, hm, b⟩ := D.ex
  exact ⟨f, _, gfn_of lk hcd S len fun A outer s H vs Q E pn hr hsp => hb f cdv A outer s H vs Q E pn hr takes_gcx owns_gcx hsp, hm, kp, b⟩
end
section
variable {X : Cx} {k j : Nat} {x : Str} {ps : List Str} {sp : SpG} {p p2 pos pos' : Pos} {e : Expr} {es : List Expr} {t : TA}
theorem noStop0 {K : PySem.W.Frag} : NoStop K E0 := fun _ _ _ h => False.elim h
theorem passesX0 {P : Program} {w : World} : Passes (CX P w) X E0 := fun pins σ H s e s' I h => by
  obtain ⟨_, _, _, _, _, _, _, _, _, _, _, _, z⟩ := h
  exact False.elim z
/-- list(g(e, ..)) -/
theorem pe_lg {nm : Str} (c : CalGn X.prog X.w X.K X.mg X.base k x ps sp) (hr : Room j X.A) (hk : k + 3 ≤ j) (hg : Gl X x) (ha : PA X (e :: es) t) (hgl : Gl X nm) (hmg : X.mg nm = none) (hv : bootBuiltins nm = some (.type "list")) (hnm : nm ≠ "__name__" := by decide)
    (hdn : (nm == ("__debug__" : Str)) = false := by decide) (hdb : (x == ("__debug__" : Str)) = false := by decide) (he : starEach (e :: es) X.env = (false, eval e X.env) :: starEach es X.env := by rfl) (hpl : (backTo pos (starEach es X.env)).any (·.1) = false := by rfl)
    (he2 : starEach [.Call (.Name x p) (e :: es) [] pos] X.env = (false, eval (.Call (.Name x p) (e :: es) [] pos) X.env) :: starEach [] X.env := by rfl) :
    PE X (.Call (.Name nm p2) [.Call (.Name x p) (e :: es) [] pos] [] pos') (tListG (tCallG sp [] E0 t)) := by
  obtain ⟨f, fd, F, hm, kp, b⟩ := c.ex
  exact pe_listG (pgen_call F (hr.mono (by omega)) hg hm kp b .nil ha hdb he hpl) passesX0 noStop0 (hr.mono hk) hgl hmg hv hnm hdn he2
end
end Sq


set_option Elab.async false
set_option maxRecDepth 100000
set_option maxHeartbeats 4000000
/-! what is raised where nothing is handled: its context is None, and that is remembered -/
namespace Sq
open PySem PySem.Spec PyProof.Rows L2
section
variable {X : Cx} {p pos : Pos} {e : Expr} {es : List Expr} {ta : TA}
/-- C(e, ..), its context known -/
theorem pmk_oexN {x : Str} {C fi : Addr} {k : Nat} {fd : FuncData} {ps : List Str} {sp : Sp} (T : OexC X.K C) (ini : PySem.W.findIn X.K (.ref C) "__init__" = some (some (.ref fi))) (tyi : PySem.W.typeIn X.K (.ref fi) = some (.type "function"))
    (F : FnOk X.prog X.w X.K X.mg X.base CX0 k fi fd ps sp) (room : Room (k + 1) X.A) (bd : L2.Binds X.K fd ps []) (hg : Gl X x) (hm : X.mg x = some (.ref C)) (ha : PA X (e :: es) ta)
    (hdb : (x == ("__debug__" : Str)) = false := by decide) (he : starEach (e :: es) X.env = (false, eval e X.env) :: starEach es X.env := by rfl) (hpl : (backTo pos (starEach es X.env)).any (·.1) = false := by rfl) :
    L2N.PMk X (.Call (.Name x p) (e :: es) [] pos) (tMkO C sp [] ta) := by
  intro pins s σ H Q I h
  obtain ⟨nm, q, N, bs, bm, sn, sub, ab, col, dd, c0, c1, c2, c3, c5, look, refs⟩ := T.cls
  refine wpAny_Call_Name_kw (ld_glob I hg hm (PySem.W.callWith_K (h₀ := X.base) I.ok.mod.kin T.kC (thn (ha.run pos pins s σ H _ I h) fun us s1 got => ?_) he hpl) hdb)
  obtain ⟨vs, H1, I1, rv, len, go⟩ := got
  refine ⟨I1.kIn, show wpAny _ _ (call (.ref C) us) _ _ _ from ?_⟩
  obtain ⟨h1, g1, d1, t1, o1⟩ := s1
  have big : h1.objs.size ≤ h1.objs.size + 1 := Nat.le_succ _
  have sp1 := go _ (I1.hok.fresh big)
  rw [List.append_nil] at sp1
  have old : ∀ b o, h1.get? b = some o → ((h1.push (PySem.W.kdv_tup us)).push (PySem.HandSPX.excO C h1.objs.size)).get? b = some o := fun b o z => Heap.get?_push_of_some _ (Heap.get?_push_of_some _ z)
  have new : ((h1.push (PySem.W.kdv_tup us)).push (PySem.HandSPX.excO C h1.objs.size)).get? (h1.objs.size + 1) = some (PySem.HandSPX.excO C h1.objs.size) := by heap_get
  have I2 : Inv X pins σ (upd H1 (h1.objs.size + 1) (exo (h1.objs.size + 1) C none)) ⟨(h1.push (PySem.W.kdv_tup us)).push (PySem.HandSPX.excO C h1.objs.size), g1, d1, t1, o1⟩ :=
    I1.laid (t' := t1) (a := h1.objs.size + 1) (o := exo (h1.objs.size + 1) C none) (h' := (h1.push (PySem.W.kdv_tup us)).push (PySem.HandSPX.excO C h1.objs.size)) old big (exo_ok new)
  have rv2 : Vals (V.ref (h1.objs.size + 1) :: vs) (Value.ref (h1.objs.size + 1) :: us) := .cons rfl rv
  have ln : (Value.ref (h1.objs.size + 1) :: us).length = ps.length := rv2.length.symm.trans (F.len _ _ _ _ sp1)
  have lus : us.length ≤ sizeLine := by
    rw [← Paired.length rv, sizeLine_eq]
    omega
  have bd2 := bd _ (Value.ref (h1.objs.size + 1) :: us) I2.kIn (by rw [List.append_nil]; exact ln)
  rw [List.append_nil] at bd2
  refine wpAny_call (PySem.HandSPX.call_own PySem.F.excBase_ValueError (fun Y => PySem.HandSPX.refsVE_contains Y bm refs) (I1.kIn _ _ look) (PySem.W.looks_findIn I1.kIn ini) (fun self => PySem.W.bind_fn I1.kIn self tyi) lus
    (codeAny_mono (F.run _ X.stack _ _ ⟨Value.ref (h1.objs.size + 1) :: us, []⟩ _ _ _ E0 (room.make C us []) (I2.env0.make C us []) bd2 rv2 sp1) fun r s2 out => ?_))
  cases r with
  | error er => exact out.elim
  | ok fl =>
    cases fl with
    | ret u =>
      obtain ⟨v, H2, os2, bare2, un2, hok2, ru, ev, d, fs, ea, ed, nd, fin⟩ := out
      subst ev
      obtain ⟨h2, g2, d2, t2, o2⟩ := s2
      obtain ⟨t0, G, J, kG, ge, at_, na⟩ := mk_end0 (d2 := d2) (t2 := t2) I1 big old un2 hok2 os2 bare2 ea ed nd
      refine ⟨ru, h1.objs.size + 1, _, _, ⟨G, g2, d2, t2, o2⟩, _, .ref C, some d, rfl, J, kG, ge, at_, ⟨rfl, rfl, fun ws z => ?_⟩, rfl, rfl, na, rfl, bare2, raises_own T.exC T.tyC, fin⟩
      cases z
      rfl
    | next => exact out.elim
    | brk => exact out.elim
    | cont => exact out.elim
end
section
variable {X : Cx} {W : WX} {k j : Nat} {C : Addr} {x : Str} {p pos pos2 : Pos} {e : Expr} {te : TE}
theorem ps_rxN (c : Rai X.prog X.w X.K X.mg X.base k x C) (hr : Room j X.A) (hk : k + 1 ≤ j) (hg : Gl X x) (tk : L2N.Takes X W) (ha : PE X e te) (hc : X.calm = true := by rfl)
    (hdb : (x == ("__debug__" : Str)) = false := by decide) (he : starEach [e] X.env = (false, eval e X.env) :: starEach [] X.env := by rfl) (hpl : (backTo pos (starEach [] X.env)).any (·.1) = false := by rfl) : PS X (.Raise (some (.Call (.Name x p) [e] [] pos)) none pos2) (tRx W C te) := by
  obtain ⟨f, fd, T, iC, tI, F, hm, b⟩ := c.ex
  have r := L2N.ps_raise (pos := pos2) hc tk (pmk_oexN (pos := pos) (p := p) T iC tI F (hr.mono hk) b hg hm (pa_cons (pe_wk ha) pa_nil he) hdb he hpl)
  refine ⟨fun pins s σ H D I h => r.run pins s σ H D I ⟨_, h, fun v G q => ⟨Nat.le_of_ble_eq_true rfl, fun a na => ⟨a, v, rfl, upd_same, fun dx nd ne => ?_⟩⟩⟩⟩
  rw [upd_ne ne] at nd
  refine ⟨rfl, dx, _, upd_same, by rw [upd_ne ne, upd_same], nd, ?_⟩
  rw [heap_rx na ne]
  exact q dx nd
end
/-! ## defs that may raise -/
structure CalXN (P : Program) (w : World) (K : PySem.W.Frag) (mg : Str → Option Value) (base : Heap) (k : Nat) (x : Str) (sp : Sp) : Prop where
  ex : ∃ (f : Addr) (fd : FuncData) (ps : List Str), FnOk P w K mg base (L2N.CX P w) k f fd ps sp ∧ mg x = some (.ref f) ∧ PySem.W.keepIn K (.ref f) = true ∧ L2.Binds K fd ps []
structure Def2XN (P : Program) (w : World) (K : PySem.W.Frag) (mg : Str → Option Value) (base : Heap) (k : Nat) (x : Str) (st : Stmt) (ps : List Str) (sp : Sp) : Prop where
  ex : ∃ (f : Addr) (fd : FuncData), Fun K x x st f fd ∧ mg x = some (.ref f) ∧ Binds K fd ps [] ∧ FnOk P w K mg base (L2N.CX P w) k f fd ps sp
section
variable {P : Program} {w : World} {K : PySem.W.Frag} {mg : Str → Option Value} {base : Heap} {x qual : Str} {st : Stmt} {ps N : List Str} {k : Nat} {sp sp' : Sp}
theorem okXN {f : Addr} {fd : FuncData} (F : Fun K x qual st f fd) (S : FnScope N ps (defScope st)) (len : ∀ vs H Q E, sp vs H Q E → vs.length = ps.length)
    (hb : ∀ (cdv : Value) (A : Around) (outer : List Env) (s : Shared) (H : Hp) (vs : List V) (Q : VK) (E : XK), Room k (A.deeper (envOfC qual (defScope st) s.heap.objs.size f cdv)) → sp vs H Q E → (L2N.Takes (cxOf (L2N.CX P w) P w K mg base N qual (defScope st) f cdv A outer s H E) fun cls d _ G => E cls d G) →
      ∃ t, PSs (cxOf (L2N.CX P w) P w K mg base N qual (defScope st) f cdv A outer s H E) (defBody st) t ∧ t { nx := fun _ H' => Q .non H', rt := Q } (start N vs) H) : FnOk P w K mg base (L2N.CX P w) (k + 1) f fd ps sp := by
  obtain ⟨oc, od, kV, doc, pm, an, cdv, ct, osl, rfl, lk, hcd⟩ := F.ex
  exact fn_of lk hcd S len fun A outer s H vs Q E hr hsp => hb cdv A outer s H vs Q E hr hsp (L2N.takes_of rfl rfl rfl rfl)
theorem DefAt.calXN (D : DefAt K mg x st ps) (S : FnScope N ps (defScope st)) (len : ∀ vs H Q E, sp vs H Q E → vs.length = ps.length)
    (hb : ∀ (f : Addr) (cdv : Value) (A : Around) (outer : List Env) (s : Shared) (H : Hp) (vs : List V) (Q : VK) (E : XK), Room k (A.deeper (envOfC x (defScope st) s.heap.objs.size f cdv)) → sp vs H Q E →
      (L2N.Takes (cxOf (L2N.CX P w) P w K mg base N x (defScope st) f cdv A outer s H E) fun cls d _ G => E cls d G) →
      ∃ t, PSs (cxOf (L2N.CX P w) P w K mg base N x (defScope st) f cdv A outer s H E) (defBody st) t ∧ t { nx := fun _ H' => Q .non H', rt := Q } (start N vs) H) : CalXN P w K mg base (k + 1) x sp := by
  obtain ⟨f, fd, F, hm, b⟩ := D.ex
  exact ⟨f, fd, ps, okXN F S len fun cdv => hb f cdv, hm, F.kp, b⟩
theorem DefAt.twoXN (D : DefAt K mg x st ps) (S : FnScope N ps (defScope st)) (len : ∀ vs H Q E, sp vs H Q E → vs.length = ps.length)
    (hb : ∀ (f : Addr) (cdv : Value) (A : Around) (outer : List Env) (s : Shared) (H : Hp) (vs : List V) (Q : VK) (E : XK), Room k (A.deeper (envOfC x (defScope st) s.heap.objs.size f cdv)) → sp vs H Q E →
      (L2N.Takes (cxOf (L2N.CX P w) P w K mg base N x (defScope st) f cdv A outer s H E) fun cls d _ G => E cls d G) →
      ∃ t, PSs (cxOf (L2N.CX P w) P w K mg base N x (defScope st) f cdv A outer s H E) (defBody st) t ∧ t { nx := fun _ H' => Q .non H', rt := Q } (start N vs) H) : Def2XN P w K mg base (k + 1) x st ps sp := by
  obtain ⟨f, fd, F, hm, b⟩ := D.ex
  exact ⟨f, fd, F, hm, b, okXN F S len fun cdv => hb f cdv⟩
theorem Def2XN.calXN (D : Def2XN P w K mg base k x st ps sp) : CalXN P w K mg base k x sp := by
  obtain ⟨f, fd, F, hm, b, ok⟩ := D.ex
  exact ⟨f, fd, ps, ok, hm, F.kp, b⟩
theorem fn_calmN {f : Addr} {fd : FuncData} (F : FnOk P w K mg base (L2N.CX P w) k f fd ps sp) (h : ∀ vs H Q E, sp' vs H Q E → sp vs H Q E0) : FnOk P w K mg base CX0 k f fd ps sp' := by
  refine ⟨fun vs H Q E q => F.len _ _ _ _ (h _ _ _ _ q), fun A outer s H args us vs Q E hr e0 b r q => codeAny_mono (F.run A outer s H args us vs Q E0 hr e0 b r (h _ _ _ _ q)) fun res s' z => ?_⟩
  cases res with
  | ok fl => cases fl <;> exact z
  | error e =>
    obtain ⟨_, _, _, _, _, _, _, _, _, _, _, _, no⟩ := z
    exact no.elim
theorem CalXN.calm (c : CalXN P w K mg base k x sp) (h : ∀ vs H Q E, sp' vs H Q E → sp vs H Q E0) : Cal P w K mg base k x sp' [] := by
  obtain ⟨f, fd, ps, F, hm, kp, b⟩ := c.ex
  exact ⟨f, fd, ps, [], fn_calmN F h, hm, kp, b, .nil⟩
theorem CalXN.imp {j : Nat} (c : CalXN P w K mg base k x sp) (hk : k ≤ j) (h : ∀ vs H Q E, sp' vs H Q E → sp vs H Q E) : CalXN P w K mg base j x sp' := by
  obtain ⟨f, fd, ps, F, hm, kp, b⟩ := c.ex
  exact ⟨f, fd, ps, (F.mono hk).imp h, hm, kp, b⟩
end
section
variable {X : Cx} {W : WX} {k j : Nat} {x : Str} {sp : Sp} {p pos : Pos} {e : Expr} {es : List Expr} {t : TA}
theorem pe_cxN (c : CalXN X.prog X.w X.K X.mg X.base k x sp) (hr : Room j X.A) (hk : k ≤ j) (tk : L2N.Takes X W) (hg : Gl X x) (ha : PA X (e :: es) t)
    (hdb : (x == ("__debug__" : Str)) = false := by decide) (he : starEach (e :: es) X.env = (false, eval e X.env) :: starEach es X.env := by rfl) (hpl : (backTo pos (starEach es X.env)).any (·.1) = false := by rfl) :
    PE X (.Call (.Name x p) (e :: es) [] pos) (tCallS sp (WE W) t) := by
  obtain ⟨f, fd, ps, F, hm, kp, b⟩ := c.ex
  exact pe_callS F (hr.mono hk) hg hm kp b (L2N.passAt tk) ha hdb he hpl
end
theorem takes0N {X : Cx} : L2N.Takes X (fun _ _ _ _ => False) := fun u s' ⟨_, _, _, _, _, _, _, _, _, _, _, _, _, _, _, _, no⟩ => no.elim
/-! ## try .. except, the exception kept: its context is known to be None -/
/-- at a: an exception at rest whose context is None -/
def Xn (a : Addr) (cls : Value) (d : Option Addr) : HO := .ext fun h => ∃ (oe : Obj) (vs : Array Value), h.get? a = some oe ∧ Zc cls d oe ∧ oe.data = .fields vs ∧ vs[2]? = some .none
theorem xn_ok {P : Program} {w : World} {H : Hp} {h : Heap} {a : Addr} {cls : Value} {d : Option Addr} {oe : Obj} {vs : Array Value} (e : h.get? a = some oe) (z : Zc cls d oe) (f : oe.data = .fields vs) (c : vs[2]? = some .none) : ObjOk P w H h a (Xn a cls d) :=
  ⟨⟨oe, vs, e, z, f, c⟩, ⟨_, e⟩, fun _ _ ⟨o2, v2, e2, z2, f2, c2⟩ k => ⟨o2, v2, k _ e2, z2, f2, c2⟩⟩
theorem xn_at {P : Program} {w : World} {H : Hp} {h : Heap} {a : Addr} {cls : Value} {d : Option Addr} (hok : HOk P w H h) (e : H a = some (Xn a cls d)) : ∃ (oe : Obj) (vs : Array Value), h.get? a = some oe ∧ Zc cls d oe ∧ oe.data = .fields vs ∧ vs[2]? = some .none := by
  have x : ObjOk P w H h a (.ext fun h => ∃ (oe : Obj) (vs : Array Value), h.get? a = some oe ∧ Zc cls d oe ∧ oe.data = .fields vs ∧ vs[2]? = some .none) := hok a _ e
  exact x.1
/-- the same object, told more of -/
theorem more_told {X : Cx} {pins : List (Addr × Obj)} {σ : L2.St} {H : Hp} {s : Shared} {a : Addr} {cls : Value} {d : Option Addr} {oe : Obj} {vs : Array Value} (J : Inv X pins σ (upd H a (Xo a cls d)) s) (e : s.heap.get? a = some oe) (na : H a = none) (z : Zc cls d oe) (f : oe.data = .fields vs) (c : vs[2]? = some .none) :
    Inv X pins σ (upd H a (Xn a cls d)) s := by
  have eq : ∀ b, b ≠ a → upd H a (Xn a cls d) b = upd H a (Xo a cls d) b := fun b hb => by rw [upd_ne hb, upd_ne hb]
  have same0 : ∀ b, upd H a (Xo a cls d) b = none → upd H a (Xn a cls d) b = none := fun b q => by
    by_cases hb : b = a
    · rw [hb, upd_same] at q
      cases q
    · rw [eq b hb]
      exact q
  have same1 : ∀ b o, (∀ φ, o ≠ HO.ext φ) → upd H a (Xo a cls d) b = some o → upd H a (Xn a cls d) b = some o := fun b o n q => by
    by_cases hb : b = a
    · rw [hb, upd_same] at q
      exact absurd (Option.some.inj q).symm (n _)
    · rw [eq b hb]
      exact q
  refine ⟨J.ok, J.os, J.bare, ⟨fun b o q n => J.base.keep b o q n, fun b o q n => J.base.slot b o q n, fun b o q n x => same0 b (J.base.free b o q n x), J.base.there, fun b xs q => same1 b _ (fun _ z => by cases z) (J.base.tups b xs q), fun b o v q => same1 b _ (fun _ z => by cases z) (J.base.frzs b o v q), fun b ps q => ?_⟩, J.loc, J.cell, same0 _ J.free, fun y c2 q => same0 _ (J.freeC y c2 q), fun p hp => ?_, fun b o q => ?_, J.len⟩
  · obtain ⟨more, y⟩ := J.base.tbls b ps q
    exact ⟨more, same1 b _ (fun _ z => by cases z) y⟩
  · obtain ⟨g1, g2, g3⟩ := J.pin p hp
    exact ⟨g1, same0 _ g2, g3⟩
  · by_cases hb : b = a
    · rw [hb, upd_same] at q
      cases q
      rw [hb]
      exact xn_ok e z f c
    · rw [eq b hb] at q
      exact (J.hok b o q).stay (fun _ _ _ y => y) (fun c2 y => same1 c2 _ (fun _ z => by cases z) y) fun c2 xs y => same1 c2 _ (fun _ z => by cases z) y
def wKeepN (K : PySem.W.Frag) (c : Value) (i : Nat) (ts : Addr → Value → Option Addr → TS) (Wout : WX) (D : Ends) : WX := fun cls d σ H => ∃ b, PySem.W.exmOne K cls c = some b ∧
  (b = true → ∀ a, H a = none → ts a cls d (keepD D i) (σ.set i (some (.ref a))) (upd H a (Xn a cls d))) ∧ (b = false → Wout cls d σ H)
section
variable {X : Cx} {x n : Str} {c : Value} {i : Nat} {body rest : List Stmt} {st : Stmt} {np pos pos2 : Pos} {tb : WX → TS} {ts : Addr → Value → Option Addr → TS} {Wout : WX}
theorem ps_try_keepN (hs : X.stack = X.env :: X.outer) (hf : X.env.frame = some X.env.locals) (hN : X.N.Nodup) (hi : X.N[i]? = some n) (hln : X.env.kindOf n = some .local) (hex : X.ex = []) (hc : Names X x c) (tk : L2N.Takes X Wout)
    (hb : ∀ (W : WX) (pn : List (Addr × Obj)) (xe : Value → Shared → Prop), L2N.Takes (X.tr pn xe) W → PassesOwn (model X.prog X.w) X.A X.env xe → PSs (X.tr pn xe) body (tb W))
    (hsu : ∀ (a : Addr) (cls : Value) (d : Option Addr) (pn : List (Addr × Obj)), PSs (X.suite a pn) (st :: rest) (ts a cls d)) :
    PS X (.Try body [.ExceptHandler (some (.Name x np)) (some n) (st :: rest) pos2] [] [] pos) (fun D σ H => tb (wKeepN X.K c i ts Wout D) D σ H) := by
  refine ⟨fun pins s σ H D I h => wpAny_Try_except ?_⟩
  have ok := I.ok
  have hfr : X.A.frames = some (X.env :: X.outer) := by rw [ok.frames, hs]
  have hlc : Loc X.env.scope n := .inl hln
  have seen : ∀ {C : Heap} {h : Heap} {q : Addr} {o : Obj} {vs : Array Value}, h.FunFrames C (X.env :: X.outer) → h.get? q = some o → o.data = .fields vs → q ∉ frs (X.env :: X.outer) := fun {C h q o vs} ff e dd hm => by
    obtain ⟨_, o2, e2, nn⟩ := ff.mem hm
    rw [e] at e2
    cases e2
    exact nn _ dd
  refine wpAny_mono ((hb (wKeepN X.K c i ts Wout D) (X.pn ++ pins) _ (fun u s2 air => ?_) PassesOwn.looking).run [] s σ H D (I.toTry _) h) (fun fl s2 q => ?_) fun _ _ z => z
  · obtain ⟨a, G, sI, pins2, τ, H2, cls, d, rfl, J2, nb, up, sky, na, os, ag, b, hb1, yes, no⟩ := air
    have J : Inv X pins τ H2 sI := J2.ofTry ok
    rw [hs] at sky
    refine L2N.Sky.land L2N.Zn.steady hfr hf sky fun h3 l3 up3 => ?_
    have J3 : Inv X pins τ H2 { s2 with heap := h3 } := J.landed nb l3.1 (up.trans up3) os ag
    obtain ⟨o3, v3, e3, z3, d3⟩ := l3.there
    have out := seen l3.2.2.1 e3 d3
    have nL : a ≠ X.env.locals := fun z => out (List.mem_filterMap.mpr ⟨X.env, List.mem_cons_self, by rw [hf, z]⟩)
    have nF : a ∉ X.fs := fun hm => by
      obtain ⟨e, he, q⟩ := List.mem_filterMap.mp hm
      exact out (List.mem_filterMap.mpr ⟨e, List.mem_cons_of_mem _ he, q⟩)
    have young : sI.heap.get? a = none := by
      cases q : sI.heap.get? a with
      | none => rfl
      | some o =>
        have z := nb a o q (by rw [hs]; exact out)
        rw [l3.2.1] at z
        cases z
    have young0 : X.s_0.heap.get? a = none := by
      cases q : X.s_0.heap.get? a with
      | none => rfl
      | some o =>
        obtain ⟨o2, z⟩ := J.base.there a o q (by rw [hex]; simp)
        rw [young] at z
        cases z
    have off : ∀ p ∈ X.pn ++ pins, p.1 ≠ a := fun p hp z => by
      have y := (J.pin p hp).1
      rw [z, young] at y
      cases y
    have S3 := J3.suite e3 d3 na nL nF
    have LT : PySem.W.Looks (model X.prog X.w) h3 (typeOf (.ref a)) cls := fun _ _ _ s k q => wpAny_typeOf_ref (k _ _ e3) (by rw [z3.1]; exact q)
    have LM := PySem.W.exm_one (M := model X.prog X.w) J3.kIn LT hb1
    have ask : ∀ {Q2 : Value → Shared → Prop} {E2 : Value → Shared → Prop}, Q2 c { s2 with heap := h3 } → wpAny (model X.prog X.w) (X.A.mark (some (.ref a))) (eval (.Name x np) X.env) Q2 E2 { s2 with heap := h3 } := fun {Q2 E2} q => by
      obtain ⟨hg, hdb, hm | ⟨hm, hv, hnn⟩⟩ := hc
      · exact ld_glob (X := X.suite a ((a, o3) :: (X.pn ++ pins))) S3 hg hm q hdb
      · exact ld_blt (X := X.suite a ((a, o3) :: (X.pn ++ pins))) S3 hg hm hv q hnn hdb
    refine wpAny_handleBy_cons (codeAny_handlers_test (ask (LM.here ?_))) (by intro q; cases q)
    cases b with
    | true =>
      refine codeAny_handlers_suite_as (HandSPX.lands_againZ l3 fun h4 l4 up4 => ?_)
      have J4 : Inv X pins τ H2 { s2 with heap := h4 } := J.landed nb l4.1 ((up.trans up3).trans up4) os ag
      obtain ⟨o4, v4, e4, z4, d4⟩ := l4.there
      have S4 : Inv (X.suite a (X.pn ++ pins)) [] τ (upd H2 a (Xn a cls d)) { s2 with heap := h4 } := suite_in (more_told (track J4 e4 na nL off young0 z4.zc d4) e4 na z4.zc d4 (z4.2.2 _ d4))
      refine store_ok (X := X.suite a (X.pn ++ pins)) (v := .ref a) S4 hN hi hlc rfl (fun s5 S5 => ?_) (.inr hln)
      refine wpAny_mono ((hsu a cls d (X.pn ++ pins)).run [] s5 _ _ _ S5 (yes rfl a na)) (fun fl s6 hsp => ?_) fun _ _ z => z.elim
      have fin : ∀ {σ6 : L2.St} {H6 : Hp} {Q2 : Shared → Prop}, Inv (X.suite a (X.pn ++ pins)) [] σ6 H6 s6 → (∀ s7, Inv X pins (σ6.set i none) H6 s7 → Q2 s7) →
          wpAny (model X.prog X.w) X.A (do bindName X.env n .none; unbindBehindTheSuite X.env n pos2) (fun _ s7 => Q2 s7) X.xe s6 := fun {σ6 H6 Q2} S6 hq =>
        gone_ok (X := X.suite a (X.pn ++ pins)) S6 hN hi hln fun s7 S7 => hq s7 (suite_out S7 ok)
      cases fl with
      | next =>
        obtain ⟨σ6, H6, S6, q6⟩ := hsp
        exact fin S6 fun s7 J7 => ⟨_, _, J7, q6⟩
      | brk =>
        obtain ⟨σ6, H6, S6, q6⟩ := hsp
        exact fin S6 fun s7 J7 => ⟨_, _, J7, q6⟩
      | cont =>
        obtain ⟨σ6, H6, S6, q6⟩ := hsp
        exact fin S6 fun s7 J7 => ⟨_, _, J7, q6⟩
      | ret u =>
        obtain ⟨v6, σ6, H6, S6, r6, q6⟩ := hsp
        exact fin S6 fun s7 J7 => ⟨_, _, _, J7, r6, q6⟩
    | false =>
      refine wpAny_handleBy_nil ?_
      obtain ⟨_, _, _, oe, vs, T, _, _, he, _, hd, h1, _⟩ := id l3
      unfold PySem.passOn
      refine wpAny_bind (wpAny_field he hd h1 ?_)
      rw [if_neg (show ¬ ((Value.ref T == Value.none) = true) from by simp)]
      have go : wpAny (model X.prog X.w) X.A (setFlight (.ref a) X.env.frame) (fun _ s4 => wpAny (model X.prog X.w) X.A (throw (.ref a) : Sem Flow) (SP X pins D) X.xe s4) X.xe { s2 with heap := h3 } := by
        rw [hf]
        exact HandSPX.setFlight_upZ l3 fun h4 g4 up4 => wpAny_throw (tk _ _ ⟨a, G, sI, pins, τ, H2, cls, d, rfl, J, nb, (up.trans up3).trans up4, .inr (.inr (by rw [hs]; exact g4)), na, os, ag, no rfl⟩)
      first
        | exact wpAny_bind (wpAny_pure (wpAny_bind go))
        | exact wpAny_bind go
  · cases fl with
    | next =>
      obtain ⟨τ, H2, J, q⟩ := q
      exact wpAny_execs_nil ⟨τ, H2, J.ofTry ok, q⟩
    | brk =>
      obtain ⟨τ, H2, J, q⟩ := q
      exact ⟨τ, H2, J.ofTry ok, q⟩
    | cont =>
      obtain ⟨τ, H2, J, q⟩ := q
      exact ⟨τ, H2, J.ofTry ok, q⟩
    | ret u =>
      obtain ⟨v, τ, H2, J, r, q⟩ := q
      exact ⟨v, τ, H2, J.ofTry ok, r, q⟩
end
end Sq


set_option Elab.async false
set_option maxRecDepth 100000
set_option maxHeartbeats 4000000
/-! code that runs while an exception is handled: lists and tuples walked, defs called -/
namespace Sq
open PySem PySem.Spec PyProof.Rows L2 HotX
/-! ## ends of iterators -/
section
variable {prog : Program} {w : World} {A : Around} {E : Value → Shared → Prop} {s : Shared}
theorem hot_ne {x1 it : Addr} {o : Obj} {vs : Array Value} (hot : HotAt A x1 s.heap) (ho : s.heap.get? it = some o) (hd : o.data = .fields vs) (hs : vs[2]? ≠ some .none) : x1 ≠ it := fun z => by
  obtain ⟨_, o1, v1, e1, d1, c1⟩ := hot
  rw [z, ho] at e1
  cases e1
  rw [hd] at d1
  cases d1
  exact hs c1
/-- StopIteration, raised behind a field that was set -/
theorem stop_hot {α : Type} {it x1 : Addr} {h1 : Heap} {E' : Value → Shared → Prop} (hot : HotAt A x1 s.heap) (ne : x1 ≠ it) (k1 : ∀ b u, b ≠ it → s.heap.get? b = some u → h1.get? b = some u)
    (hcl : ∀ e h', (∃ o, h'.get? e = some o ∧ o.cls = .type "StopIteration") → Heap.ExtBut it s.heap h' → E' (.ref e) { s with heap := h' }) :
    wpAny (model prog w) A (raiseNew (α := α) =<< newExc (.type "StopIteration") []) (fun _ _ => False) E' { s with heap := h1 } := by
  obtain ⟨hh, o1, v1, e1, d1, c1⟩ := hot
  show wpAny _ _ (newExc (.type "StopIteration") [] >>= _) _ _ _
  refine wpAny_bind ?_
  simp only [newExc, newTuple]
  refine wpAny_bind (wpAny_newObj_type ?_ (by size_fits))
  refine wpAny_bind (m := firstArgMember _ _) (wpAny_of_eq (a := Value.none) (by first | rfl | (simp only [firstArgMember]; rfl)) (wpAny_newObj_type ?_ (by size_fits)))
  have g1 := Heap.get?_push_of_some { cls := .type "tuple", data := .seq (#[] : Array Value) } (k1 x1 _ ne e1)
  refine raiseNew_hot ⟨hh, o1, v1, Heap.get?_push_of_some _ g1, d1, c1⟩ (Nat.ne_of_lt (Heap.lt_size g1)) (Heap.get?_push_size _ rfl) rfl (by first | (simp; done) | (simp; omega) | (simp only [Array.size_append]; simp; omega)) ?_
  refine hcl _ _ ⟨_, Heap.get?_update_self _ (Heap.get?_push_size _ rfl) rfl, rfl⟩ fun b u hb q => ?_
  have g2 := Heap.get?_push_of_some { cls := .type "tuple", data := .seq (#[] : Array Value) } (k1 b u hb q)
  rw [Heap.get?_update_other _ _ (Nat.ne_of_gt (Heap.lt_size g2))]
  exact Heap.get?_push_of_some _ g2
theorem list_end_hot {it l x1 : Addr} {i : Nat} {items : Array Value} {Q : Option Value → Shared → Prop} (hot : HotAt A x1 s.heap) (hit : s.heap.IsListIter it l i) (hl : s.heap.IsList l items) (hx : items[i]? = none)
    (hQ : ∀ h', Heap.ExtBut it s.heap h' → Q none { s with heap := h' }) : wpAny (model prog w) A (pyNext (.ref it)) Q E s := by
  obtain ⟨o, ho, hc, hd⟩ := id hit
  obtain ⟨ol, hol, _, nl, hdl⟩ := hl
  have ne := hot_ne hot ho hd (by simp)
  unfold pyNext
  refine wpAny_bind (wpAny_attempt (wpAny_callSpecial?_slot (name := Str.ofString "__next__") hit.typeIs slot_listiter_next (wpAny_call_entry slot_listiter_next hit.typeIs entry_listiter_next ?_ (args_listiter_next _))))
  refine show wpAny _ _ (field (.ref it) 0 >>= _) _ _ s from wpAny_bind (wpAny_field ho hd (x := .ref l) rfl ?_)
  show wpAny _ _ (if (Value.ref l == Value.none) = true then _ else _) _ _ s
  rw [if_neg (by exact Bool.false_ne_true)]
  refine show wpAny _ _ (field (.ref it) 1 >>= _) _ _ s from wpAny_bind (wpAny_field ho hd (x := .int i 0) rfl ?_)
  refine show wpAny _ _ (seqItems? (.ref l) >>= _) _ _ s from wpAny_bind (wpAny_seqItems hol hdl ?_)
  simp only [Int.toNat_natCast, hx]
  refine wpAny_bind (wpAny_rule (wpAny_bind (wpAny_setField ho hd (by simp) ?_)))
  refine wpAny_mono (stop_hot (A := A.in1) (E' := fun x s' => wpAny (model prog w) A (isInstance x (.type "StopIteration")) (fun b s2 => b = true ∧ Q none s2) (fun _ _ => False) s') hot ne (fun b u hb q => (Heap.get?_update_other _ _ (Ne.symm hb)).trans q) fun e h' ⟨oe, he, hce⟩ k => ?_) (fun _ _ z => z.elim) fun x s' hx2 => ?_
  · exact wpAny_isInstance (T := "StopIteration") (b := true) ⟨oe, he, hce⟩ isSubtype_stop ⟨rfl, hQ _ k⟩
  · refine wpAny_bind (wpAny_mono hx2 (fun b s2 hb => ?_) fun _ _ z => z.elim)
    obtain ⟨rfl, hb⟩ := hb
    exact wpAny_pure hb
theorem tuple_end_hot {it l x1 : Addr} {i : Nat} {items : Array Value} {Q : Option Value → Shared → Prop} (hot : HotAt A x1 s.heap) (hit : s.heap.IsTupleIter it l i) (hl : s.heap.IsTuple l items) (hx : items[i]? = none)
    (hQ : ∀ h', Heap.ExtBut it s.heap h' → Q none { s with heap := h' }) : wpAny (model prog w) A (pyNext (.ref it)) Q E s := by
  obtain ⟨o, ho, hc, hd⟩ := id hit
  obtain ⟨ol, hol, _, nl, hdl⟩ := hl
  have ne := hot_ne hot ho hd (by simp)
  unfold pyNext
  refine wpAny_bind (wpAny_attempt (wpAny_callSpecial?_slot (name := Str.ofString "__next__") hit.typeIs PySem.F.slot_tuple_iterator_next (wpAny_call_entry PySem.F.slot_tuple_iterator_next hit.typeIs PySem.F.entry_tuple_iterator_next ?_ (PySem.F.args_tuple_iterator_next_1 _))))
  refine show wpAny _ _ (field (.ref it) 0 >>= _) _ _ s from wpAny_bind (wpAny_field ho hd (x := .ref l) rfl ?_)
  show wpAny _ _ (if (Value.ref l == Value.none) = true then _ else _) _ _ s
  rw [if_neg (by exact Bool.false_ne_true)]
  refine show wpAny _ _ (field (.ref it) 1 >>= _) _ _ s from wpAny_bind (wpAny_field ho hd (x := .int i 0) rfl ?_)
  refine show wpAny _ _ (seqItems? (.ref l) >>= _) _ _ s from wpAny_bind (wpAny_seqItems hol hdl ?_)
  simp only [Int.toNat_natCast, hx]
  refine wpAny_bind (wpAny_rule (wpAny_bind (wpAny_setField ho hd (by simp) ?_)))
  refine wpAny_mono (stop_hot (A := A.in1) (E' := fun x s' => wpAny (model prog w) A (isInstance x (.type "StopIteration")) (fun b s2 => b = true ∧ Q none s2) (fun _ _ => False) s') hot ne (fun b u hb q => (Heap.get?_update_other _ _ (Ne.symm hb)).trans q) fun e h' ⟨oe, he, hce⟩ k => ?_) (fun _ _ z => z.elim) fun x s' hx2 => ?_
  · exact wpAny_isInstance (T := "StopIteration") (b := true) ⟨oe, he, hce⟩ isSubtype_stop ⟨rfl, hQ _ k⟩
  · refine wpAny_bind (wpAny_mono hx2 (fun b s2 hb => ?_) fun _ _ z => z.elim)
    obtain ⟨rfl, hb⟩ := hb
    exact wpAny_pure hb
/-- a tuple taken apart -/
theorem assign_tup_hot {env : Env} {elts : List Expr} {kk : Nat} {pos : Pos} {t x1 : Addr} {items : Array Value} {Q : Unit → Shared → Prop} (hot : HotAt A x1 s.heap) (ht : s.heap.IsTuple t items) (hn : (assignEach elts env).length = items.size) (hst : (assignEach elts env).findIdx? (·.1) = none)
    (h : ∀ h', Heap.ExtBut s.heap.objs.size s.heap h' → wpAny (model prog w) A (assignInOrder ((assignEach elts env).map (·.2)) items.toList) Q E { s with heap := h' }) : wpAny (model prog w) A (assign (.Tuple elts kk pos) env (.ref t)) Q E s := by
  have lt : t ≠ s.heap.objs.size := by
    obtain ⟨o, ho, _⟩ := ht
    exact Nat.ne_of_lt (Heap.lt_size ho)
  have lx : x1 ≠ s.heap.objs.size := by
    obtain ⟨_, o, _, ho, _⟩ := hot
    exact Nat.ne_of_lt (Heap.lt_size ho)
  rw [arm_assign_Tuple]
  refine wpAny_bind (wpAny_standAt ?_)
  unfold unpack
  rw [hn, hst]
  refine wpAny_bind (wpAny_holding ?_)
  unfold unpackItems
  refine wpAny_bind ?_
  unfold notIterableAtAll
  refine wpAny_bind (wpAny_specialOf ht.typeIs PySem.F.slot_tuple_iter.lookup (wpAny_pure ?_))
  simp only [Bool.false_eq_true, if_false]
  refine wpAny_bind (wpAny_holding (wpAny_pyIter_tuple ht (wpAny_bind (wpAny_holding (wpAny_draw_tuple lt items.size 0 _ _ ⟨_, Heap.get?_push_size _ rfl, rfl, rfl⟩ (ht.push _) (by omega) fun h1 hit1 sb1 => ?_)))))
  have all : List.take items.size (List.drop 0 items.toList) = items.toList := List.take_of_length_le (by simp)
  rw [all, if_neg (by simp)]
  have hot1 : HotAt A x1 h1 := by
    obtain ⟨hh, o, v, e, r⟩ := hot
    exact ⟨hh, o, v, sb1.extBut _ _ lx (Heap.get?_push_of_some _ e), r⟩
  refine wpAny_bind (wpAny_holding (tuple_end_hot hot1 hit1 ((ht.push _).extBut sb1.extBut lt) (by simp) fun h2 e2 => ?_))
  simp only [Option.isSome_none, Bool.false_eq_true, if_false]
  exact wpAny_pure (h h2 fun b o hb e => e2 b o hb (sb1.extBut b o hb (Heap.get?_push_of_some _ e)))
end
/-! ## what a context knows of the handled exception -/
/-- the exception that is handled is tracked, its context is None -/
def HotN (x1 : Addr) (H : Hp) : Prop := ∃ (cls : Value) (d : Option Addr), H x1 = some (Xn x1 cls d)
theorem HotN.at {X : Cx} {pins : List (Addr × Obj)} {σ : L2.St} {H : Hp} {s : Shared} {x1 : Addr} (h : HotN x1 H) (hh : X.A.handled = some (.ref x1)) (I : Inv X pins σ H s) : HotAt X.A x1 s.heap := by
  obtain ⟨cls, d, e⟩ := h
  obtain ⟨oe, vs, e1, _, e2, e3⟩ := xn_at I.hok e
  exact ⟨hh, oe, vs, e1, e2, e3⟩
theorem HotN.same {x1 : Addr} {H H' : Hp} (h : HotN x1 H) (s : Same H H') : HotN x1 H' := by
  obtain ⟨cls, d, e⟩ := h
  exact ⟨cls, d, s _ _ e⟩
/-! ## a tuple target -/
def gTupN (x1 : Addr) (K : PySem.W.Frag) (n : Nat) (t : TGs) : TG := fun v σ H Q => ∃ a xs, v = .ref a ∧ SqT K H a xs ∧ xs.length = n ∧ HotN x1 H ∧ t xs σ H Q
theorem pg_tupN {X : Cx} {K : PySem.W.Frag} {es : List Expr} {kk : Nat} {pos : Pos} {t : TGs} {n : Nat} {x1 : Addr} (hh : X.A.handled = some (.ref x1)) (h : PGs X es t) (hn : (assignEach es X.env).length = n := by rfl) (hst : (assignEach es X.env).findIdx? (·.1) = none := by rfl) (hK : X.K = K := by rfl) : PG X (.Tuple es kk pos) (gTupN x1 K n t) := by
  subst hK
  refine ⟨fun pins s σ H v u Q I r hw => ?_⟩
  obtain ⟨a, xs, rfl, hq, hl, hot, hw⟩ := hw
  obtain rfl : u = Value.ref a := r
  obtain ⟨its, rv, ht, hz⟩ := I.tuple hq
  refine assign_tup_hot (hot.at hh I) (show s.heap.IsTuple a its.toArray from ht) (by simp [hn, ← hl, rv.length]) hst fun h' hx => ?_
  exact h.run pins _ σ H xs _ Q (I.kept (t' := s.toks) fun b o e => hx b o (Nat.ne_of_lt (Heap.lt_size e)) e) (by simpa using rv) hw
/-! ## a comprehension over a list -/
def ItlN (x1 : Addr) (K : PySem.W.Frag) (a : Addr) : It := ⟨(Itl K a).go, (Itl K a).yld, fun i H => HotN x1 H ∧ (Itl K a).stop i H⟩
def iListN (x1 : Addr) (K : PySem.W.Frag) (te : TE) : TI := fun σ H R => te σ H fun x H1 => ∃ a, x = .ref a ∧ (∃ xs, SqL K H1 a xs) ∧ R (ItlN x1 K a) H1
section
variable {X : Cx}
theorem lc_coreN {pins : List (Addr × Obj)} {s : Shared} {σ : L2.St} {H : Hp} {Q : VK} {elt tg l : Expr} {ifs : List Expr} {scope : Scope} {own : List (Str × Nat)} {pos pos2 : Pos} {tl : TE} {g : TG} {tt : TT} {te : TE} {use : Option (Value → Sem Unit)} {Qf : Value → Shared → Prop} {x1 : Addr} (hh : X.A.handled = some (.ref x1)) (nd : X.N.Nodup) (I : Inv X pins σ H s) (hl : PE X l tl) (ok : BlkOk X.N X.env.scope scope own)
    (hg : ∀ (s : Shared) (H : Hp) (C : Addr) (cl : List (Str × Addr)) (fp : List Addr), PG (X.blk s H scope (compEnvC scope cl C X.env) fp) tg g) (ht : ∀ (s : Shared) (H : Hp) (C : Addr) (cl : List (Str × Addr)) (fp : List Addr), PTs (X.blk s H scope (compEnvC scope cl C X.env) fp) ifs tt)
    (he : ∀ (s : Shared) (H : Hp) (C : Addr) (cl : List (Str × Addr)) (fp : List Addr), PE (X.blk s H scope (compEnvC scope cl C X.env) fp) elt te) (hs : ∀ x, foldedSetIterable l X.env x = pure x) (h : tLc (iListN x1 X.K tl) g tt te (own.map (·.2)) σ H Q)
    (hRR : ∀ D C s' m H', Inv X pins σ H' s' → Q (.ref D) H' → s'.heap.Ns C m → FpOk X pins H' C → compPost (model X.prog X.w) X.A X.xe use Qf (.ref D) C (.ok .next) s') :
    wpAny (model X.prog X.w) X.A (comprehension (.ListComp elt [⟨tg, l, ifs, 0⟩] scope pos) scope X.env pos2 (newList []) false (eval l X.env) use) Qf X.xe s := by
  have fr : ∀ y ∈ scope.names, y.2 = .free → ∃ c, X.env.cells.lookup y.1 = some c := fun y hy e => (ok.free y hy e).elim (fun k => I.ok.has _ (.inl k)) fun k => I.ok.has _ (.inr k)
  refine wpAny_comprehension_free (use := use) rfl hs (closure_ok fr) ok.kind (fun y hy e => by rw [ok.uniq y hy, e]) (thn (hl.run pins s σ H _ I h) fun xv s1 got => ?_)
  obtain ⟨x, H1, I1, rx, a, rfl, ⟨xs, hq⟩, q⟩ := got
  obtain rfl : xv = Value.ref a := rx
  obtain ⟨its, rv, p, hz⟩ := I1.list hq
  refine wpAny_pyIter_list p.isList ?_
  have I2 : Inv X pins σ H1 { s1 with heap := s1.heap.push { cls := .type "list_iterator", data := .fields #[.ref a, .int 0 0] } } := I1.kept (t' := s1.toks) fun b o e => Heap.get?_push_of_some _ e
  have itA := I1.fpOk (Nat.le_refl _) (I1.hok.fresh (Nat.le_refl _))
  have st2 : (s1.heap.push { cls := .type "list_iterator", data := .fields #[.ref a, .int 0 0] }).IsListIter s1.heap.objs.size a 0 := ⟨_, Heap.get?_push_size _ rfl, rfl, rfl⟩
  generalize hit : s1.heap.objs.size = it at itA st2 ⊢
  generalize hs2 : ({ s1 with heap := s1.heap.push { cls := .type "list_iterator", data := .fields #[.ref a, .int 0 0] } } : Shared) = s2 at I2 ⊢
  have e2 : s2.heap = s1.heap.push { cls := .type "list_iterator", data := .fields #[.ref a, .int 0 0] } := by rw [← hs2]
  rw [← e2] at st2
  refine wpAny_newObj_type (newEnv_comp ?_) (by show 0 ≤ sizeLine; decide)
  generalize hD : s2.heap.objs.size = D
  have nD : H1 D = none := I2.hok.fresh (Nat.le_of_eq hD)
  obtain ⟨W, ⟨m0, w0⟩, turn⟩ := q D nD
  generalize hs3 : ({ s2 with heap := s2.heap.push { cls := .type "list", data := .seq ([] : List Value).toArray } } : Shared) = s3
  have e3 : s3.heap = s2.heap.push { cls := .type "list", data := .seq ([] : List Value).toArray } := by rw [← hs3]
  have I3 : Inv X pins σ (upd H1 D (.lst [])) s3 := by
    rw [← hs3]
    exact I2.laid (t' := s2.toks) (fun b o e => Heap.get?_push_of_some _ e) (Nat.le_of_eq hD) ⟨Nat.zero_le _, [], 0, .nil, by rw [← hD]; exact Heap.get?_push_size _ rfl⟩
  have ltit : it < s2.heap.objs.size := by
    obtain ⟨o, e, _⟩ := st2
    exact Heap.lt_size e
  have f3 : ∀ b ∈ [it], FpOk X pins (upd H1 D (.lst [])) b ∧ b < s3.heap.objs.size := fun b hb => by
    rw [List.mem_singleton.mp hb, e3, Heap.size_push]
    exact ⟨⟨by rw [upd_ne (by rw [← hD]; exact Nat.ne_of_lt ltit)]; exact itA.1, itA.2⟩, Nat.lt_succ_of_lt ltit⟩
  have I4 := block_start I3 ok nd f3
  have pg := hg s3 (upd H1 D (.lst [])) s3.heap.objs.size (cellsFrom (s3.heap.objs.size + 1) scope.names (cloFrom X.env.cells scope.names [])) [it]
  have pt := ht s3 (upd H1 D (.lst [])) s3.heap.objs.size (cellsFrom (s3.heap.objs.size + 1) scope.names (cloFrom X.env.cells scope.names [])) [it]
  have pe := he s3 (upd H1 D (.lst [])) s3.heap.objs.size (cellsFrom (s3.heap.objs.size + 1) scope.names (cloFrom X.env.cells scope.names [])) [it]
  show codeAny _ _ (.compStart (.ListComp elt [⟨tg, l, ifs, 0⟩] scope pos) 0 (.ref it) (.ref D) (compEnvC scope (cellsFrom (s3.heap.objs.size + 1) scope.names (cloFrom X.env.cells scope.names [])) s3.heap.objs.size X.env)) (compPost (model X.prog X.w) X.A X.xe use Qf (.ref D) s3.heap.objs.size) { s3 with heap := pushCells (s3.heap.push { cls := .type "dict", data := .dict #[] }) scope.names }
  generalize hce : compEnvC scope (cellsFrom (s3.heap.objs.size + 1) scope.names (cloFrom X.env.cells scope.names [])) s3.heap.objs.size X.env = ce at I4 pg pt pe ⊢
  have cL : ce.locals = s3.heap.objs.size := by
    subst hce
    rfl
  have nit := (f3 it List.mem_cons_self).1.1
  generalize hH3 : upd H1 D (.lst []) = H3 at I3 I4 pg pt pe w0 nit f3
  generalize hs4 : ({ s3 with heap := pushCells (s3.heap.push { cls := .type "dict", data := .dict #[] }) scope.names } : Shared) = s4 at I4 ⊢
  have st4 : s4.heap.IsListIter it a 0 := st2.at fun o e => by
    rw [← hs4]
    exact pushCells_keeps _ _ _ _ (Heap.get?_push_of_some _ (by rw [e3]; exact Heap.get?_push_of_some _ e))
  have stat : ∀ {σ5 : L2.St} {H5 : Hp} {s5 : Shared}, Inv (X.blk s3 H3 scope ce [it]) [] σ5 H5 s5 → H5 it = none → FpOk (X.blk s3 H3 scope ce [it]) [] H5 it := fun {σ5 H5 s5} I5 n =>
    have m : it ∈ [it] := List.mem_cons_self
    ⟨n, (I5.ok.exf it m).1, I5.ok.exfs it m, .inl m, fun x c e => (I5.ok.exf it m).2 x c e, fun p hp => absurd (show p ∈ ([] : List (Addr × Obj)) ++ [] from hp) (by simp)⟩
  have loop : codeAny (model X.prog X.w) X.A (.compLoop (.ListComp elt [⟨tg, l, ifs, 0⟩] scope pos) 0 (.ref it) (.ref D) ce) (compPost (model X.prog X.w) X.A X.xe use Qf (.ref D) s3.heap.objs.size) s4 := by
    refine compLoop_any (fun n s5 => ∃ i H5, Inv (X.blk s3 H3 scope ce [it]) [] (wipe σ (own.map (·.2))) H5 s5 ∧ s5.heap.IsListIter it a i ∧ H5 it = none ∧ W i n H5) ?_ m0 ⟨0, H3, I4, st4, nit, w0⟩
    rintro n s5 ⟨i, H5, I5, st5, n5, w5⟩
    obtain ⟨g0, g1, g2, g3, g4, g5⟩ := stat I5 n5
    rcases turn i n H5 w5 with ⟨⟨hot, ys, hy, ly⟩, qq⟩ | ⟨⟨ys, y, hy, ey⟩, Nx, hNx, step⟩
    · obtain ⟨jts, rj, pj, _⟩ := I5.list hy
      have lj := rj.length
      refine list_end_hot (hot.at (X := X.blk s3 H3 scope ce [it]) hh I5) st5 pj.isList (by simp; omega) fun h6 eb => ?_
      have I6 : Inv (X.blk s3 H3 scope ce [it]) [] _ H5 { s5 with heap := h6 } := I5.turned (t' := s5.toks) (fun b o hb e => eb b o hb e) g0 g1 g3 g4 g5
      have I7 : Inv X pins σ H5 { s5 with heap := h6 } := I3.call' (ch := [it]) I6.os I6.base I6.hok I6.bare fun b hb => by
        obtain ⟨⟨_, k1, _, k3, k4, k5⟩, _⟩ := f3 b hb
        exact ⟨k3, k1, k4, k5⟩
      have nC : H5 s3.heap.objs.size = none := by
        rw [← cL]
        exact I6.free
      obtain ⟨m, hn, _⟩ := I6.loc
      have hn2 : h6.Ns s3.heap.objs.size m := by
        rw [← cL]
        exact hn
      exact hRR D s3.heap.objs.size _ m H5 I7 qq hn2 (I3.fpOk (Nat.le_refl _) nC)
    · obtain ⟨jts, rj, pj, _⟩ := I5.list hy
      obtain ⟨u, hu, ru⟩ := rj.get ey
      refine wpAny_pyNext_list_item st5 pj.isList (x := u) (by simpa using hu) fun h6 st6 sb => ?_
      have I6 : Inv (X.blk s3 H3 scope ce [it]) [] _ H5 { s5 with heap := h6 } := I5.turned (t' := s5.toks) (fun b o hb e => (sb.2 b hb).trans e) g0 g1 g3 g4 g5
      obtain ⟨oi, ei, ci, di⟩ := id st6
      refine go_of (s := { s5 with heap := h6 }) ei ci di (by decide) ?_
      have I6' := I6.pinned (fp := [it]) (fun b hb => by rw [List.mem_singleton.mp hb]; exact stat I6 n5) fun b hb => by
        rw [List.mem_singleton.mp hb]
        exact ⟨oi, ei, fun v z => by rw [di] at z; cases z⟩
      refine thnF (pg.run _ _ _ H5 y u _ I6' ru (step y H5 ⟨rfl, fun zs hz => by rw [I5.list_inj hz hy]; exact ey⟩)) fun _ s8 ⟨σ8, H8, I8, hw8, q8⟩ => ?_
      refine thnF (pt.run _ s8 σ8 H8 _ I8 q8) fun b s9 ⟨H9, I9, q9⟩ => ?_
      have fin : ∀ {s' : Shared} {H' : Hp}, Inv (X.blk s3 H3 scope ce [it]) ([] ++ pinsAt [it] h6) σ8 H' s' → Nx H' → ∃ m, m < n ∧ ∃ i H', Inv (X.blk s3 H3 scope ce [it]) [] (wipe σ (own.map (·.2))) H' s' ∧ s'.heap.IsListIter it a i ∧ H' it = none ∧ W i m H' := fun {s' H'} I' nx => by
        obtain ⟨m', hm, w'⟩ := hNx H' nx
        have pin := I'.pin (it, oi) (List.mem_append_right _ (List.mem_append_right _ (mem_pinsAt List.mem_cons_self ei)))
        have lw : (wipe σ (own.map (·.2))).length = σ8.length := by rw [← hw8, wipe_length]
        exact ⟨m', hm, i + 1, H', (I'.unpinned (pins := [])).weak lw (fun j v e => by rw [← hw8] at e; exact (wipe_some e).1), ⟨oi, pin.1, ci, di⟩, pin.2.1, w'⟩
      cases b with
      | false =>
        simp only [Bool.false_eq_true, if_false] at q9 ⊢
        exact fin I9 q9
      | true =>
        simp only [if_true] at q9 ⊢
        refine thnF (pe.run _ s9 σ8 H9 _ I9 q9) fun z s10 ⟨yv, H10, I10, r10, acc, hD10, hz10, nx⟩ => ?_
        exact app_ok (X := X.blk s3 H3 scope ce [it]) I10 hD10 hz10 r10 fun s11 I11 => fin I11 nx
  exact codeAny_compStart_list loop (wpAny_pyIter_listiter st4 loop)
theorem pe_lcN {elt tg l : Expr} {ifs : List Expr} {scope : Scope} {own : List (Str × Nat)} {pos : Pos} {tl : TE} {g : TG} {tt : TT} {te : TE} {x1 : Addr} (hh : X.A.handled = some (.ref x1)) (nd : X.N.Nodup) (hl : PE X l tl) (ok : BlkOk X.N X.env.scope scope own)
    (hg : ∀ (s : Shared) (H : Hp) (C : Addr) (cl : List (Str × Addr)) (fp : List Addr), PG (X.blk s H scope (compEnvC scope cl C X.env) fp) tg g) (ht : ∀ (s : Shared) (H : Hp) (C : Addr) (cl : List (Str × Addr)) (fp : List Addr), PTs (X.blk s H scope (compEnvC scope cl C X.env) fp) ifs tt)
    (he : ∀ (s : Shared) (H : Hp) (C : Addr) (cl : List (Str × Addr)) (fp : List Addr), PE (X.blk s H scope (compEnvC scope cl C X.env) fp) elt te) (hs : ∀ x, foldedSetIterable l X.env x = pure x := by intro _; rfl) :
    PE X (.ListComp elt [⟨tg, l, ifs, 0⟩] scope pos) (tLc (iListN x1 X.K tl) g tt te (own.map (·.2))) := by
  refine ⟨fun pins s σ H Q I h => ?_⟩
  rw [eval_ListComp]
  refine lc_coreN hh nd I hl ok hg ht he hs h fun D C s' m H' J q hn ⟨k0, k1, k2, k3, k4, k5⟩ => ⟨m, hn, fun h8 sb => ?_⟩
  exact ⟨.ref D, H', J.turned (t' := s'.toks) (fun b o hb e => (sb.2 b hb).trans e) k0 k1 k3 k4 k5, rfl, q⟩
/-- name = [..], the name a local -/
theorem ps_setLcN {i : Nat} {y : Str} {py spos : Pos} {elt tg l : Expr} {ifs : List Expr} {scope : Scope} {own : List (Str × Nat)} {pos : Pos} {tl : TE} {g : TG} {tt : TT} {te : TE} {x1 : Addr} (hh : X.A.handled = some (.ref x1)) (nd : X.N.Nodup) (hy : X.N[i]? = some y) (hyl : X.env.scope.names.lookup y = some .local)
    (hsw : swapsWith (.ListComp elt [⟨tg, l, ifs, 0⟩] scope pos) (some (.Name y py)) spos.line X.env = pure true) (hl : PE X l tl) (ok : BlkOk X.N X.env.scope scope own)
    (hg : ∀ (s : Shared) (H : Hp) (C : Addr) (cl : List (Str × Addr)) (fp : List Addr), PG (X.blk s H scope (compEnvC scope cl C X.env) fp) tg g) (ht : ∀ (s : Shared) (H : Hp) (C : Addr) (cl : List (Str × Addr)) (fp : List Addr), PTs (X.blk s H scope (compEnvC scope cl C X.env) fp) ifs tt)
    (he : ∀ (s : Shared) (H : Hp) (C : Addr) (cl : List (Str × Addr)) (fp : List Addr), PE (X.blk s H scope (compEnvC scope cl C X.env) fp) elt te) (hs : ∀ x, foldedSetIterable l X.env x = pure x := by intro _; rfl) :
    PS X (.Assign [.Name y py] (.ListComp elt [⟨tg, l, ifs, 0⟩] scope pos) spos) (tAsg (tLc (iListN x1 X.K tl) g tt te (own.map (·.2))) (gName i)) := by
  refine ⟨fun pins s σ H D I h => ?_⟩
  rw [exec_Assign_Name_used _ _ _ _ hsw]
  refine wpAny_bind (wpAny_standAt (wpAny_bind ?_))
  have h2 : tLc (iListN x1 X.K tl) g tt te (own.map (·.2)) σ H (fun x H1 => gName i x σ H1 D.nx) := h
  show wpAny _ X.A (do let _ ← comprehension (.ListComp elt [⟨tg, l, ifs, 0⟩] scope pos) scope X.env (firstIterPos [⟨tg, l, ifs, 0⟩] pos) (newList []) false (eval l X.env) (some (assign (.Name y py) X.env))) _ _ s
  refine wpAny_bind (thn (lc_coreN (Qf := fun _ s' => SP X pins D .next s') hh nd I hl ok hg ht he hs h2 fun L C s' m H' J q hn f => ?_) fun _ s' hq => wpAny_pure (wpAny_pure hq))
  show wpAny _ _ (assign (.Name y py) X.env (.ref L)) _ _ _
  refine wpAny_assign_Name (store_ok2 (v := V.ref L) J nd hy (.inl hyl) rfl (fun s2 J2 ⟨b, sb, hb⟩ => ?_) (.inr hyl))
  obtain ⟨k0, k1, k2, k3, k4, k5⟩ := f
  have ne : C ≠ b := hb.elim (fun z => by rw [z]; exact k1) fun z e => k4 y b z e.symm
  exact ⟨m, hn.sameBut sb ne, fun h8 sb8 => ⟨_, H', J2.turned (t' := s2.toks) (fun b o hb e => (sb8.2 b hb).trans e) k0 k1 k3 k4 k5, q⟩⟩
end
/-- over a list that the block leaves as it is -/
theorem lc_listN {x1 : Addr} {K : PySem.W.Frag} {a : Addr} {xs : List V} {H0 : Hp} {Bd : V → Hp → (Hp → Prop) → Prop} {Qd : Hp → Prop} (Pv : Nat → Hp → Prop) (h0 : Pv 0 H0) (hl : ∀ i H, i ≤ xs.length → Pv i H → SqL K H a xs)
    (hs : ∀ i x H, xs[i]? = some x → Pv i H → Bd x H (Pv (i + 1))) (hd : ∀ H, Pv xs.length H → HotN x1 H ∧ Qd H) :
    ∃ W : Nat → Nat → Hp → Prop, (∃ m, W 0 m H0) ∧ ∀ i m H, W i m H →
      ((ItlN x1 K a).stop i H ∧ Qd H) ∨ ((ItlN x1 K a).go i H ∧ ∃ Nx : Hp → Prop, (∀ H', Nx H' → ∃ m', m' < m ∧ W (i + 1) m' H') ∧ ∀ x H', (ItlN x1 K a).yld i H x H' → Bd x H' Nx) := by
  refine ⟨fun i m H => m = xs.length - i ∧ i ≤ xs.length ∧ Pv i H, ⟨xs.length, by simp, Nat.zero_le _, h0⟩, ?_⟩
  rintro i m H ⟨rfl, hi, p⟩
  have q := hl i H hi p
  by_cases lt : i < xs.length
  · refine .inr ⟨⟨xs, xs[i], q, by simp [lt]⟩, Pv (i + 1), fun H' p' => ⟨xs.length - (i + 1), by omega, rfl, lt, p'⟩, fun x H' y => ?_⟩
    obtain ⟨rfl, y⟩ := y
    exact hs i x _ (y xs q) p
  · have e : i = xs.length := by omega
    subst e
    obtain ⟨hot, qd⟩ := hd H p
    exact .inl ⟨⟨hot, xs, q, Nat.le_refl _⟩, qd⟩
end Sq


set_option Elab.async false
set_option maxRecDepth 100000
set_option maxHeartbeats 4000000
/-! a def called while an exception is handled -/
namespace Sq
open PySem PySem.Spec PyProof.Rows L2 HotX
open L2H (RoomH)
structure FnC (P : Program) (w : World) (K : PySem.W.Frag) (mg : Str → Option Value) (base : Heap) (k : Nat) (f : Addr) (fd : FuncData) (ps : List Str) (sp : Addr → Sp) : Prop where
  len : ∀ x1 vs H Q E, sp x1 vs H Q E → vs.length = ps.length
  run : ∀ (A : Around) (outer : List Env) (s : Shared) (H : Hp) (args : Args) (us : List Value) (vs : List V) (Q : VK) (E : XK) (x1 : Addr), RoomH k A → A.handled = some (.ref x1) → Env0 P w K mg base A outer s H → BindsTo s fd args (ps.zip us) → Vals vs us → sp x1 vs H Q E →
    codeAny (model P w) A (.call (.ref f) args) (CR CX0 outer P w H s Q E) s
/-- the context of its body -/
def cxC (P : Program) (w : World) (K : PySem.W.Frag) (mg : Str → Option Value) (base : Heap) (N : List Str) (qual : Str) (scope : Scope) (f : Addr) (cd : Value) (A : Around) (outer : List Env) (s : Shared) (H : Hp) : Cx :=
  { cxOf CX0 P w K mg base N qual scope f cd A outer s H E0 with calm := false, xe := fun _ _ => False }
theorem fn_ofC {P : Program} {w : World} {K : PySem.W.Frag} {mg : Str → Option Value} {base : Heap} {k : Nat} {f : Addr} {name qual : Str} {params : Arguments} {body : List Stmt} {scope : Scope} {dV kV doc pm cdv ct oc : Value} {an od : Option Addr}
    {osl : Array (Option Value)} {N ps : List Str} {sp : Addr → Sp} (lk : K.lookup f = some ⟨oc, od, .func (PySem.W.fnOf name qual params body scope dV kV doc pm an cdv ct), osl⟩) (hcd : PySem.W.codeIn K cdv qual = true) (S : FnScope N ps scope) (len : ∀ x1 vs H Q E, sp x1 vs H Q E → vs.length = ps.length)
    (hbody : ∀ (A : Around) (outer : List Env) (s : Shared) (H : Hp) (vs : List V) (Q : VK) (E : XK) (x1 : Addr), A.handled = some (.ref x1) → RoomH k (A.deeper (envOfC qual scope s.heap.objs.size f cdv)) → sp x1 vs H Q E →
      ∃ t, PSs (cxC P w K mg base N qual scope f cdv A outer s H) body t ∧ t { nx := fun _ H' => Q .non H', rt := Q } (L2.start N vs) H) : FnC P w K mg base (k + 1) f (PySem.W.fnOf name qual params body scope dV kV doc pm an cdv ct) ps sp := by
  refine ⟨len, fun A outer s H args us vs Q E x1 hr hh e0 hb r hsp => ?_⟩
  have hl := len _ _ _ _ _ hsp
  have KX : K.In s.heap := e0.mod.kin.keeps fun b o e => (e0.bs b o e).1
  have lim : s.heap.NoLimit := e0.mod.nolimit.keeps fun b o e => (e0.bs b o e).1
  have hk : ∀ y ∈ ps.zip us, scope.names.lookup y.1 = some .local ∨ (scope.names.lookup y.1 = some .cell ∧ ((cellsFrom (s.heap.objs.size + 1) scope.names []).lookup y.1).isSome = true) := fun ⟨n, v⟩ hy => (S.par n (List.of_mem_zip hy).1).elim .inl fun q => .inr ⟨q, PySem.W.cellsFrom_some _ _ _ (.inl q)⟩
  refine codeAny_call_function hr.depth (KX _ _ lk) rfl S.co S.gen rfl (PySem.W.codeRec_of KX hcd) (hb _ _ _ _ (wpAny_newFunctionEnv_cells S.kind hk fun env he s1 x => ?_))
  subst he
  refine ⟨lim.keeps x.toInCall.keep, codeAny_func ?_⟩
  obtain ⟨t, ht, hq⟩ := hbody A outer s H vs Q E x1 hh (hr.deeper _) hsp
  have e00 : Env0 P w K mg base { A with handled := none } outer s H := ⟨e0.1, e0.2, e0.3, e0.4, e0.5, e0.6, e0.7, e0.8⟩
  have I0 : Inv (cxOf CX0 P w K mg base N qual scope f cdv { A with handled := none } outer s H E0) [] (L2.start N vs) H s1 := inv_start S rfl e00 hl r x
  have ok0 := I0.ok
  have I : Inv (cxC P w K mg base N qual scope f cdv A outer s H) [] (L2.start N vs) H s1 :=
    ⟨⟨ok0.mod, ok0.kind, ok0.glob, ok0.blt, ok0.above, ok0.inj, ok0.has, ok0.cab, (fun z => Bool.noConfusion (show false = true from z)), Around.frames_deeper e0.frames, ok0.stk, ok0.exf, ok0.bs, ok0.bsz, ok0.noex, ok0.exfs, ok0.funs, ok0.frf⟩, I0.os, I0.bare, I0.base, I0.loc, I0.cell, I0.free, I0.freeC, I0.pin, I0.hok, I0.len⟩
  refine wpAny_mono (ht.run [] s1 (L2.start N vs) H _ I hq) (fun fl s' hs => ?_) fun e s' hs => hs.elim
  cases fl with
  | ret u =>
    obtain ⟨v, σ', H', J, rv, q⟩ := hs
    exact ⟨v, H', J.os, J.bare, J.base, J.hok, rv, q⟩
  | next =>
    obtain ⟨σ', H', J, q⟩ := hs
    exact ⟨.non, H', J.os, J.bare, J.base, J.hok, rfl, q⟩
  | brk => obtain ⟨_, _, _, q⟩ := hs; exact q.elim
  | cont => obtain ⟨_, _, _, q⟩ := hs; exact q.elim
/-- room within a suite -/
theorem roomS {k : Nat} {A : Around} (r : Room k A) (h : Option Value) : RoomH k (A.mark h) := ⟨r.dp, r.un⟩
structure CalC (P : Program) (w : World) (K : PySem.W.Frag) (mg : Str → Option Value) (base : Heap) (k : Nat) (x : Str) (sp : Addr → Sp) : Prop where
  ex : ∃ (f : Addr) (fd : FuncData) (ps : List Str), FnC P w K mg base k f fd ps sp ∧ mg x = some (.ref f) ∧ PySem.W.keepIn K (.ref f) = true ∧ L2.Binds K fd ps []
theorem DefAt.calC {P : Program} {w : World} {K : PySem.W.Frag} {mg : Str → Option Value} {base : Heap} {x : Str} {st : Stmt} {ps N : List Str} {k : Nat} {sp : Addr → Sp} (D : DefAt K mg x st ps) (S : FnScope N ps (defScope st)) (len : ∀ x1 vs H Q E, sp x1 vs H Q E → vs.length = ps.length)
    (hb : ∀ (f : Addr) (cdv : Value) (A : Around) (outer : List Env) (s : Shared) (H : Hp) (vs : List V) (Q : VK) (E : XK) (x1 : Addr), A.handled = some (.ref x1) → RoomH k (A.deeper (envOfC x (defScope st) s.heap.objs.size f cdv)) → sp x1 vs H Q E →
      ∃ t, PSs (cxC P w K mg base N x (defScope st) f cdv A outer s H) (defBody st) t ∧ t { nx := fun _ H' => Q .non H', rt := Q } (L2.start N vs) H) : CalC P w K mg base (k + 1) x sp := by
  obtain ⟨f, fd, ⟨⟨oc, od, kV, doc, pm, an, cdv, ct, osl, rfl, lk, hcd⟩, kp⟩, hm, b⟩ := D.ex
  exact ⟨f, _, ps, fn_ofC lk hcd S len fun A outer s H vs Q E x1 => hb f cdv A outer s H vs Q E x1, hm, kp, b⟩
section
variable {X : Cx} {k j : Nat} {x : Str} {sp : Addr → Sp} {p pos : Pos} {e : Expr} {es : List Expr} {t : TA} {x1 : Addr}
def tCallC (sp : Addr → Sp) (x1 : Addr) (t : TA) : TE := fun σ H Q => t σ H fun vs H1 => sp x1 vs H1 Q E0
theorem pe_calC (c : CalC X.prog X.w X.K X.mg X.base k x sp) (hr : RoomH j X.A) (hk : k ≤ j) (hh : X.A.handled = some (.ref x1)) (hg : Gl X x) (ha : PA X (e :: es) t)
    (hdb : (x == ("__debug__" : Str)) = false := by decide) (he : starEach (e :: es) X.env = (false, eval e X.env) :: starEach es X.env := by rfl) (hpl : (backTo pos (starEach es X.env)).any (·.1) = false := by rfl) :
    PE X (.Call (.Name x p) (e :: es) [] pos) (tCallC sp x1 t) := by
  obtain ⟨f, fd, ps, F, hm, kp, b⟩ := c.ex
  refine ⟨fun pins s σ H Q I h => wpAny_Call_Name_kw (ld_glob I hg hm (PySem.W.callWith_K (h₀ := X.base) I.ok.mod.kin kp (thn (ha.run pos pins s σ H _ I h) fun us s1 got => ?_) he hpl) hdb)⟩
  obtain ⟨vs, H1, I1, r, q⟩ := got
  have ln : us.length = ps.length := r.length.symm.trans (F.len _ _ _ _ _ q)
  have bb := b s1 us I1.kIn (by rw [List.append_nil]; exact ln)
  rw [List.append_nil] at bb
  refine ⟨I1.kIn, wpAny_call (codeAny_mono (F.run X.A X.stack s1 H1 ⟨us, []⟩ us vs Q E0 x1 (hr.mono hk) hh I1.env0 bb r q) fun r s' hq => ?_)⟩
  cases r with
  | error e => exact hq.elim
  | ok fl =>
    cases fl with
    | ret u => exact I1.after hq
    | next => exact hq.elim
    | brk => exact hq.elim
    | cont => exact hq.elim
end
/-! ## the handled exception looked at -/
def KeptN (H : Hp) (a C : Addr) (fs : List (Str × V)) : Prop := ∃ d, H a = some (Xn a (.ref C) (some d)) ∧ H d = some (.xd fs)
theorem KeptN.same {H H' : Hp} {a C : Addr} {fs : List (Str × V)} (k : KeptN H a C fs) (s : Same H H') : KeptN H' a C fs := by
  obtain ⟨d, h1, h2⟩ := k
  exact ⟨d, s _ _ h1, s _ _ h2⟩
theorem KeptN.hot {H : Hp} {a C : Addr} {fs : List (Str × V)} (k : KeptN H a C fs) : HotN a H := by
  obtain ⟨d, h1, _⟩ := k
  exact ⟨_, _, h1⟩
theorem keptN_at {X : Cx} {pins : List (Addr × Obj)} {σ : L2.St} {H : Hp} {s : Shared} {a C : Addr} {fs : List (Str × V)} (I : Inv X pins σ H s) (k : KeptN H a C fs) :
    ∃ (oe od : Obj) (d : Addr) (mA : Str → Option Value), PySem.W.InstAt s.heap a oe C (some od) ∧ s.heap.get? d = some od ∧ s.heap.Ns1 d mA ∧ ∀ f, RelO (fs.lookup f) (mA f) := by
  obtain ⟨d, h1, h2⟩ := k
  obtain ⟨oe, vs, e, z, f, _⟩ := xn_at I.hok h1
  have hx : ObjOk X.prog X.w H s.heap d (.xd fs) := I.hok d _ h2
  obtain ⟨mA, hns, hr⟩ := hx
  obtain ⟨od, ho, _⟩ := lookIn_ns hns
  exact ⟨oe, od, d, mA, ⟨e, z.1, by unfold PySem.W.notCls; rw [f] <;> rfl, by rw [z.2]; exact ho⟩, ho, hns, hr⟩
def rIsN (K : PySem.W.Frag) : List V → Hp → VK → Prop := fun xs H Q => ∃ (a C : Addr) (fs : List (Str × V)) (c : V) (cv : Value) (b : Bool), xs = [.ref a, c] ∧ KeptN H a C fs ∧ ExcC K C ∧ ClsV c cv ∧ PySem.W.kitOne K (.ref C) cv = some b ∧ Q (.bl b) H
theorem call_isN {X : Cx} {K : PySem.W.Frag} (h : X.K = K := by rfl) : CallR X (.builtin "isinstance") (rIsN K) := by
  subst h
  intro pins s σ H xs us Q I r h
  obtain ⟨a, C, fs, c, cv, b, rfl, k, EC, hc, e, q⟩ := h
  obtain ⟨oe, od, d, mA, J, _⟩ := keptN_at I k
  obtain ⟨u0, u1, rfl, r0, r1⟩ := vals2 r
  obtain rfl : u0 = Value.ref a := r0
  have ec : u1 = cv := by cases hc <;> exact r1
  subst ec
  obtain ⟨cd, hcd, _⟩ := PySem.W.any_some EC.hd
  exact PySem.W.kia_one (PySem.W.kitx_exc (by rw [hcd]; rfl) EC.hg EC.hk EC.hs EC.ha EC.hn EC.ht EC.hm) I.kIn J e (fun z => nomatch z) fun tk => ⟨.bl b, H, I.kept (t' := tk) fun _ _ z => z, rfl, q⟩
def tXvN (K : PySem.W.Frag) (te : TE) (f : Str) : TE := fun σ H Q => te σ H fun x H1 => ∃ (a C : Addr) (fs : List (Str × V)) (v : V), x = .ref a ∧ KeptN H1 a C fs ∧ XfC K C ∧ PySem.W.findIn K (.ref C) f = some none ∧ fs.lookup f = some v ∧ Q v H1
theorem pe_xvN {X : Cx} {K : PySem.W.Frag} {e : Expr} {te : TE} {f : Str} {pos : Pos} (he : PE X e te) (hb : attributeBase e f X.env (eval e X.env) = eval e X.env := by rfl) (h : X.K = K := by rfl) : PE X (.Attribute e f pos) (tXvN K te f) := by
  subst h
  refine ⟨fun pins s σ H Q I h => attr_of hb (thn (he.run pins s σ H _ I h) fun u s1 hh => ?_)⟩
  obtain ⟨x, H1, I1, rx, a, C, fs, v, rfl, k, T, hno, l, q⟩ := hh
  obtain rfl : u = Value.ref a := rx
  obtain ⟨oe, od, d, mA, J, ho, hns, hr⟩ := keptN_at I1 k
  obtain ⟨od2, ho2, hl⟩ := lookIn_ns hns
  rw [ho] at ho2
  cases ho2
  obtain ⟨u, hu, ru⟩ := RelO.some_of (v := v) (o := mA f) (by rw [← l]; exact hr f)
  exact HandSPX.exc_get I1.kIn J T.ga T.gg T.exC (PySem.W.findObj_own T.hdC hno rfl (by rw [hl, hu])) (handed_of ru) ⟨v, H1, I1.tok _, ru, q⟩
end Sq


set_option Elab.async false
set_option maxRecDepth 100000
set_option maxHeartbeats 2000000
/-! exceptions that leave a generator's frame, their context known -/
namespace Sq
open PySem PySem.Spec PyProof.Rows L2
theorem cxn_z {P : Program} {w : World} {outer : List Env} {H : Hp} {s s' : Shared} {E : XK} {u : Value} (c : L2N.CX P w outer H s E u s') : L2.CX P w outer H s E u s' := by
  obtain ⟨a, B, H', cls, d, e1, fl, r⟩ := c
  obtain ⟨f1, f2, f3, oe, vs, T, oT, ts, g1, g2, g3⟩ := fl
  exact ⟨a, B, H', cls, d, e1, ⟨f1, f2, f3, oe, vs, T, oT, ts, g1, g2.zc, g3⟩, r⟩
/-- out of the frame; the pins stand -/
theorem leaveGN {X : Cx} {W : WX} {E : XK} {s' : Shared} (hs : X.stack = X.env :: X.outer) (hf : X.env.frame = some X.env.locals) (hex : X.ex = []) {E2 : Value → Shared → Prop} (hW : ∀ cls d σ H, W cls d σ H → E cls d H) {u : Value} (x : L2N.XE X W u s') :
    wpAny (model X.prog X.w) X.A (leaving X.env u) (fun _ s'' => L2N.CX X.prog X.w X.outer X.H_0 X.s_0 E u s'' ∧ ∀ p ∈ X.pn, s''.heap.get? p.1 = some p.2) E2 s' := by
  obtain ⟨a, B, sI, pins, σ, H, cls, d, rfl, I, gr, up, sky, na, os, ag, wish⟩ := x
  have frames : X.A.frames = some (X.env :: X.outer) := I.ok.frames.trans (congrArg some hs)
  have noex : ∀ b, b ∉ X.ex := fun b hb => by
    rw [hex] at hb
    cases hb
  have old : ∀ b o, X.s_0.heap.get? b = some o → b ∉ X.fs → b ∉ frs X.stack := fun b o e nf m => (List.mem_cons.mp (I.stkSub b m)).elim (fun z => by
    have lt := Heap.lt_size e
    rw [z] at lt
    exact absurd (Nat.lt_of_lt_of_le lt I.ok.above) (Nat.lt_irrefl _)) nf
  have pin : ∀ p ∈ X.pn, B.get? p.1 = some p.2 := fun p hp => by
    obtain ⟨g1, _, g3, g4, _⟩ := I.pin p (List.mem_append_left _ hp)
    exact gr p.1 p.2 g1 fun m => (List.mem_cons.mp (I.stkSub p.1 m)).elim g3 g4
  have out : ∀ h1, HandSPX.FlyingZ B X.outer a (L2N.Zn cls d) h1 → s'.heap.UpToSlots h1 → (L2N.CX X.prog X.w X.outer X.H_0 X.s_0 E (.ref a) { s' with heap := h1 } ∧ ∀ p ∈ X.pn, ({ s' with heap := h1 } : Shared).heap.get? p.1 = some p.2) := fun h1 fl up1 => by
    refine ⟨⟨a, B, H, cls, d, rfl, fl, I.inGround gr, ⟨fun b o e n nf => gr b o (I.base.keep b o e n nf (noex b)) (old b o e nf), fun b o e m => ?_, fun b o e n => I.base.free b o e n (noex b), fun b o e nf => ?_, I.base.tups, I.base.frzs, I.base.tbls⟩, na, os.trans I.os, ag, hW _ _ _ _ wish⟩, fun p hp => fl.1 _ _ (pin p hp)⟩
    · obtain ⟨_, o2, e2, nofld⟩ := I.ok.funs.mem m
      rw [e] at e2
      cases e2
      obtain ⟨l1, q1⟩ := I.base.slot b o e (I.ok.frf b m) m (noex b)
      obtain ⟨l2, q2⟩ := up b _ q1 nofld
      obtain ⟨l3, q3⟩ := up1 b _ q2 nofld
      exact ⟨l3, q3⟩
    · obtain ⟨o1, q1⟩ := I.base.there b o e (noex b)
      exact ⟨o1, gr b o1 q1 (old b o e nf)⟩
  rw [hs] at sky
  rcases sky with ⟨k1, k2, k3, oe, vs, g1, g2, g3, g4⟩ | fl | hd
  · exact PXN.leaving_firstZ L2N.Zn.steady frames k3 hf g1 k1 k2 g3 g4 g2 out
  · exact PXN.leaves_onZ L2N.Zn.steady frames hf fl out
  · exact HandSPX.leaves_heldZ hf hd out
theorem passesXN {X : Cx} {P : Program} {w : World} : Passes (L2N.CX P w) X E0 := fun pins σ H s e s' I h => passesX0 (P := P) (w := w) pins σ H s e s' I (cxn_z h)
end Sq


set_option Elab.async false
set_option maxRecDepth 100000
set_option maxHeartbeats 2000000
/-! a generator's body, whose consumer does things of its own between two items -/
namespace Sq
open PySem PySem.Spec PyProof.Rows L2 GenW
/-- code under way comes to an end of which Z holds -/
def Sg (M : Model) (A : Around) (Z : End → Shared → Prop) (c : Code) (t : Sem PySem.Fin) (fs : List Frame) (s : Shared) : Prop :=
  ∀ Γ p, Γ.code = c → Γ.Woken A → ∃ e s', Runs M Γ p t fs s e s' ∧ Z e s'
section
variable {M : Model} {A : Around} {Z : End → Shared → Prop} {c : Code} {fs : List Frame} {s : Shared}
theorem sg_wrap {α : Type} {m : Sem α} {K : α → Sem PySem.Fin} {J : Value → Sem PySem.Fin} {gd : Bool → Bool} {lv : List Value → List Value}
    (h : wpAny M (A.over c fs) m (fun a s' => Sg M A Z c (K a) fs s') (fun x s' => Sg M A Z c (J x) fs s') s) : Sg M A Z c (m.wrap K J gd lv) fs s := by
  intro Γ p e hΓ
  subst e
  exact runs_wrap_of_wp K J gd lv m (h (Γ.over fs) p (hΓ.over fs)) (fun a p' s' q => q Γ p' rfl hΓ) fun x p' s' q => q Γ p' rfl hΓ
theorem sg_bw {α β : Type} {m : Sem α} {K : α → Sem β} {K' : β → Sem PySem.Fin} {J : Value → Sem PySem.Fin} {gd : Bool → Bool} {lv : List Value → List Value}
    (h : wpAny M (A.over c fs) m (fun a s' => Sg M A Z c ((K a).wrap K' J gd lv) fs s') (fun x s' => Sg M A Z c (J x) fs s') s) : Sg M A Z c ((m >>= K).wrap K' J gd lv) fs s := by
  rw [Sem.bind_eq_wrap', Sem.wrap_wrap]
  exact sg_wrap h
theorem sg_at {p' : Pos} {k : Unit → Sem PySem.Fin} (h : Sg M A Z c (k ()) fs s) : Sg M A Z c (.at p' k) fs s :=
  sg_wrap (m := standAt p') (K := k) (J := .raise) (gd := id) (lv := id) (wpAny_standAt h)
theorem sg_point {l : List Value} {k : Unit → Sem PySem.Fin} (h : Sg M A Z c (k ()) fs s) : Sg M A Z c (.point l k) fs s :=
  sg_wrap (m := point) (K := k) (J := .raise) (gd := id) (lv := fun _ => l) (wpAny_point h)
theorem sg_call {c' : Code} {h g l} {k : Result → Sem PySem.Fin} (q : ∀ p, Sg M A Z c' (M.den c') (.ret k h g l c p [] :: fs) s) : Sg M A Z c (.call c' h g l k) fs s := by
  intro Γ p e hΓ
  subst e
  obtain ⟨e, s', r, z⟩ := q p (Γ.goto c') p rfl (hΓ.goto c')
  exact ⟨e, s', runs_call_seg r, z⟩
theorem sg_leaf {k h g l c₁ p₁ kp} (r : Result) (q : Sg M A Z c₁ (k r) fs s) : Sg M A Z c (leafOf r) (.ret k h g l c₁ p₁ kp :: fs) s := by
  intro Γ p e hΓ
  subst e
  obtain ⟨e, s', w, z⟩ := q (Γ.goto c₁) p₁ rfl (hΓ.goto c₁)
  exact ⟨e, s', Runs.pop r w, z⟩
theorem sg_again {c' : Code} (hq : c'.quiet = true) (q : Sg M A Z c' (M.den c') fs s) : Sg M A Z c (.pure (.again c')) fs s := by
  intro Γ p e hΓ
  subst e
  obtain ⟨e, s', r, z⟩ := q (Γ.goto c') p rfl (hΓ.goto c')
  exact ⟨e, s', Runs.head (c₁ := c') (fun _ _ x => .again hq x) r, z⟩
theorem sg_end (r : Result) (h : Z (.ret r) s) : Sg M A Z c (leafOf r) [] s := fun Γ p _ _ => ⟨.ret r, s, Runs.leaf r, h⟩
theorem sg_yield {v g l} {k : Resume → Sem PySem.Fin} (hfs : splitAtGen fs = none) (h : ∀ p, Z (.susp v g l k c p fs) s) : Sg M A Z c (.yield v g l k) fs s := fun Γ p e _ => by
  subst e
  exact ⟨_, s, Runs.yield' fs hfs, h p⟩
end
section
variable {prog : Program} {w : World} {A : Around} {Z : End → Shared → Prop} {c : Code} {fs : List Frame} {s : Shared} {env : Env}
  {K : Flow → Sem PySem.Fin} {J : Value → Sem PySem.Fin} {gd : Bool → Bool} {lv : List Value → List Value}
theorem sg_nil (h : Sg (model prog w) A Z c (K .next) fs s) : Sg (model prog w) A Z c ((execs [] env).wrap K J gd lv) fs s := h
theorem sg_cons {st : Stmt} {rest : List Stmt}
    (h : Sg (model prog w) A Z c ((exec st env).wrap (fun f => match f with | .next => (execs rest env).wrap K J gd lv | f => K f) J gd lv) fs s) : Sg (model prog w) A Z c ((execs (st :: rest) env).wrap K J gd lv) fs s := by
  rw [execs_cons_wrap]
  exact h
theorem sg_Yield {e : Expr} {ypos pos : Pos} (hfs : splitAtGen fs = none)
    (h : wpAny (model prog w) (A.over c fs) (eval e env) (fun v s' => ∀ (k : Resume → Sem PySem.Fin) (l : List Value) (p : Pos), (∀ (Z' : End → Shared → Prop) s'', Sg (model prog w) A Z' c (K .next) fs s'' → Sg (model prog w) A Z' c (k (.send .none)) fs s'') → Z (.susp v (gd false) l k c p fs) s')
      (fun x s' => Sg (model prog w) A Z c (J x) fs s') s) (hco : env.scope.isCoroutine = false := by rfl) (hi : interactive env = false := by rfl) :
    Sg (model prog w) A Z c ((exec (.Expr (.Yield (some e) ypos) pos) env).wrap K J gd lv) fs s := by
  rw [exec_Expr env _ pos hi rfl]
  have hy : ∀ v, yieldOut env v = yieldValue v := fun v => by simp only [yieldOut, hco, Bool.false_eq_true, if_false]
  show Sg (model prog w) A Z c (.at pos fun _ => ((eval e env >>= fun v => standAt ypos >>= fun _ => yieldOut env v) >>= fun x => dropValue (.Yield (some e) ypos) pos x).wrap K J gd lv) fs s
  simp only [hy]
  refine sg_at ?_
  rw [Sem.bind_eq_wrap', Sem.bind_eq_wrap', Sem.wrap_wrap, Sem.wrap_wrap]
  refine sg_wrap (wpAny_mono h (fun v s' q => ?_) fun _ _ z => z)
  refine sg_at (sg_yield hfs fun p => q _ _ p fun Z' s'' z => ?_)
  exact z
theorem sg_For {target iter : Expr} {body orelse : List Stmt} {pos : Pos}
    (h : wpAny (model prog w) (A.over c fs) (eval iter env) (fun x s₁ => wpAny (model prog w) (A.over c fs) (pyIter x) (fun it s₂ =>
      ∀ p, Sg (model prog w) A Z (.forLoop target it body orelse env) ((model prog w).den (.forLoop target it body orelse env))
        (.ret (fun r => ((match r with | .ok f => (.pure f : Sem Flow) | .error e => .raise e).onRaise (cameBack env)).wrap K J gd lv) none (gd false) (lv []) c p [] :: fs) s₂)
      (fun x s' => Sg (model prog w) A Z c (J x) fs s') s₁) (fun x s' => Sg (model prog w) A Z c (J x) fs s') s)
    (hs : ∀ x, foldedSetIterable iter env x = pure x := by intro _; rfl) : Sg (model prog w) A Z c ((exec (.For target iter body orelse pos) env).wrap K J gd lv) fs s := by
  rw [exec_For]
  refine sg_bw (wpAny_standAt (sg_bw (wpAny_mono h (fun x s₁ h₁ => ?_) fun _ _ z => z)))
  refine sg_bw (wpAny_of_eq (hs x) (sg_bw (wpAny_standAt (sg_bw (wpAny_holding (wpAny_mono h₁ (fun it s₂ h₂ => ?_) fun _ _ z => z))))))
  exact sg_call h₂
/-- what a loop's code does with an exception -/
abbrev byLoop (env : Env) (x : Value) : Sem PySem.Fin := (do noteFrame x env; theTreesLotGoes x : Sem Unit).wrap (fun _ => .raise x) .raise id id
theorem sg_forLoop {target : Expr} {it : Value} {body : List Stmt}
    (h : wpAny (model prog w) (A.over (.forLoop target it body [] env) fs) (pyNext it) (fun r s₁ => match r with
      | none => Sg (model prog w) A Z (.block [] env) (.pure (.done .next)) fs s₁
      | some v => wpAny (model prog w) (A.over (.forLoop target it body [] env) fs) (letOwnedTupleGo target it v) (fun _ s₁' =>
          wpAny (model prog w) (A.over (.forLoop target it body [] env) fs) (assign target env v) (fun _ s₂ =>
            Sg (model prog w) A Z (.forLoop target it body [] env) ((execs body env).wrap (fun f => match f with
            | .next | .cont => .pure (.again (.forLoop target it body [] env))
            | .brk => .pure (.done .next)
            | .ret v => .pure (.done (.ret v))) (byLoop env) id id) fs s₂)
          (fun x s' => Sg (model prog w) A Z (.forLoop target it body [] env) (byLoop env x) fs s') s₁')
          (fun x s' => Sg (model prog w) A Z (.forLoop target it body [] env) (byLoop env x) fs s') s₁)
      (fun x s' => Sg (model prog w) A Z (.forLoop target it body [] env) (byLoop env x) fs s') s) :
    Sg (model prog w) A Z (.forLoop target it body [] env) ((model prog w).den (.forLoop target it body [] env)) fs s := by
  show Sg _ A Z _ ((forTurn target it body [] env).onRaise (fun x => do noteFrame x env; theTreesLotGoes x)) fs s
  rw [Sem.onRaise_eq_wrap]
  have eN : ∀ (x : Value) (s' : Shared), Sg (model prog w) A Z (.forLoop target it body [] env) (byLoop env x) fs s' →
      Sg (model prog w) A Z (.forLoop target it body [] env) ((do noteFrame x env; theTreesLotGoes x : Sem Unit).bind fun _ => .raise x) fs s' := fun x s' hx => by
    rw [Sem.bind_eq_wrap]
    exact hx
  unfold forTurn
  refine sg_bw (wpAny_standAt (sg_bw (wpAny_onRaise (wpAny_mono h (fun r s₁ h₁ => ?_) fun x s' hx => wpAny_standAt (eN x s' hx)))))
  cases r with
  | none => exact sg_again rfl h₁
  | some v =>
    refine sg_bw (wpAny_mono h₁ (fun _ s₁' h₁' => ?_) fun x s' hx => eN x s' hx)
    refine sg_bw (wpAny_mono h₁' (fun _ s₂ h₂ => ?_) fun x s' hx => eN x s' hx)
    rw [Sem.bind_eq_wrap', Sem.wrap_wrap]
    rw [Sem.wrap_congr (execs body env) _ _ (K' := fun f => match f with
            | .next | .cont => .pure (.again (.forLoop target it body [] env))
            | .brk => .pure (.done .next)
            | .ret v => .pure (.done (.ret v))) (H' := byLoop env)
        (fun f => by cases f <;> rfl)
        (fun e => by first | exact Sem.bind_eq_wrap _ _ | (show (do noteFrame e env; theTreesLotGoes e : Sem Unit).bind (fun _ => .raise e) = _; rw [Sem.bind_eq_wrap]))]
    exact h₂
theorem sg_func {body : List Stmt}
    (h : Sg (model prog w) A Z (.func body env) ((execs body env).wrap (fun f => .pure (.done (.ret (match f with | .ret v => v | _ => .none)))) (fun e => (leaving env e).wrap (fun _ => .raise e) .raise id id) id id) fs s) :
    Sg (model prog w) A Z (.func body env) ((model prog w).den (.func body env)) fs s := by
  show Sg _ A Z _ (.point [] fun _ => ((execs body env).onRaise (leaving env)) >>= _) fs s
  refine sg_point ?_
  rw [Sem.onRaise_eq_wrap, Sem.bind_eq_wrap', Sem.wrap_wrap]
  rw [Sem.wrap_congr (execs body env) _ _ (K' := fun f => .pure (.done (.ret (match f with | .ret v => v | _ => .none)))) (H' := fun e => (leaving env e).wrap (fun _ => .raise e) .raise id id)
    (fun f => by cases f <;> rfl) (fun e => by rw [Sem.bind_eq_wrap, Sem.wrap_wrap]; rfl)]
  exact h
end
/-! ## the generator's frame: what is fixed (GSt), what is new at each waking (GB) -/
structure GSt where
  P : Program
  w : World
  K : PySem.W.Frag
  mg : Str → Option Value
  base : Heap
  N : List Str
  env : Env
  A : Around
  outer : List Env
/-- s, H: where the frame's account begins; Hc: the consumer's heap at the waking, hid: the lists hidden from it; pn: what the consumer pins -/
structure GB where
  s : Shared
  Hc : Hp
  hid : List Addr
  H : Hp
  E : XK
  pn : List (Addr × Obj)
def GSt.cx (S : GSt) (β : GB) : Cx where
  prog := S.P
  w := S.w
  K := S.K
  mg := S.mg
  base := S.base
  A := S.A.deeper S.env
  N := S.N
  s_0 := β.s
  H_0 := β.H
  env := S.env
  outer := S.outer
  stack := S.env :: S.outer
  ex := []
  calm := true
  fn := fun _ => true
  pn := β.pn
  xe := fun e s' => wpAny (model S.P S.w) (S.A.deeper S.env) (leaving S.env e) (fun _ s'' => L2N.CX S.P S.w S.outer β.H β.s β.E e s'' ∧ ∀ p ∈ β.pn, s''.heap.get? p.1 = some p.2) (fun _ _ => False) s'
/-- a cell of the frame, in the consumer's heap -/
def cellX (c : Addr) : HO := .ext fun h => ∃ v, h.IsCell c v
open Classical in
/-- the consumer's heap: hidden lists are not seen, cells are only known to be cells -/
noncomputable def seeC (S : GSt) (hid : List Addr) (H : Hp) : Hp := fun b => if b ∈ hid then none else if (∃ x, S.env.cells.lookup x = some b) then some (cellX b) else H b
open Classical in
/-- the generator's heap over the consumer's -/
noncomputable def ovl (S : GSt) (hid : List Addr) (H Hc : Hp) : Hp := fun b => if b ∈ hid then H b else if (∃ x, S.env.cells.lookup x = some b) then none else Hc b
/-- what the consumer sees: at an item (n: how many may follow), at the end; what it owes at each waking; what may be raised ahead of the first item -/
structure GOut where
  out : Nat → Hp → V → Hp → Prop
  fin : Nat → Hp → Hp → Prop
  rq : Nat → Hp → Prop
  ex : Hp → XK
structure GI1 (S : GSt) (β : GB) (ip : List (Addr × Obj)) (σ : L2.St) (H : Hp) (s : Shared) : Prop where
  inv : Inv (S.cx β) ip σ H s
  sz : β.s.heap.objs.size = S.env.locals
  ap : ∀ p ∈ β.pn, ∀ q ∈ ip, p.1 ≠ q.1
  yg : ∀ q ∈ ip, S.env.locals ≤ q.1 ∧ ∀ x c, S.env.cells.lookup x = some c → c ≠ q.1
/-- at a waking: what is hidden is not known to the consumer, the frame's cells it knows as cells at most -/
structure Hd (S : GSt) (hid : List Addr) (β : GB) : Prop where
  hid : ∀ b ∈ hid, β.Hc b = none
  cells : ∀ x c, S.env.cells.lookup x = some c → β.Hc c = some (cellX c) ∨ β.Hc c = none
/-- no name that stands in a cell is known -/
def NoCV (S : GSt) (σ : L2.St) : Prop := ∀ (i : Nat) (x : Str) (v : V), S.N[i]? = some x → σ[i]? = some (some v) → S.env.kindOf x = some .local
def Zf (S : GSt) (Y : GOut) : Nat → GB → End → Shared → Prop
  | n, β, .ret (.ok (.ret u)), s' => u = .none ∧ ∃ ip σ H, GI1 S β ip σ H s' ∧ Y.fin n β.Hc (seeC S [] H)
  | _, _, .ret (.ok _), _ => False
  | _, β, .ret (.error e), s' => L2N.CX S.P S.w S.outer β.H β.s β.E e s' ∧ ∀ p ∈ β.pn, s'.heap.get? p.1 = some p.2
  | 0, _, .susp .., _ => False
  | n + 1, β, .susp v g l k c p fs, s' => (End.susp v g l k c p fs).quiet = true ∧ splitAtGen fs = none ∧ ∃ x hid ip σ H, RelV x v ∧ GI1 S β ip σ H s' ∧ (∀ b ∈ hid, (∃ xs, H b = some (.lst xs)) ∧ (b ∈ β.hid ∨ β.Hc b = none)) ∧ NoCV S σ ∧ Y.out n β.Hc x (seeC S hid H) ∧
      ∀ β' s'', β'.hid = hid → Hd S hid β' → β'.H = ovl S hid H β'.Hc → Y.rq n β'.Hc → GI1 S β' ip σ β'.H s'' → Sg (model S.P S.w) S.A (Zf S Y n β') c (k (.send .none)) fs s''
structure GEnds1 where
  nx : Nat → GB → L2.St → Hp → Prop
  rt : Nat → GB → V → Hp → Prop
  bk : Nat → GB → L2.St → Hp → Prop := fun _ _ _ _ => False
  ct : Nat → GB → L2.St → Hp → Prop := fun _ _ _ _ => False
abbrev TG1 := GEnds1 → Nat → GB → L2.St → Hp → Prop
def GEnds1.at (D : GEnds1) (n : Nat) (β : GB) : Ends := { nx := D.nx n β, rt := D.rt n β, bk := D.bk n β, ct := D.ct n β }
def GSP1 (S : GSt) (ip : List (Addr × Obj)) (D : GEnds1) (n : Nat) (β : GB) (f : Flow) (s : Shared) : Prop :=
  match f with
  | .next => ∃ σ H, GI1 S β ip σ H s ∧ D.nx n β σ H
  | .brk => ∃ σ H, GI1 S β ip σ H s ∧ D.bk n β σ H
  | .cont => ∃ σ H, GI1 S β ip σ H s ∧ D.ct n β σ H
  | .ret u => ∃ v σ H, GI1 S β ip σ H s ∧ RelV v u ∧ D.rt n β v H
structure GC1 (S : GSt) (c : Code) (fs : List Frame) (gd : Bool → Bool) : Prop where
  over : S.A.over c fs = S.A.deeper S.env
  split : splitAtGen fs = none
  guard : fs.any Frame.guarded = false
  gd : gd false = false
structure GK1 (S : GSt) (Y : GOut) (ip : List (Addr × Obj)) (c : Code) (fs : List Frame) (K : Flow → Sem PySem.Fin) (J : Value → Sem PySem.Fin) (D : GEnds1) : Prop where
  ok : ∀ n β s f, GSP1 S ip D n β f s → Sg (model S.P S.w) S.A (Zf S Y n β) c (K f) fs s
  exc : ∀ n β e s, (S.cx β).xe e s → Sg (model S.P S.w) S.A (Zf S Y n β) c (J e) fs s
structure GS1 (S : GSt) (Y : GOut) (st : Stmt) (t : TG1) : Prop where
  run : ∀ (ip : List (Addr × Obj)) (n : Nat) (β : GB) (c : Code) (fs : List Frame) (K : Flow → Sem PySem.Fin) (J : Value → Sem PySem.Fin) (gd : Bool → Bool) (lv : List Value → List Value) (s : Shared) (σ : L2.St) (H : Hp) (D : GEnds1),
    GC1 S c fs gd → GK1 S Y ip c fs K J D → GI1 S β ip σ H s → t D n β σ H → Sg (model S.P S.w) S.A (Zf S Y n β) c ((exec st S.env).wrap K J gd lv) fs s
structure GSs1 (S : GSt) (Y : GOut) (st : List Stmt) (t : TG1) : Prop where
  run : ∀ (ip : List (Addr × Obj)) (n : Nat) (β : GB) (c : Code) (fs : List Frame) (K : Flow → Sem PySem.Fin) (J : Value → Sem PySem.Fin) (gd : Bool → Bool) (lv : List Value → List Value) (s : Shared) (σ : L2.St) (H : Hp) (D : GEnds1),
    GC1 S c fs gd → GK1 S Y ip c fs K J D → GI1 S β ip σ H s → t D n β σ H → Sg (model S.P S.w) S.A (Zf S Y n β) c ((execs st S.env).wrap K J gd lv) fs s
section
variable {S : GSt} {Y : GOut} {st : Stmt} {rest : List Stmt}
def tPlain1 (t : GB → TS) : TG1 := fun D n β σ H => t β (D.at n β) σ H
theorem gs1_ps {t : GB → TS} (h : ∀ β, PS (S.cx β) st (t β)) : GS1 S Y st (tPlain1 t) := by
  refine ⟨fun ip n β c fs K J gd lv s σ H D g k hI ht => ?_⟩
  refine sg_wrap ?_
  rw [g.over]
  refine wpAny_mono ((h β).run _ s σ H (D.at n β) hI.inv ht) (fun f s' hs => k.ok n β s' f ?_) fun x s' hx => k.exc n β x s' hx
  cases f with
  | next => obtain ⟨σ', H', I, q⟩ := hs; exact ⟨σ', H', ⟨I, hI.sz, hI.ap, hI.yg⟩, q⟩
  | brk => obtain ⟨σ', H', I, q⟩ := hs; exact ⟨σ', H', ⟨I, hI.sz, hI.ap, hI.yg⟩, q⟩
  | cont => obtain ⟨σ', H', I, q⟩ := hs; exact ⟨σ', H', ⟨I, hI.sz, hI.ap, hI.yg⟩, q⟩
  | ret u => obtain ⟨v, σ', H', I, r, q⟩ := hs; exact ⟨v, σ', H', ⟨I, hI.sz, hI.ap, hI.yg⟩, r, q⟩
def tG10 : TG1 := fun D n β σ H => D.nx n β σ H
theorem gss1_nil : GSs1 S Y [] tG10 := ⟨fun ip n β c fs K J gd lv s σ H D g k hI ht => sg_nil (k.ok n β s .next ⟨σ, H, hI, ht⟩)⟩
def tG1Then (t u : TG1) : TG1 := fun D n β σ H => t { D with nx := fun n' β' σ' H' => u D n' β' σ' H' } n β σ H
theorem gss1_cons {t u : TG1} (a : GS1 S Y st t) (b : GSs1 S Y rest u) : GSs1 S Y (st :: rest) (tG1Then t u) := by
  refine ⟨fun ip n β c fs K J gd lv s σ H D g k hI ht => sg_cons ?_⟩
  refine a.run ip n β c fs _ J gd lv s σ H { D with nx := fun n' β' σ' H' => u D n' β' σ' H' } g ⟨fun n' β' s' f hs => ?_, k.exc⟩ hI ht
  cases f with
  | next =>
    obtain ⟨σ', H', I', q⟩ := hs
    exact b.run ip n' β' c fs K J gd lv s' σ' H' D g k I' q
  | brk => exact k.ok n' β' s' .brk hs
  | cont => exact k.ok n' β' s' .cont hs
  | ret u => exact k.ok n' β' s' (.ret u) hs
/-- at an item: how many may follow, what is hidden, which names are known on -/
structure Yl (S : GSt) (Y : GOut) (D : GEnds1) (n : Nat) (β : GB) (σ : L2.St) (x : V) (H1 : Hp) : Prop where
  o : ∃ m hid σ', n = m + 1 ∧ σ'.length = σ.length ∧ (∀ (i : Nat) v, σ'[i]? = some (some v) → σ[i]? = some (some v)) ∧ (∀ b ∈ hid, (∃ xs, H1 b = some (.lst xs)) ∧ (b ∈ β.hid ∨ β.Hc b = none)) ∧ NoCV S σ' ∧ Y.out m β.Hc x (seeC S hid H1) ∧
    ∀ β', β'.hid = hid → Hd S hid β' → β'.H = ovl S hid H1 β'.Hc → Y.rq m β'.Hc → D.nx m β' σ' β'.H
/-- yield e -/
def tGY1 (S : GSt) (Y : GOut) (te : GB → TE) : TG1 := fun D n β σ H => te β σ H fun x H1 => Yl S Y D n β σ x H1
theorem nocv {S : GSt} {σ : L2.St} (h : ∀ x ∈ S.N, S.env.kindOf x = some .local) : NoCV S σ := fun i x v e _ => h x (List.mem_of_getElem? e)
/-- nothing is hidden -/
theorem Yl.plain {S : GSt} {Y : GOut} {D : GEnds1} {n m : Nat} {β : GB} {σ : L2.St} {x : V} {H1 : Hp} (e : n = m + 1) (hN : NoCV S σ) (ho : Y.out m β.Hc x (seeC S [] H1)) (h : ∀ β', β'.hid = [] → β'.H = ovl S [] H1 β'.Hc → Y.rq m β'.Hc → D.nx m β' σ β'.H) : Yl S Y D n β σ x H1 :=
  ⟨m, [], σ, e, rfl, fun _ _ z => z, fun b hb => (by simp at hb), hN, ho, fun β' z _ => h β' z⟩
theorem gs1_yield {e : Expr} {yp pos : Pos} {te : GB → TE} (he : ∀ β, PE (S.cx β) e (te β)) (hco : S.env.scope.isCoroutine = false := by rfl) (hi : interactive S.env = false := by rfl) : GS1 S Y (.Expr (.Yield (some e) yp) pos) (tGY1 S Y te) := by
  refine ⟨fun ip n β c fs K J gd lv s σ H D g k hI ht => ?_⟩
  refine sg_Yield g.split ?_ hco hi
  rw [g.over]
  refine wpAny_mono ((he β).run _ s σ H _ hI.inv ht) (fun v s' q kk l p hk => ?_) fun x s' hx => k.exc n β x s' hx
  obtain ⟨x, H1, I1, r, ⟨m, hid, σ', en, e1, e2, e3, e3', e4, e5⟩⟩ := q
  subst en
  refine ⟨?_, g.split, x, hid, ip, σ', H1, r, ⟨I1.weak e1 e2, hI.sz, hI.ap, hI.yg⟩, e3, e3', e4, fun β' s'' h0 hn h1 h2 h3 => hk _ s'' (k.ok m β' s'' .next ⟨σ', β'.H, h3, e5 β' h0 hn h1 h2⟩)⟩
  simp [End.quiet, g.gd, g.guard]
/-! ### for -/
theorem g1_loop {c c' : Code} {fs : List Frame} {gd : Bool → Bool} {k : Result → Sem PySem.Fin} {l kp : List Value} {p : Pos} (g : GC1 S c fs gd) (hw : c'.weight = 0) (hu : c'.cUnits = 0) : GC1 S c' (.ret k none (gd false) l c p kp :: fs) id where
  over := (over_loop hw hu).trans g.over
  split := by
    show (splitAtGen fs).map _ = none
    rw [g.split]
    rfl
  guard := by
    show (gd false || fs.any Frame.guarded) = false
    rw [g.gd, g.guard]
    rfl
  gd := rfl
theorem sg_cameBack {ip : List (Addr × Obj)} {c : Code} {fs : List Frame} {K : Flow → Sem PySem.Fin} {J : Value → Sem PySem.Fin} {gd : Bool → Bool} {lv : List Value → List Value} {D : GEnds1} {n : Nat} {β : GB} {s : Shared} {e : Value}
    (g : GC1 S c fs gd) (k : GK1 S Y ip c fs K J D) (h : cameBackBy (model S.P S.w) (S.A.deeper S.env) S.env (S.cx β).xe e s) :
    Sg (model S.P S.w) S.A (Zf S Y n β) c (((Sem.raise e : Sem Flow).onRaise (cameBack S.env)).wrap K J gd lv) fs s := by
  show Sg _ _ _ _ (((cameBack S.env e).bind fun _ => (Sem.raise e : Sem Flow)).wrap K J gd lv) _ _
  rw [Sem.bind_eq_wrap, Sem.wrap_wrap]
  refine sg_wrap ?_
  rw [g.over]
  exact wpAny_mono h (fun _ s' hx => k.exc n β e s' hx) fun x s' hx => k.exc n β x s' hx
/-- a loop's turns -/
structure Lp1 (J : It) (g : TG) (tb : TG1) (D : GEnds1) (n : Nat) (β : GB) (σ : L2.St) (H1 : Hp) : Prop where
  o : ∃ W : Nat → Nat → Nat → GB → L2.St → Hp → Prop, (∃ m, W 0 m n β σ H1) ∧ ∀ i m n β σ H, W i m n β σ H →
    (J.stop i H ∧ D.nx n β σ H) ∨ (J.go i H ∧ ∃ N : Nat → GB → L2.St → Hp → Prop, (∀ n' β' σ' H', N n' β' σ' H' → ∃ m', m' < m ∧ W (i + 1) m' n' β' σ' H') ∧ ∀ x H', J.yld i H x H' → g x σ H' fun σ2 H2 => tb { D with nx := N, ct := N, bk := D.nx } n β σ2 H2)
def tGFor1 (S : GSt) (wi : GB → TI) (g : TG) (tb : TG1) : TG1 := fun D n β σ H => wi β σ H fun J H1 => Lp1 J g tb D n β σ H1
theorem gfor1_list {K : PySem.W.Frag} {a : Addr} {xs : List V} {g : TG} {tb : TG1} {D : GEnds1} {n : Nat} {β : GB} {σ : L2.St} {H : Hp} (Pv : Nat → Nat → GB → L2.St → Hp → Prop) (h0 : Pv 0 n β σ H) (hl : ∀ i n β σ H, i ≤ xs.length → Pv i n β σ H → SqL K H a xs)
    (hs : ∀ (i : Nat) (x : V) n β σ H, xs[i]? = some x → Pv i n β σ H → g x σ H fun σ2 H2 => tb { D with nx := Pv (i + 1), ct := Pv (i + 1), bk := D.nx } n β σ2 H2) (hd : ∀ n β σ H, Pv xs.length n β σ H → D.nx n β σ H) : Lp1 (Itl K a) g tb D n β σ H := by
  refine ⟨fun i m n β σ H => m + i = xs.length ∧ Pv i n β σ H, ⟨xs.length, rfl, h0⟩, ?_⟩
  rintro i m n β σ H ⟨em, p⟩
  have q := hl i n β σ H (by omega) p
  by_cases hlt : i < xs.length
  · refine .inr ⟨⟨xs, xs[i], q, by simp [hlt]⟩, Pv (i + 1), fun n' β' σ' H' p' => ⟨m - 1, by omega, by omega, p'⟩, fun x H' y => ?_⟩
    obtain ⟨e, y⟩ := y
    subst e
    exact hs i x n β σ _ (y xs q) p
  · have e : i = xs.length := by omega
    subst e
    exact .inl ⟨⟨xs, q, Nat.le_refl _⟩, hd n β σ H p⟩
theorem gs1_for {tg iter : Expr} {body : List Stmt} {wi : GB → TI} {g : TG} {tb : TG1} {pos : Pos} (hp : ∀ β, PassesOwn (model S.P S.w) (S.A.deeper S.env) S.env (S.cx β).xe) (hi : ∀ β, PI (S.cx β) tg iter (wi β)) (hg : ∀ β, PG (S.cx β) tg g) (hb : GSs1 S Y body tb)
    (hs : ∀ x, foldedSetIterable iter S.env x = pure x := by intro _; rfl) : GS1 S Y (.For tg iter body [] pos) (tGFor1 S wi g tb) := by
  refine ⟨fun ip n β c fs K J gd lv s σ H D gc k hI ht => ?_⟩
  refine sg_For ?_ hs
  rw [gc.over]
  refine wpAny_mono ((hi β).run _ s σ H _ hI.inv ht) (fun v s1 h1 => wpAny_mono h1 (fun itv s2 h2 p => ?_) fun x s' hx => k.exc n β x s' hx) fun x s' hx => k.exc n β x s' hx
  obtain ⟨it, fp, tn, JI, H2, e, I2, T, st2, f2, ⟨W, ⟨m0, w0⟩, turn⟩⟩ := h2
  subst e
  have gl := fun (kk : Result → Sem PySem.Fin) => g1_loop (k := kk) (c' := .forLoop tg (.ref it) body [] S.env) (l := lv []) (kp := []) (p := p) gc rfl rfl
  have yng : ∀ b ∈ fp, b ≠ S.env.locals ∧ b ∉ frs S.outer ∧ S.env.locals ≤ b ∧ (∀ x c, S.env.cells.lookup x = some c → c ≠ b) ∧ ∀ q ∈ ip, q.1 ≠ b := fun b hb => by
    obtain ⟨_, g1, g2, g3, g4, g5⟩ := f2 b hb
    refine ⟨g1, g2, ?_, g4, fun q hq => g5 q (List.mem_append_right _ hq)⟩
    rcases g3 with z | z
    · cases z
    · rw [← hI.sz]
      exact z
  -- at the loop's head: the iterator stands, apart from what the consumer pins
  have stat : ∀ {β' : GB} {H' : Hp}, β'.s.heap.objs.size = S.env.locals → (∀ q ∈ β'.pn, ∀ b ∈ fp, q.1 ≠ b) → (∀ b ∈ fp, H' b = none) → ∀ b ∈ fp, FpOk (S.cx β') ip H' b := fun {β' H'} hz hq hn b hb => by
    obtain ⟨g1, g2, g3, g4, g5⟩ := yng b hb
    refine ⟨hn b hb, g1, g2, .inr (by show β'.s.heap.objs.size ≤ b; rw [hz]; exact g3), g4, fun q z => ?_⟩
    rcases List.mem_append.mp z with z | z
    · exact hq q z b hb
    · exact g5 q z
  have loop : ∀ (m i n : Nat) (β : GB) (s : Shared) (σ : L2.St) (H : Hp), W i m n β σ H → GI1 S β ip σ H s → (∀ q ∈ β.pn, ∀ b ∈ fp, q.1 ≠ b) → tn i s.heap → (∀ b ∈ fp, H b = none) →
      Sg (model S.P S.w) S.A (Zf S Y n β) (.forLoop tg (.ref it) body [] S.env) ((model S.P S.w).den (.forLoop tg (.ref it) body [] S.env))
        (.ret (fun r => ((match r with | .ok f => (.pure f : Sem Flow) | .error e => .raise e).onRaise (cameBack S.env)).wrap K J gd lv) none (gd false) (lv []) c p [] :: fs) s := by
    intro m
    induction m using Nat.strongRecOn with
    | ind m ih =>
      intro i n β s σ H w hI ha st fr
      have ee : ∀ (n : Nat) (β : GB) (x : Value) (s' : Shared), (S.cx β).xe x s' → Sg (model S.P S.w) S.A (Zf S Y n β) (.forLoop tg (.ref it) body [] S.env) (byLoop S.env x)
          (.ret (fun r => ((match r with | .ok f => (.pure f : Sem Flow) | .error e => .raise e).onRaise (cameBack S.env)).wrap K J gd lv) none (gd false) (lv []) c p [] :: fs) s' := fun n β x s' hx => by
        refine sg_wrap ?_
        rw [(gl _).over]
        refine wpAny_bind (wpAny_mono (hp β x s' hx) (fun _ s'' hcb => wpAny_theTreesLotGoes ?_) fun y s'' hcb => ?_)
        · exact sg_leaf (.error x) (sg_cameBack gc k hcb)
        · exact sg_leaf (.error y) (sg_cameBack gc k hcb)
      refine sg_forLoop ?_
      rw [(gl _).over]
      rcases turn i m n β σ H w with ⟨stop, qn⟩ | ⟨go, N, hN, step⟩
      · refine wpAny_mono (T.done (S.cx β) rfl rfl rfl rfl i _ s σ H (S.cx β).xe hI.inv (stat hI.sz ha fr) st stop) (fun r s' hr => ?_) fun x s' hx => ee n β x s' hx
        obtain ⟨hr, I4⟩ := hr
        subst hr
        exact sg_leaf (.ok .next) (k.ok n β s' .next ⟨σ, H, ⟨I4, hI.sz, hI.ap, hI.yg⟩, qn⟩)
      · refine wpAny_mono (T.item (S.cx β) rfl rfl rfl rfl i _ s σ H (S.cx β).xe hI.inv (stat hI.sz ha fr) st go) (fun r s4 hr => ?_) fun x s' hx => ee n β x s' hx
        obtain ⟨u, hr, h4⟩ := hr
        subst hr
        refine wpAny_mono h4 (fun _ s5 h5 => ?_) fun x s' hx => ee n β x s' hx
        obtain ⟨x, H5, I5, r5, y5, st5, fr5⟩ := h5
        have I5' := I5.pinned (stat hI.sz ha fr5) (T.obj _ _ st5)
        refine wpAny_mono ((hg β).run _ s5 σ H5 x u _ I5' r5 (step x H5 y5)) (fun _ s6 h6 => ?_) fun x s' hx => ee n β x s' hx
        obtain ⟨σ6, H6, I6, q6⟩ := h6
        have again : ∀ {β' : GB} {s7 : Shared} {σ7 : L2.St} {H7 : Hp}, GI1 S β' (ip ++ pinsAt fp s5.heap) σ7 H7 s7 → GI1 S β' ip σ7 H7 s7 ∧ (∀ q ∈ β'.pn, ∀ b ∈ fp, q.1 ≠ b) ∧ tn (i + 1) s7.heap ∧ ∀ b ∈ fp, H7 b = none := fun {β' s7 σ7 H7} h7 => by
          obtain ⟨I7, z7, a7, y7⟩ := h7
          have pin : ∀ b ∈ fp, ∀ o, s5.heap.get? b = some o → s7.heap.get? b = some o ∧ H7 b = none := fun b hb o e => by
            have z := I7.pin (b, o) (List.mem_append_right _ (List.mem_append_right _ (mem_pinsAt hb e)))
            exact ⟨z.1, z.2.1⟩
          refine ⟨⟨I7.unpinned, z7, fun q hq r hr => a7 q hq r (List.mem_append_left _ hr), hI.yg⟩, fun q hq b hb => ?_, T.keep _ _ _ st5 fun b hb o e => (pin b hb o e).1, fun b hb => ?_⟩
          · obtain ⟨o, e, _⟩ := T.obj _ _ st5 b hb
            exact a7 q hq (b, o) (List.mem_append_right _ (mem_pinsAt hb e))
          · obtain ⟨o, e, d⟩ := T.obj _ _ st5 b hb
            exact (pin b hb o e).2
        refine hb.run (ip ++ pinsAt fp s5.heap) n β _ _ _ _ id id s6 σ6 H6 { D with nx := N, ct := N, bk := D.nx } (gl _) ⟨fun n' β' s7 f hs7 => ?_, fun n' β' x s3 hx => ee n' β' x s3 hx⟩ ⟨I6, hI.sz, fun q hq r hr => ?_, fun r hr => ?_⟩ q6
        · cases f with
          | next =>
            obtain ⟨σ7, H7, I7, n7⟩ := hs7
            obtain ⟨m', hm, w7⟩ := hN n' β' σ7 H7 n7
            obtain ⟨a1, a2, a3, a4⟩ := again I7
            exact sg_again rfl (ih m' hm (i + 1) n' β' s7 σ7 H7 w7 a1 a2 a3 a4)
          | cont =>
            obtain ⟨σ7, H7, I7, n7⟩ := hs7
            obtain ⟨m', hm, w7⟩ := hN n' β' σ7 H7 n7
            obtain ⟨a1, a2, a3, a4⟩ := again I7
            exact sg_again rfl (ih m' hm (i + 1) n' β' s7 σ7 H7 w7 a1 a2 a3 a4)
          | brk =>
            obtain ⟨σ7, H7, I7, n7⟩ := hs7
            exact sg_leaf (.ok .next) (k.ok n' β' s7 .next ⟨σ7, H7, (again I7).1, n7⟩)
          | ret v =>
            obtain ⟨x7, σ7, H7, I7, r7, n7⟩ := hs7
            exact sg_leaf (.ok (.ret v)) (k.ok n' β' s7 (.ret v) ⟨x7, σ7, H7, (again I7).1, r7, n7⟩)
        · rcases List.mem_append.mp hr with z | z
          · exact hI.ap q hq r z
          · exact ha q hq r.1 (of_pinsAt z).1
        · rcases List.mem_append.mp hr with z | z
          · exact hI.yg r z
          · obtain ⟨_, _, g3, g4, _⟩ := yng r.1 (of_pinsAt z).1
            exact ⟨g3, g4⟩
  refine loop m0 0 n β s2 σ H2 w0 ⟨I2, hI.sz, hI.ap, hI.yg⟩ (fun q hq b hb => ?_) st2 fun b hb => (f2 b hb).1
  obtain ⟨_, _, _, _, _, g5⟩ := f2 b hb
  exact g5 q (List.mem_append_left _ hq)
theorem takes_g1 (S : GSt) (hf : S.env.frame = some S.env.locals) (β : GB) : L2N.Takes (S.cx β) (fun cls d _ H' => β.E cls d H') := fun u s' x =>
  leaveGN (X := S.cx β) (W := fun cls d _ H' => β.E cls d H') (E := β.E) rfl hf rfl (fun _ _ _ _ h => h) x
theorem owns_g1 (S : GSt) (β : GB) : PassesOwn (model S.P S.w) (S.A.deeper S.env) S.env (S.cx β).xe :=
  passes_of (X := S.cx β) (K := fun e s'' => L2N.CX S.P S.w S.outer β.H β.s β.E e s'' ∧ ∀ p ∈ β.pn, s''.heap.get? p.1 = some p.2) (E₁ := fun _ _ => False) rfl
end
end Sq


set_option Elab.async false
set_option maxRecDepth 100000
set_option maxHeartbeats 2000000
/-! a generator that sleeps between two items, its consumer's side -/
namespace Sq
open PySem PySem.Spec PyProof.Rows L2 GenW
/-! ## a heap up to an address -/
def cutH (L : Nat) (h : Heap) : Heap := { h with objs := h.objs.extract 0 L }
theorem cut_get {h : Heap} {L b : Nat} (hb : b < L) : (cutH L h).get? b = h.get? b := by
  unfold Heap.get? cutH
  have e : (h.objs.extract 0 L)[b]? = h.objs[b]? := by
    rw [Array.getElem?_extract]
    by_cases z : b < h.objs.size
    · rw [if_pos (by omega), Nat.zero_add]
    · rw [if_neg (by omega), Array.getElem?_eq_none (by omega)]
  simp only [e]
theorem cut_size {h : Heap} {L : Nat} (hL : L ≤ h.objs.size) : (cutH L h).objs.size = L := by
  unfold cutH
  rw [Array.size_extract]
  omega
theorem cut_keep {h : Heap} {L : Nat} (hL : L ≤ h.objs.size) {b : Addr} {o : Obj} (e : (cutH L h).get? b = some o) : b < L ∧ h.get? b = some o := by
  have lt := Heap.lt_size e
  rw [cut_size hL] at lt
  exact ⟨lt, by rw [← cut_get lt]; exact e⟩
theorem fun_cut {h base : Heap} {L : Nat} : ∀ l : List Env, (∀ b ∈ frs l, b < L) → h.FunFrames base l → (cutH L h).FunFrames base l
  | [], _, _ => trivial
  | env :: rest, hl, q => by
    obtain ⟨hk, ⟨B, o, hf, hn, ho, hd⟩, hr⟩ := q
    have e : frs (env :: rest) = B :: frs rest := by
      unfold frs
      rw [List.filterMap_cons, hf]
    have lt : B < L := hl B (by rw [e]; exact List.mem_cons_self)
    exact ⟨hk, ⟨B, o, hf, hn, (cut_get lt).trans ho, hd⟩, fun_cut rest (fun b hb => hl b (by rw [e]; exact List.mem_cons_of_mem _ hb)) hr⟩
/-! ## what a consumer knows of a sleeper -/
/-- the generator's frame under the consumer's context -/
def gst (X : Cx) (N : List Str) (env : Env) (A : Around) : GSt := { P := X.prog, w := X.w, K := X.K, mg := X.mg, base := X.base, N := N, env := env, A := A, outer := X.stack }
structure StOk (S : GSt) : Prop where
  kind : S.env.scope.kind = .function
  glob : S.env.globals = mainGlobals
  blt : S.env.builtins = builtinsNs
  inj : ∀ x y c, S.env.cells.lookup x = some c → S.env.cells.lookup y = some c → x = y
  has : ∀ x, (S.env.kindOf x = some .cell ∨ S.env.kindOf x = some .free) → ∃ c, S.env.cells.lookup x = some c
  cab : ∀ x c, S.env.cells.lookup x = some c → S.env.locals < c
  hd : S.A.handled = none
  frames : S.A.frames = some S.outer
  frame : S.env.frame = some S.env.locals
theorem Cx.Ok.st {S : GSt} {β : GB} (ok : (S.cx β).Ok) (hA : S.A.handled = none) (hf : S.A.frames = some S.outer) (hF : S.env.frame = some S.env.locals) (hc : ∀ x c, S.env.cells.lookup x = some c → S.env.locals < c) : StOk S := ⟨ok.kind, ok.glob, ok.blt, ok.inj, ok.has, hc, hA, hf, hF⟩
/-- the frame's own things: the generator's object, the names, the iterators, the hidden lists -/
def fpsOf (S : GSt) (a : Addr) (ip : List (Addr × Obj)) (hid : List Addr) : List Addr := a :: S.env.locals :: (ip.map (·.1) ++ hid)
/-- apart from all that the consumer's account speaks of -/
def FpG (X : Cx) (pins : List (Addr × Obj)) (H : Hp) (b : Addr) : Prop :=
  H b = none ∧ b ≠ X.env.locals ∧ b ∉ X.fs ∧ (b ∈ X.ex ∨ X.s_0.heap.get? b = none) ∧ (∀ x c, X.env.cells.lookup x = some c → c ≠ b) ∧ ∀ p ∈ X.pn ++ pins, p.1 ≠ b
/-- the frame at rest in a heap -/
structure Lies (S : GSt) (a : Addr) (g : Nat) (ip : List (Addr × Obj)) (σ : L2.St) (hid : List Addr) (Hg : Hp) (h : Heap) : Prop where
  gen : h.IsGen a g
  loc : ∃ m, h.Ns S.env.locals m ∧ ∀ (i : Nat) (x : Str) (v : V), S.N[i]? = some x → σ[i]? = some (some v) → S.env.kindOf x = some .local ∧ ∃ u, RelV v u ∧ m x = some u
  ips : ∀ q ∈ ip, h.get? q.1 = some q.2
  hids : ∀ b ∈ hid, ∃ xs, Hg b = some (.lst xs) ∧ ObjOk S.P S.w Hg h b (.lst xs)
  len : σ.length = S.N.length
  obj : ∀ b ∈ fpsOf S a ip hid, ∃ o, h.get? b = some o ∧ ∀ v, o.data ≠ .cell v
  yg : ∀ q ∈ ip, S.env.locals ≤ q.1 ∧ ∀ x c, S.env.cells.lookup x = some c → c ≠ q.1
  noc : ∀ b ∈ hid, ∀ x c, S.env.cells.lookup x = some c → c ≠ b
  ne : a ≠ S.env.locals ∧ (∀ q ∈ ip, q.1 ≠ a ∧ q.1 ≠ S.env.locals) ∧ (∀ b ∈ hid, b ≠ a ∧ b ≠ S.env.locals ∧ ∀ q ∈ ip, q.1 ≠ b)
theorem Lies.keep {S : GSt} {a : Addr} {g : Nat} {ip : List (Addr × Obj)} {σ : L2.St} {hid : List Addr} {Hg : Hp} {h h' : Heap} (l : Lies S a g ip σ hid Hg h) (k : ∀ b ∈ fpsOf S a ip hid, ∀ o, h.get? b = some o → h'.get? b = some o) : Lies S a g ip σ hid Hg h' := by
  have ma : a ∈ fpsOf S a ip hid := List.mem_cons_self
  have ml : S.env.locals ∈ fpsOf S a ip hid := List.mem_cons_of_mem _ List.mem_cons_self
  refine ⟨?_, ?_, fun q hq => ?_, fun b hb => ?_, l.len, fun b hb => ?_, l.yg, l.noc, l.ne⟩
  · obtain ⟨o, nm, qn, e, r⟩ := l.gen
    exact ⟨o, nm, qn, k _ ma _ e, r⟩
  · obtain ⟨m, ⟨o, es, ep, e, r⟩, q⟩ := l.loc
    exact ⟨m, ⟨o, es, ep, k _ ml _ e, r⟩, q⟩
  · exact k _ (List.mem_cons_of_mem _ (List.mem_cons_of_mem _ (List.mem_append_left _ (List.mem_map.mpr ⟨q, hq, rfl⟩)))) _ (l.ips q hq)
  · obtain ⟨xs, e, z, its, n, r, eo⟩ := l.hids b hb
    exact ⟨xs, e, z, its, n, r, k _ (List.mem_cons_of_mem _ (List.mem_cons_of_mem _ (List.mem_append_right _ hb))) _ eo⟩
  · obtain ⟨o, e, d⟩ := l.obj b hb
    exact ⟨o, k b hb o e, d⟩
/-- the cells of the frame in the consumer's heap -/
def CellsIn (S : GSt) (H : Hp) : Prop := ∀ x c, S.env.cells.lookup x = some c → H c = some (cellX c)
/-- what waking it brings -/
def Sleeps (S : GSt) (Y : GOut) (n : Nat) (ip : List (Addr × Obj)) (σ : L2.St) (hid : List Addr) (Hg : Hp) : GenState → Prop
  | .fresh c => ∀ β s, (∀ cls d H', Y.ex β.Hc cls d H' → β.E cls d H') → β.hid = hid → β.H = ovl S hid Hg β.Hc → Y.rq n β.Hc → (∀ x c, S.env.cells.lookup x = some c → β.Hc c = none) → GI1 S β ip σ β.H s → Sg (model S.P S.w) S.A (Zf S Y n β) c ((model S.P S.w).den c) [] s
  | .suspended k _ c _ fs _ => splitAtGen fs = none ∧ ∀ β s, β.hid = hid → Hd S hid β → β.H = ovl S hid Hg β.Hc → Y.rq n β.Hc → GI1 S β ip σ β.H s → Sg (model S.P S.w) S.A (Zf S Y n β) c (k (.send .none)) fs s
  | _ => False
/-- a sleeper in the consumer's state -/
structure Zz (X : Cx) (S : GSt) (Y : GOut) (pins : List (Addr × Obj)) (a : Addr) (g n : Nat) (gs : GenState) (ip : List (Addr × Obj)) (σ : L2.St) (hid : List Addr) (Hg : Hp) (H : Hp) (s : Shared) : Prop where
  st : StOk S
  at_ : s.gens[g]? = some gs
  sl : Sleeps S Y n ip σ hid Hg gs
  lies : Lies S a g ip σ hid Hg s.heap
  fp : ∀ b ∈ fpsOf S a ip hid, FpG X pins H b
  cells : ∀ x c, S.env.cells.lookup x = some c → (H c = some (cellX c) ∨ H c = none) ∧ ∃ v, s.heap.IsCell c v
  lo : X.env.locals < S.env.locals ∧ ∀ x c, X.env.cells.lookup x = some c → c < S.env.locals
theorem Hok_look {X : Cx} {pins : List (Addr × Obj)} {σ : L2.St} {H : Hp} {s : Shared} {c : Addr} (I : Inv X pins σ H s) (e : H c = some (cellX c)) : ∃ v, s.heap.IsCell c v := (I.hok c _ e).1
section
variable {X : Cx} {N : List Str} {env : Env} {A : Around} {Y : GOut} {E : XK} {pins : List (Addr × Obj)} {a : Addr} {g n : Nat} {gs : GenState} {ip : List (Addr × Obj)} {σ σc : L2.St} {hid : List Addr} {Hg H : Hp} {s : Shared}
/-- the frame's account at a waking -/
noncomputable def wakeB (X : Cx) (S : GSt) (pins : List (Addr × Obj)) (go : Addr × Obj) (hid : List Addr) (Hg H : Hp) (s : Shared) (E : XK) : GB :=
  { s := { s with heap := cutH S.env.locals s.heap }, Hc := H, hid := hid, H := ovl S hid Hg H, E := E, pn := go :: (X.pn ++ pins) }
theorem ovl_off {S : GSt} {hid : List Addr} {Hg H : Hp} {b : Addr} (h1 : b ∉ hid) (h2 : ∀ x, S.env.cells.lookup x ≠ some b) : ovl S hid Hg H b = H b := by
  unfold ovl
  rw [if_neg h1, if_neg fun ⟨x, e⟩ => h2 x e]
theorem ovl_hid {S : GSt} {hid : List Addr} {Hg H : Hp} {b : Addr} (h1 : b ∈ hid) : ovl S hid Hg H b = Hg b := by
  unfold ovl
  rw [if_pos h1]
theorem ovl_cell {S : GSt} {hid : List Addr} {Hg H : Hp} {x : Str} {b : Addr} (h1 : b ∉ hid) (e : S.env.cells.lookup x = some b) : ovl S hid Hg H b = none := by
  unfold ovl
  rw [if_neg h1, if_pos ⟨x, e⟩]
theorem seeC_hid {S : GSt} {hid : List Addr} {H : Hp} {b : Addr} (h1 : b ∈ hid) : seeC S hid H b = none := by
  unfold seeC
  rw [if_pos h1]
theorem seeC_cell {S : GSt} {hid : List Addr} {H : Hp} {x : Str} {b : Addr} (h1 : b ∉ hid) (e : S.env.cells.lookup x = some b) : seeC S hid H b = some (cellX b) := by
  unfold seeC
  rw [if_neg h1, if_pos ⟨x, e⟩]
theorem seeC_off {S : GSt} {hid : List Addr} {H : Hp} {b : Addr} (h1 : b ∉ hid) (h2 : ∀ x, S.env.cells.lookup x ≠ some b) : seeC S hid H b = H b := by
  unfold seeC
  rw [if_neg h1, if_neg fun ⟨x, e⟩ => h2 x e]
theorem wake_gi (I : Inv X pins σc H s) (z : Zz X (gst X N env A) Y pins a g n gs ip σ hid Hg H s) {go : Obj} (hgo : s.heap.get? a = some go) (t : GenState) (ht : t.bare = true) :
    GI1 (gst X N env A) (wakeB X (gst X N env A) pins (a, go) hid Hg H s E) ip σ (ovl (gst X N env A) hid Hg H) (s.setGen g t) := by
  obtain ⟨st, hgs, sl, li, fp, cz, lo1, lo2⟩ := z
  have mL : env.locals ∈ fpsOf (gst X N env A) a ip hid := List.mem_cons_of_mem _ List.mem_cons_self
  have mA : a ∈ fpsOf (gst X N env A) a ip hid := List.mem_cons_self
  have mI : ∀ q ∈ ip, q.1 ∈ fpsOf (gst X N env A) a ip hid := fun q hq => List.mem_cons_of_mem _ (List.mem_cons_of_mem _ (List.mem_append_left _ (List.mem_map.mpr ⟨q, hq, rfl⟩)))
  have mH : ∀ b ∈ hid, b ∈ fpsOf (gst X N env A) a ip hid := fun b hb => List.mem_cons_of_mem _ (List.mem_cons_of_mem _ (List.mem_append_right _ hb))
  have Lsz : env.locals ≤ s.heap.objs.size := by
    obtain ⟨o, e, _⟩ := li.obj _ mL
    exact Nat.le_of_lt (Heap.lt_size e)
  have notcell : ∀ b, b < env.locals → ∀ x, env.cells.lookup x ≠ some b := fun b hb x e => absurd (Nat.lt_trans hb (st.cab x b e)) (Nat.lt_irrefl _)
  have low : ∀ b, b < env.locals → b ∉ hid → ovl (gst X N env A) hid Hg H b = H b := fun b hb h1 => ovl_off h1 (notcell b hb)
  have nfr : ∀ b ∈ fpsOf (gst X N env A) a ip hid, b ∉ frs X.stack := fun b hb z => by
    obtain ⟨_, f1, f2, _⟩ := fp b hb
    rcases List.mem_cons.mp (I.stkSub b z) with y | y
    · exact f1 y
    · exact f2 y
  have nbase : ∀ b ∈ fpsOf (gst X N env A) a ip hid, ∀ o, X.base.get? b ≠ some o := fun b hb o e => by
    obtain ⟨_, _, _, f3, _⟩ := fp b hb
    rcases f3 with y | y
    · exact I.ok.noex b o e y
    · rw [(I.ok.bs b o e).1] at y
      cases y
  have baseL : ∀ b o, X.base.get? b = some o → b < env.locals := fun b o e => by
    have h1 := I.ok.bsz
    have h2 := I.ok.above
    have h3 := Heap.lt_size e
    have h4 : X.env.locals < env.locals := lo1
    exact Nat.lt_trans (Nat.lt_of_lt_of_le h3 (Nat.le_trans h1 h2)) h4
  have frsL : ∀ b ∈ frs X.stack, b < env.locals := fun b hb => by
    rcases List.mem_cons.mp (I.stkSub b hb) with z | z
    · rw [z]; exact lo1
    · obtain ⟨_, o, e, _⟩ := I.ok.funs.mem z
      have h1 := Heap.lt_size e
      have h4 : X.env.locals < env.locals := lo1
      exact Nat.lt_trans (Nat.lt_of_lt_of_le h1 I.ok.above) h4
  have hn : ∀ b, H b = none → b ∉ hid → ovl (gst X N env A) hid Hg H b = none := fun b e h1 => by
    by_cases hc : ∃ x, env.cells.lookup x = some b
    · obtain ⟨x, ex⟩ := hc
      exact ovl_cell (x := x) h1 ex
    · rw [ovl_off h1 fun x ex => hc ⟨x, ex⟩]
      exact e
  have hp2 : ∀ p ∈ X.pn ++ pins, p.1 ∉ fpsOf (gst X N env A) a ip hid := fun p hp z => (fp _ z).2.2.2.2.2 p hp rfl
  have E0' := I.env0
  have hne := li.ne
  have freeL : ovl (gst X N env A) hid Hg H env.locals = none := hn _ (fp _ mL).1 fun z => (hne.2.2 _ z).2.1 rfl
  have hid_nc : ∀ b ∈ hid, ∀ x, env.cells.lookup x ≠ some b := fun b hb x e => li.noc b hb x b e rfl
  refine ⟨⟨⟨I.ok.mod, st.kind, st.glob, st.blt, ?_, st.inj, st.has, fun x c _ e => ?_, fun _ => st.hd, Around.frames_deeper st.frames, .inr ⟨rfl, st.frame⟩, (fun b z => nomatch z), fun b o e => ⟨?_, ?_⟩, ?_, (fun b o _ z => nomatch z), (fun b z => nomatch z), ?_, fun b hb => ?_⟩,
    rfl, ?_, Un.kept fun b o e => (cut_keep Lsz e).2, ?_, fun x c e => ?_, freeL, fun x c e => ?_, fun p hp => ?_, fun b o e => ?_, li.len⟩, cut_size Lsz, fun p hp q hq => ?_, li.yg⟩
  · show (cutH env.locals s.heap).objs.size ≤ env.locals
    rw [cut_size Lsz]
    exact Nat.le_refl _
  · show (cutH env.locals s.heap).objs.size ≤ c
    rw [cut_size Lsz]
    exact Nat.le_of_lt (st.cab x c e)
  · show (cutH env.locals s.heap).get? b = some o
    rw [cut_get (baseL b o e)]
    exact (I.bs b o e).1
  · exact (low b (baseL b o e) fun z => nbase b (mH b z) o e).trans (I.bs b o e).2
  · show X.base.objs.size ≤ (cutH env.locals s.heap).objs.size
    rw [cut_size Lsz]
    exact Nat.le_trans I.ok.bsz (Nat.le_trans I.ok.above (Nat.le_of_lt lo1))
  · exact fun_cut _ frsL E0'.funs
  · exact (low b (frsL b hb) fun z => nfr b (mH b z) hb).trans (E0'.frf b hb)
  · exact allBare_setGen I.bare ht
  · obtain ⟨m, hm, q⟩ := li.loc
    refine ⟨m, hm, fun i x v e1 e2 e3 => ?_⟩
    obtain ⟨k1, u, r, e⟩ := q i x v e1 e2
    exact ⟨u, r, .inl ⟨k1, e⟩⟩
  · show ∃ v, s.heap.IsCell c v
    exact (cz x c e).2
  · by_cases hc : c ∈ hid
    · exact absurd e (hid_nc c hc x)
    · exact ovl_cell hc e
  · rcases List.mem_append.mp hp with hp | hp
    · rcases List.mem_cons.mp hp with hp | hp
      · rw [hp]
        obtain ⟨f0, f1, f2, _⟩ := fp a mA
        refine ⟨hgo, hn a f0 fun z => (hne.2.2 _ z).1 rfl, hne.1, fun z => ?_, ?_⟩
        · exact nfr a mA z
        · obtain ⟨o, e, d⟩ := li.obj a mA
          rw [hgo] at e
          cases e
          exact d
      · obtain ⟨g1, g2, g3, g4, g5⟩ := I.pin p hp
        have nf := hp2 p hp
        refine ⟨g1, hn _ g2 fun z => nf (mH _ z), fun z => nf (by rw [z]; exact mL), fun z => ?_, g5⟩
        rcases List.mem_cons.mp (I.stkSub _ z) with y | y
        · exact g3 y
        · exact g4 y
    · obtain ⟨f0, f1, f2, _⟩ := fp _ (mI p hp)
      refine ⟨li.ips p hp, hn _ f0 fun z => (hne.2.2 _ z).2.2 p hp rfl, (hne.2.1 p hp).2, fun z => ?_, ?_⟩
      · exact nfr _ (mI p hp) z
      · obtain ⟨o, e, d⟩ := li.obj _ (mI p hp)
        rw [li.ips p hp] at e
        cases e
        exact d
  · have keepT : ∀ c u, (∀ z, u ≠ HO.lst z) → u ≠ cellX c → H c = some u → ovl (gst X N env A) hid Hg H c = some u := fun c u n1 n2 e => by
      have c1 : c ∉ hid := fun z => by
        have := (fp c (mH c z)).1
        rw [e] at this
        cases this
      rw [ovl_off c1 fun x ex => ?_]
      · exact e
      · rcases (cz x c ex).1 with this | this
        · rw [e] at this
          exact n2 (Option.some.inj this)
        · rw [e] at this
          cases this
    by_cases hb : b ∈ hid
    · rw [ovl_hid hb] at e
      obtain ⟨xs, e2, ok⟩ := li.hids b hb
      rw [e] at e2
      cases e2
      exact ok
    · by_cases hc : ∃ x, env.cells.lookup x = some b
      · obtain ⟨x, ex⟩ := hc
        rw [ovl_cell (x := x) hb ex] at e
        cases e
      · rw [ovl_off hb fun x ex => hc ⟨x, ex⟩] at e
        exact (I.hok b o e).stay (fun _ _ _ q => q) (fun c q => keepT c _ (fun _ z => by cases z) (fun z => by unfold cellX at z; cases z) q) fun c xs q => keepT c _ (fun _ z => by cases z) (fun z => by unfold cellX at z; cases z) q
  · rcases List.mem_cons.mp hp with hp | hp
    · rw [hp]
      exact fun z => (hne.2.1 q hq).1 z.symm
    · exact fun z => hp2 p hp (by rw [z]; exact mI q hq)
end
/-! ## waking -/
/-- the sleeper's code goes to an end of which Z holds -/
def GoSg (M : Model) (A : Around) (Z : End → Shared → Prop) (s : Shared) : GenState → Prop
  | .fresh c => Sg M A Z c (M.den c) [] s
  | .suspended k _ c _ fs _ => Sg M A Z c (k (.send .none)) fs s
  | _ => False
theorem resume_sg {M : Model} {A : Around} {Z : End → Shared → Prop} {E : Value → Shared → Prop} {s : Shared} {g : Nat} {gs : GenState} {l : List Value} {α : Type} {k : GenResult → Sem α} {Q : α → Shared → Prop} (hgs : s.gens[g]? = some gs)
    (go : GoSg M A Z (s.setGen g .running) gs) (hz : ∀ e s₁, Z e s₁ → e.quiet = true) (fin : ∀ e s₁, Z e s₁ → wpAny M A (k e.result) Q E (s₁.setGen g e.genState)) : wpAny M A (.resume g (.send .none) l k) Q E s := by
  intro Γ p hΓ
  rw [Sem.wp_resume]
  cases gs with
  | fresh c =>
    obtain ⟨e₁, s₁, hr, he⟩ := go (Γ.wake c p) p rfl (hΓ.wake c p)
    exact ⟨_, _, by unfold Wakes; rw [hgs]; exact ⟨e₁, s₁, hr, hz _ _ he, rfl, rfl⟩, fin _ _ he Γ p hΓ⟩
  | suspended k₀ l₀ c₀ p₀ fs₀ cl =>
    obtain ⟨e₁, s₁, hr, he⟩ := go (Γ.wake c₀ p) p₀ rfl (hΓ.wake c₀ p)
    exact ⟨_, _, by unfold Wakes; rw [hgs]; exact ⟨e₁, s₁, hr, hz _ _ he, rfl, rfl⟩, fin _ _ he Γ p hΓ⟩
  | running => exact go.elim
  | finished => exact go.elim
theorem next_sg {prog : Program} {w : World} {A : Around} {E : Value → Shared → Prop} {s : Shared} {a : Addr} {g : Nat} {gs : GenState} {Z : End → Shared → Prop} {Q : Option Value → Shared → Prop} (hh : A.handled = none)
    (hlim : s.heap.NoLimit) (hdp : A.depth < recursionLimit) (isG : s.heap.IsGen a g) (hgs : s.gens[g]? = some gs) (go : GoSg (model prog w) A.in1 Z (s.setGen g .running) gs) (hz : ∀ e s₁, Z e s₁ → e.quiet = true)
    (hP : ∀ f s₁, Z (.ret (.ok f)) s₁ → f = .ret .none ∧ ∀ h', (∀ b o, s₁.heap.get? b = some o → h'.get? b = some o) → Q none { s₁.setGen g .finished with heap := h' })
    (hY : ∀ v g₀ l k c p fs s₁, Z (.susp v g₀ l k c p fs) s₁ → Q (some v) (s₁.setGen g (End.susp v g₀ l k c p fs).genState))
    (hE : ∀ e s₁, Z (.ret (.error e)) s₁ → s₁.heap.IsGen a g ∧ NotStop (model prog w) e s₁.heap ∧ E e (s₁.setGen g .finished)) : wpAny (model prog w) A (pyNext (.ref a)) Q E s := by
  unfold pyNext
  refine wpAny_bind (wpAny_attempt (wpAny_callSpecial?_slot (name := Str.ofString "__next__") isG.typeIs slot_gen_next (wpAny_call_entry slot_gen_next isG.typeIs entry_gen_next ?_ (args_gen_next _))))
  show wpAny (model prog w) A.in1 (Builtin.Generator.genWake (.ref a) (.send .none)) _ _ s
  unfold Builtin.Generator.genWake
  refine wpAny_bind (wpAny_holding (wpAny_genNumber isG (wpAny_bind (wpAny_genState hgs ?_))))
  cases gs with
  | running => exact go.elim
  | finished => exact go.elim
  | _ =>
    refine wpAny_bind (wpAny_roomToWake hlim hdp ?_)
    show wpAny (model prog w) A.in1 (.resume g (.send .none) [] _) _ _ s
    refine resume_sg hgs go hz fun e s₁ he => ?_
    cases e with
    | susp v g₀ l k c p fs => exact wpAny_pure ⟨v, rfl, wpAny_pure (hY v g₀ l k c p fs s₁ he)⟩
    | ret x =>
      cases x with
      | ok f =>
        obtain ⟨rfl, hp⟩ := hP f s₁ he
        have hres : End.result (.ret (.ok (.ret .none))) = .returned .none := rfl
        first | rw [hres] | simp only [hres]
        show wpAny (model prog w) A.in1 (newExc (.type "StopIteration") [] >>= _) _ _ _
        refine wpAny_bind ?_
        simp only [newExc, newTuple]
        refine wpAny_bind (wpAny_newObj_type (wpAny_bind (m := firstArgMember _ _) (wpAny_of_eq (a := Value.none) (by first | rfl | (simp only [firstArgMember]; rfl)) (wpAny_newObj_type ?_ (by size_fits)))) (by size_fits))
        simp only [raiseNew]
        refine wpAny_bind (wpAny_bind (wpAny_handled ?_))
        first | rw [show A.in1.handled = none from hh] | rw [hh]
        refine wpAny_throw (wpAny_bind (wpAny_isInstance (T := "StopIteration") (b := true) ⟨_, Heap.get?_push_size _ rfl, rfl⟩ isSubtype_stop (wpAny_pure (hp _ fun b o hb => ?_))))
        exact Heap.get?_push_of_some _ (Heap.get?_push_of_some _ hb)
      | error e =>
        obtain ⟨hg1, hns, hq⟩ := hE e s₁ he
        obtain ⟨o, nm, qn, ho, hc, hd, hsl⟩ := hg1
        show wpAny (model prog w) A.in1 (Builtin.Generator.genLeft (.ref a) e) _ _ _
        unfold Builtin.Generator.genLeft Builtin.Generator.madeByALambda
        refine wpAny_bind (wpAny_bind (wpAny_load (o := o) ho (wpAny_pure (wpAny_bind (hns _ _ _ _ rfl ?_)))))
        rw [Bool.and_false, if_neg Bool.false_ne_true]
        unfold Builtin.Generator.genEscaped
        first | refine wpAny_bind (hns _ _ _ _ rfl ?_) | refine wpAny_bind (wpAny_pure (wpAny_bind (hns _ _ _ _ rfl ?_)))
        rw [if_pos (show (!false) = true from rfl)]
        first | refine wpAny_throw ?_ | refine wpAny_bind (wpAny_throw ?_)
        refine wpAny_bind (hns _ _ _ _ rfl ?_)
        rw [if_neg Bool.false_ne_true]
        exact wpAny_throw hq
/-! ## behind a waking: the consumer's account again -/
/-- what is not at ch is kept -/
structure UnP (fs : List Addr) (ch : Addr → Prop) (H H' : Hp) (h h' : Heap) : Prop where
  keep : ∀ b o, h.get? b = some o → H b = none → b ∉ fs → ¬ ch b → h'.get? b = some o
  slot : ∀ b o, h.get? b = some o → H b = none → b ∈ fs → ¬ ch b → ∃ sl, h'.get? b = some { o with slots := sl }
  free : ∀ b o, h.get? b = some o → H b = none → ¬ ch b → H' b = none
  there : ∀ b o, h.get? b = some o → ¬ ch b → ∃ o', h'.get? b = some o'
  tups : ∀ b xs, H b = some (.tup xs) → H' b = some (.tup xs)
  frzs : ∀ b o u, H b = some (.frz o u) → H' b = some (.frz o u)
  tbls : ∀ b ps, H b = some (.tbl ps) → ∃ more, H' b = some (.tbl (ps ++ more))
theorem UnP.any {fs : List Addr} {ch : Addr → Prop} {H H' : Hp} {h h' : Heap} (u : UnP fs ch H H' h h') {b : Addr} {o : Obj} (e : h.get? b = some o) (n : H b = none) (hc : ¬ ch b) : ∃ sl, h'.get? b = some { o with slots := sl } := by
  by_cases z : b ∈ fs
  · exact u.slot b o e n z hc
  · exact ⟨o.slots, u.keep b o e n z hc⟩
theorem inv_back {X : Cx} {pins : List (Addr × Obj)} {σ : L2.St} {H H' : Hp} {s s' : Shared} {ch : Addr → Prop} (I : Inv X pins σ H s) (ho : s'.os = s.os) (u : UnP (frs X.stack) ch H H' s.heap s'.heap) (hok : HOk X.prog X.w H' s'.heap) (hg : AllBare s'.gens)
    (hch : ∀ b, ch b → (b ∈ X.ex ∨ X.s_0.heap.get? b = none) ∧ b ≠ X.env.locals ∧ (∀ x c, X.env.cells.lookup x = some c → c ≠ b) ∧ ∀ p ∈ X.pn ++ pins, p.1 ≠ b) : Inv X pins σ H' s' := by
  have fsub : ∀ b ∈ X.fs, b ∈ frs X.stack := fun b hb => by
    rcases I.ok.stk with e | ⟨e, hf⟩
    · rw [e]; exact hb
    · rw [e]
      unfold frs
      rw [List.filterMap_cons, hf]
      exact List.mem_cons_of_mem _ hb
  have old : ∀ b o, X.s_0.heap.get? b = some o → b ∉ X.ex → ¬ ch b := fun b o e hx hb => by
    rcases (hch b hb).1 with z | z
    · exact hx z
    · rw [e] at z; cases z
  have oldL : ∀ b o, X.s_0.heap.get? b = some o → b ≠ X.env.locals := fun b o e => Nat.ne_of_lt (Nat.lt_of_lt_of_le (Heap.lt_size e) I.ok.above)
  have cellK : ∀ x c, X.env.cells.lookup x = some c → ∀ v, s.heap.IsCell c v → s'.heap.IsCell c v := fun x c e v ⟨o, e2, hd⟩ => by
    obtain ⟨sl, q⟩ := u.any e2 (I.freeC x c e) fun z => (hch c z).2.2.1 x c e rfl
    exact ⟨_, q, hd⟩
  have ncl : ¬ ch X.env.locals := fun z => (hch _ z).2.1 rfl
  obtain ⟨m, ⟨oL, es, ep, eL, rL⟩, hl⟩ := id I.loc
  obtain ⟨slL, eL'⟩ := u.any eL I.free ncl
  refine ⟨I.ok, ho.trans I.os, hg, ⟨fun b o e n hb hx => ?_, fun b o e n hb hx => ?_, fun b o e n hx => ?_, fun b o e hx => ?_, fun b xs e => u.tups b xs (I.base.tups b xs e), fun b o xs e => u.frzs b o xs (I.base.frzs b o xs e), fun b ps e => ?_⟩, ?_, fun x c e => ?_, u.free _ oL eL I.free ncl, fun x c e => ?_, fun p hp => ?_, hok, I.len⟩
  · have n2 := I.base.free b o e n hx
    refine u.keep b o (I.base.keep b o e n hb hx) n2 (fun z => ?_) (old b o e hx)
    rcases List.mem_cons.mp (I.stkSub b z) with y | y
    · exact oldL b o e y
    · exact hb y
  · obtain ⟨sl, e1⟩ := I.base.slot b o e n hb hx
    obtain ⟨sl', e2⟩ := u.slot b _ e1 (I.base.free b o e n hx) (fsub b hb) (old b o e hx)
    exact ⟨sl', e2⟩
  · obtain ⟨o', e1⟩ := I.base.there b o e hx
    exact u.free b o' e1 (I.base.free b o e n hx) (old b o e hx)
  · obtain ⟨o', e1⟩ := I.base.there b o e hx
    exact u.there b o' e1 (old b o e hx)
  · obtain ⟨m1, e1⟩ := I.base.tbls b ps e
    obtain ⟨m2, e2⟩ := u.tbls b _ e1
    exact ⟨m1 ++ m2, by rw [e2, Array.append_assoc]⟩
  · refine ⟨m, ⟨_, es, ep, eL', rL⟩, fun i x v e1 e2 e3 => ?_⟩
    obtain ⟨y, r, l⟩ := hl i x v e1 e2 e3
    refine ⟨y, r, ?_⟩
    rcases l with l | ⟨k, c, e, z⟩
    · exact .inl l
    · exact .inr ⟨k, c, e, cellK x c e _ z⟩
  · obtain ⟨v, z⟩ := I.cell x c e
    exact ⟨v, cellK x c e v z⟩
  · obtain ⟨v, o, e2, hd⟩ := I.cell x c e
    exact u.free c o e2 (I.freeC x c e) fun z => (hch c z).2.2.1 x c e rfl
  · obtain ⟨e, n, ne, nf, d⟩ := I.pin p hp
    have nch : ¬ ch p.1 := fun z => (hch p.1 z).2.2.2 p hp rfl
    refine ⟨u.keep p.1 p.2 e n (fun z => ?_) nch, u.free p.1 p.2 e n nch, ne, nf, d⟩
    rcases List.mem_cons.mp (I.stkSub _ z) with y | y
    · exact ne y
    · exact nf y
theorem inv_gens {X : Cx} {pins : List (Addr × Obj)} {σ : L2.St} {H : Hp} {s : Shared} {G : Array GenState} (I : Inv X pins σ H s) (hg : AllBare G) : Inv X pins σ H { s with gens := G } :=
  ⟨I.ok, I.os, hg, I.base, I.loc, I.cell, I.free, I.freeC, I.pin, I.hok, I.len⟩
theorem get_big {h : Heap} {b : Addr} (e : h.objs.size ≤ b) : h.get? b = none := by
  cases q : h.get? b with
  | none => rfl
  | some o => exact absurd (Nat.lt_of_lt_of_le (Heap.lt_size q) e) (Nat.lt_irrefl _)
section
variable {X : Cx} {N : List Str} {env : Env} {A : Around} {Y : GOut} {E : XK} {pins : List (Addr × Obj)} {a : Addr} {g n : Nat} {gs : GenState} {ip ip' : List (Addr × Obj)} {σ σ' σc : L2.St} {hid hid' : List Addr} {Hg H H1 : Hp} {s s₁ : Shared} {go : Obj}
theorem back_inv (I : Inv X pins σc H s) (z : Zz X (gst X N env A) Y pins a g n gs ip σ hid Hg H s) (hgo : s.heap.get? a = some go) (G : GI1 (gst X N env A) (wakeB X (gst X N env A) pins (a, go) hid Hg H s E) ip' σ' H1 s₁)
    (hh : ∀ b ∈ hid', (∃ xs, H1 b = some (.lst xs)) ∧ (b ∈ hid ∨ H b = none)) :
    Inv X pins σc (seeC (gst X N env A) hid' H1) s₁ ∧ (NoCV (gst X N env A) σ' → (∀ b ∈ fpsOf (gst X N env A) a ip' hid', FpG X pins (seeC (gst X N env A) hid' H1) b) ∧ CellsIn (gst X N env A) (seeC (gst X N env A) hid' H1) ∧ Lies (gst X N env A) a g ip' σ' hid' H1 s₁.heap) := by
  obtain ⟨st, hgs, sl, li, fp, cz, lo1, lo2⟩ := z
  have lo1' : X.env.locals < env.locals := lo1
  have mL : env.locals ∈ fpsOf (gst X N env A) a ip hid := List.mem_cons_of_mem _ List.mem_cons_self
  have mA : a ∈ fpsOf (gst X N env A) a ip hid := List.mem_cons_self
  have mH : ∀ b ∈ hid, b ∈ fpsOf (gst X N env A) a ip hid := fun b hb => List.mem_cons_of_mem _ (List.mem_cons_of_mem _ (List.mem_append_right _ hb))
  obtain ⟨I1, sz1, ap1, yg1⟩ := G
  have Lsz : env.locals ≤ s.heap.objs.size := by
    obtain ⟨o, e, _⟩ := li.obj _ mL
    exact Nat.le_of_lt (Heap.lt_size e)
  have notcell : ∀ b, b < env.locals → ∀ x, env.cells.lookup x ≠ some b := fun b hb x e => absurd (Nat.lt_trans hb (st.cab x b e)) (Nat.lt_irrefl _)
  have s0L : X.s_0.heap.objs.size ≤ env.locals := Nat.le_trans I.ok.above (Nat.le_of_lt lo1')
  have cellS : ∀ x c, env.cells.lookup x = some c → ∃ o v, s.heap.get? c = some o ∧ o.data = .cell v := fun x c e => by
    obtain ⟨v, o, e2, d⟩ := (cz x c e).2
    exact ⟨o, v, e2, d⟩
  have ovH : ∀ b, (∀ x, env.cells.lookup x ≠ some b) → b ∉ hid → ovl (gst X N env A) hid Hg H b = H b := fun b h1 h2 => ovl_off h2 h1
  -- what was there, low, and is not the frame's own
  have cutE : ∀ b o, b < env.locals → s.heap.get? b = some o → (cutH env.locals s.heap).get? b = some o := fun b o hb e => (cut_get hb).trans e
  have lowfree : ∀ b o, s.heap.get? b = some o → H b = none → b < env.locals → b ∉ hid → H1 b = none := fun b o e hn hb h1 =>
    I1.base.free b o (cutE b o hb e) ((ovH b (notcell b hb) h1).trans hn) (fun z => nomatch z)
  have pin1 : ∀ p ∈ X.pn ++ pins, s₁.heap.get? p.1 = some p.2 ∧ H1 p.1 = none := fun p hp =>
    let q := I1.pin p (List.mem_append_left _ (List.mem_cons_of_mem _ hp))
    ⟨q.1, q.2.1⟩
  have pinA := I1.pin (a, go) (List.mem_append_left _ List.mem_cons_self)
  have nhid : ∀ b, H1 b = none → b ∉ hid' := fun b e z => by
    obtain ⟨⟨xs, q⟩, _⟩ := hh b z
    rw [e] at q
    cases q
  have hp2 : ∀ p ∈ X.pn ++ pins, p.1 ∉ fpsOf (gst X N env A) a ip hid := fun p hp z => (fp _ z).2.2.2.2.2 p hp rfl
  have pnc : ∀ p ∈ X.pn ++ pins, ∀ x, env.cells.lookup x ≠ some p.1 := fun p hp x e => by
    obtain ⟨o, v, e2, d⟩ := cellS x _ e
    obtain ⟨e3, _, _, _, d3⟩ := I.pin p hp
    rw [e2] at e3
    cases e3
    exact d3 v d
  have anc : ∀ x, env.cells.lookup x ≠ some a := fun x e => by
    obtain ⟨o, v, e2, d⟩ := cellS x _ e
    obtain ⟨o2, e3, d3⟩ := li.obj a mA
    rw [e2] at e3
    cases e3
    exact d3 v d
  have frsL : ∀ b ∈ frs X.stack, b < env.locals := fun b hb => by
    rcases List.mem_cons.mp (I.stkSub b hb) with z | z
    · rw [z]; exact lo1
    · obtain ⟨_, o, e, _⟩ := I.ok.funs.mem z
      exact Nat.lt_of_lt_of_le (Heap.lt_size e) s0L
  have see0 : ∀ b, H1 b = none → (∀ x, env.cells.lookup x ≠ some b) → seeC (gst X N env A) hid' H1 b = none := fun b e h1 => (seeC_off (nhid b e) h1).trans e
  have seeS : ∀ b o, H1 b = some o → (∀ xs, o ≠ .lst xs) → seeC (gst X N env A) hid' H1 b = some o := fun b o e h1 => by
    rw [seeC_off (fun z => ?_) fun x ex => ?_]
    · exact e
    · obtain ⟨⟨xs, q⟩, _⟩ := hh b z
      rw [e] at q
      exact h1 xs (Option.some.inj q)
    · have q := I1.freeC x b ex
      rw [e] at q
      cases q
  have keepT : ∀ b o, H b = some o → o ≠ cellX b → ovl (gst X N env A) hid Hg H b = some o := fun b o e h1 => by
    rw [ovH b (fun x ex => ?_) fun z => ?_]
    · exact e
    · rcases (cz x b ex).1 with q | q
      · rw [e] at q
        exact h1 (Option.some.inj q)
      · rw [e] at q
        cases q
    · have q := (fp b (mH b z)).1
      rw [e] at q
      cases q
  -- the addresses that may have changed
  let ch : Addr → Prop := fun b => (b ∈ fpsOf (gst X N env A) a ip hid ∨ env.locals ≤ b) ∧ ∀ p ∈ X.pn ++ pins, p.1 ≠ b
  have nch : ∀ b, ¬ ch b → (∃ p ∈ X.pn ++ pins, p.1 = b) ∨ (b ∉ fpsOf (gst X N env A) a ip hid ∧ b < env.locals) := fun b hb => by
    by_cases q : ∃ p ∈ X.pn ++ pins, p.1 = b
    · exact .inl q
    · refine .inr ⟨fun z => hb ⟨.inl z, fun p hp e => q ⟨p, hp, e⟩⟩, ?_⟩
      rcases Nat.lt_or_ge b env.locals with z | z
      · exact z
      · exact (hb ⟨.inr z, fun p hp e => q ⟨p, hp, e⟩⟩).elim
  have u : UnP (frs X.stack) ch H (seeC (gst X N env A) hid' H1) s.heap s₁.heap := by
    refine ⟨fun b o e n hf hc => ?_, fun b o e n hf hc => ?_, fun b o e n hc => ?_, fun b o e hc => ?_, fun b xs e => ?_, fun b o v e => ?_, fun b ps e => ?_⟩
    · rcases nch b hc with ⟨p, hp, rfl⟩ | ⟨h1, h2⟩
      · rw [(I.pin p hp).1] at e
        cases e
        exact (pin1 p hp).1
      · exact I1.base.keep b o (cutE b o h2 e) ((ovH b (notcell b h2) fun z => h1 (mH b z)).trans n) hf (fun z => nomatch z)
    · rcases nch b hc with ⟨p, hp, rfl⟩ | ⟨h1, h2⟩
      · obtain ⟨_, _, g3, g4, _⟩ := I.pin p hp
        rcases List.mem_cons.mp (I.stkSub _ hf) with y | y
        · exact (g3 y).elim
        · exact (g4 y).elim
      · exact I1.base.slot b o (cutE b o h2 e) ((ovH b (notcell b h2) fun z => h1 (mH b z)).trans n) hf (fun z => nomatch z)
    · rcases nch b hc with ⟨p, hp, rfl⟩ | ⟨h1, h2⟩
      · exact see0 _ (pin1 p hp).2 (pnc p hp)
      · exact see0 b (lowfree b o e n h2 fun z => h1 (mH b z)) (notcell b h2)
    · rcases nch b hc with ⟨p, hp, rfl⟩ | ⟨h1, h2⟩
      · exact ⟨_, (pin1 p hp).1⟩
      · exact I1.base.there b o (cutE b o h2 e) (fun z => nomatch z)
    · exact seeS b _ (I1.base.tups b xs (keepT b _ e (fun z => by unfold cellX at z; cases z))) (fun _ z => by cases z)
    · exact seeS b _ (I1.base.frzs b o v (keepT b _ e (fun z => by unfold cellX at z; cases z))) (fun _ z => by cases z)
    · obtain ⟨more, q⟩ := I1.base.tbls b ps (keepT b _ e (fun z => by unfold cellX at z; cases z))
      exact ⟨more, seeS b _ q (fun _ z => by cases z)⟩
  have hok : HOk X.prog X.w (seeC (gst X N env A) hid' H1) s₁.heap := fun b o e => by
    by_cases hb : b ∈ hid'
    · rw [seeC_hid hb] at e
      cases e
    · by_cases hc : ∃ x, env.cells.lookup x = some b
      · obtain ⟨x, ex⟩ := hc
        rw [seeC_cell (x := x) hb ex] at e
        cases e
        obtain ⟨v, oc, e2, d⟩ := I1.cell x b ex
        exact ⟨⟨v, oc, e2, d⟩, ⟨oc, e2⟩, fun h1 h2 ⟨v', oc', e3, d'⟩ k => ⟨v', oc', k _ e3, d'⟩⟩
      · rw [seeC_off hb fun x ex => hc ⟨x, ex⟩] at e
        exact (I1.hok b o e).stay (fun _ _ _ q => q) (fun c q => seeS c _ q (fun _ z => by cases z)) fun c xs q => seeS c _ q (fun _ z => by cases z)
  have s0none : ∀ b, env.locals ≤ b → X.s_0.heap.get? b = none := fun b hb => get_big (Nat.le_trans s0L hb)
  have hch : ∀ b, ch b → (b ∈ X.ex ∨ X.s_0.heap.get? b = none) ∧ b ≠ X.env.locals ∧ (∀ x c, X.env.cells.lookup x = some c → c ≠ b) ∧ ∀ p ∈ X.pn ++ pins, p.1 ≠ b := fun b hb => by
    rcases hb.1 with z | z
    · obtain ⟨_, f1, _, f3, f4, _⟩ := fp b z
      exact ⟨f3, f1, f4, hb.2⟩
    · refine ⟨.inr (s0none b z), fun y => ?_, fun x c e y => ?_, hb.2⟩
      · rw [y] at z
        exact absurd (Nat.lt_of_lt_of_le lo1' z) (Nat.lt_irrefl _)
      · have := lo2 x c e
        rw [y] at this
        exact absurd (Nat.lt_of_lt_of_le this z) (Nat.lt_irrefl _)
  refine ⟨inv_back I (I1.os.trans rfl) u hok I1.bare hch, fun hN => ⟨fun b hb => ?_, fun x c e => ?_, ?_⟩⟩
  · have hb : b = a ∨ b = env.locals ∨ (∃ q ∈ ip', q.1 = b) ∨ b ∈ hid' := by
      rcases List.mem_cons.mp hb with z | z
      · exact .inl z
      · rcases List.mem_cons.mp z with z | z
        · exact .inr (.inl z)
        · rcases List.mem_append.mp z with z | z
          · obtain ⟨q, hq, e⟩ := List.mem_map.mp z
            exact .inr (.inr (.inl ⟨q, hq, e⟩))
          · exact .inr (.inr (.inr z))
    rcases hb with rfl | rfl | ⟨q, hq, rfl⟩ | hb
    · obtain ⟨f0, f1, f2, f3, f4, f5⟩ := fp _ mA
      exact ⟨see0 _ pinA.2.1 anc, f1, f2, f3, f4, f5⟩
    · obtain ⟨f0, f1, f2, f3, f4, f5⟩ := fp _ mL
      exact ⟨see0 _ I1.free (fun x e => absurd (st.cab x _ e) (Nat.lt_irrefl _)), f1, f2, f3, f4, f5⟩
    · obtain ⟨y1, y2⟩ := yg1 q hq
      have y1' : env.locals ≤ q.1 := y1
      refine ⟨see0 _ (I1.pin q (List.mem_append_right _ hq)).2.1 (fun x e => y2 x _ e rfl), fun e => ?_, fun e => ?_, .inr (s0none _ y1'), fun x c e y => ?_, fun p hp => ap1 p (List.mem_cons_of_mem _ hp) q hq⟩
      · rw [e] at y1'
        exact absurd (Nat.lt_of_lt_of_le lo1' y1') (Nat.lt_irrefl _)
      · obtain ⟨_, o, e2, _⟩ := I.ok.funs.mem e
        exact absurd (Nat.lt_of_lt_of_le (Heap.lt_size e2) (Nat.le_trans s0L y1')) (Nat.lt_irrefl _)
      · have := lo2 x c e
        rw [y] at this
        exact absurd (Nat.lt_of_lt_of_le this y1') (Nat.lt_irrefl _)
    · obtain ⟨⟨xs, e1⟩, hb2⟩ := hh b hb
      by_cases hold : b ∈ hid
      · obtain ⟨f0, f1, f2, f3, f4, f5⟩ := fp _ (mH b hold)
        exact ⟨seeC_hid hb, f1, f2, f3, f4, f5⟩
      · have Hn : H b = none := hb2.resolve_left hold
        have no : ∀ o, s.heap.get? b = some o → b < env.locals → False := fun o e lt => by
          rw [lowfree b o e Hn lt hold] at e1
          cases e1
        refine ⟨seeC_hid hb, fun e => ?_, fun e => ?_, ?_, fun x c e y => ?_, fun p hp y => ?_⟩
        · obtain ⟨m, ⟨o, es, ep, eo, _⟩, _⟩ := I.loc
          exact no o (by rw [e]; exact eo) (by rw [e]; exact lo1')
        · obtain ⟨_, o, e2, _⟩ := I.ok.funs.mem e
          obtain ⟨o', e3⟩ := I.base.there b o e2 fun z => I.ok.exfs b z e
          exact no o' e3 (Nat.lt_of_lt_of_le (Heap.lt_size e2) s0L)
        · cases q : X.s_0.heap.get? b with
          | none => exact .inr rfl
          | some o =>
            by_cases hx : b ∈ X.ex
            · exact .inl hx
            · obtain ⟨o', e3⟩ := I.base.there b o q hx
              exact (no o' e3 (Nat.lt_of_lt_of_le (Heap.lt_size q) s0L)).elim
        · obtain ⟨v, o, e2, _⟩ := I.cell x c e
          rw [y] at e2
          exact no o e2 (by rw [← y]; exact lo2 x c e)
        · have := (pin1 p hp).2
          rw [y, e1] at this
          cases this
  · refine seeC_cell (fun z => ?_) e
    obtain ⟨⟨xs, q⟩, _⟩ := hh c z
    rw [I1.freeC x c e] at q
    cases q
  · obtain ⟨o, nm, qn, eo, r⟩ := li.gen
    rw [hgo] at eo
    cases eo
    refine ⟨⟨go, nm, qn, pinA.1, r⟩, ?_, fun q hq => (I1.pin q (List.mem_append_right _ hq)).1, fun b hb => ?_, I1.len, fun b hb => ?_, yg1, fun b hb x c e y => ?_, ⟨li.ne.1, fun q hq => ⟨fun y => ?_, (I1.pin q (List.mem_append_right _ hq)).2.2.1⟩, fun b hb => ?_⟩⟩
    · obtain ⟨m, hm, hl⟩ := I1.loc
      refine ⟨m, hm, fun i x v e1 e2 => ?_⟩
      have hk := hN i x v e1 e2
      obtain ⟨w, rw_, l⟩ := hl i x v e1 e2 (.inl hk)
      refine ⟨hk, w, rw_, ?_⟩
      rcases l with ⟨_, l⟩ | ⟨k, _⟩
      · exact l
      · have hk' : (gst X N env A).env.kindOf x = some .local := hk
        rcases k with k | k
        · have k' : (gst X N env A).env.kindOf x = some .cell := k
          rw [hk'] at k'
          cases k'
        · have k' : (gst X N env A).env.kindOf x = some .free := k
          rw [hk'] at k'
          cases k'
    · obtain ⟨⟨xs, q⟩, _⟩ := hh b hb
      exact ⟨xs, q, I1.hok b _ q⟩
    · rcases List.mem_cons.mp hb with z | z
      · rw [z]
        exact ⟨go, pinA.1, pinA.2.2.2.2⟩
      · rcases List.mem_cons.mp z with z | z
        · obtain ⟨m, ⟨o, es, ep, eo, d, _⟩, _⟩ := I1.loc
          rw [z]
          exact ⟨o, eo, fun v q => by rw [d] at q; cases q⟩
        · rcases List.mem_append.mp z with z | z
          · obtain ⟨q, hq, e⟩ := List.mem_map.mp z
            rw [← e]
            exact ⟨q.2, (I1.pin q (List.mem_append_right _ hq)).1, (I1.pin q (List.mem_append_right _ hq)).2.2.2.2⟩
          · obtain ⟨⟨xs, q⟩, _⟩ := hh b z
            obtain ⟨_, its, n', _, e⟩ := I1.hok b _ q
            exact ⟨_, e, fun v q => by cases q⟩
    · obtain ⟨⟨xs, q⟩, _⟩ := hh b hb
      have z := I1.freeC x c e
      rw [y, q] at z
      cases z
    · exact ap1 (a, go) List.mem_cons_self q hq y.symm
    · obtain ⟨⟨xs, q⟩, _⟩ := hh b hb
      refine ⟨fun y => ?_, fun y => ?_, fun r hr y => ?_⟩
      · have z := pinA.2.1
        rw [← y, q] at z
        cases z
      · have z := I1.free
        rw [show (((gst X N env A).cx (wakeB X (gst X N env A) pins (a, go) hid Hg H s E)).env.locals) = b from y.symm, q] at z
        cases z
      · have z := (I1.pin r (List.mem_append_right _ hr)).2.1
        rw [y, q] at z
        cases z
theorem zf_ret {S : GSt} {n : Nat} {β : GB} {f : Flow} {s' : Shared} (h : Zf S Y n β (.ret (.ok f)) s') : f = .ret .none ∧ ∃ ip σ H, GI1 S β ip σ H s' ∧ Y.fin n β.Hc (seeC S [] H) := by
  cases n <;> cases f <;> first | exact h.elim | (obtain ⟨e, q⟩ := h; exact ⟨by rw [e], q⟩)
theorem zf_err {S : GSt} {n : Nat} {β : GB} {e : Value} {s' : Shared} (h : Zf S Y n β (.ret (.error e)) s') : L2N.CX S.P S.w S.outer β.H β.s β.E e s' ∧ ∀ p ∈ β.pn, s'.heap.get? p.1 = some p.2 := by
  cases n <;> exact h
theorem zf_quiet {S : GSt} {n : Nat} {β : GB} {e : End} {s' : Shared} (h : Zf S Y n β e s') : e.quiet = true := by
  cases e with
  | ret r => rfl
  | susp v g l k c p fs =>
    cases n with
    | zero => exact h.elim
    | succ m => exact h.1
/-- next(g) -/
theorem next_gen {B : Around} {E' : Value → Shared → Prop} (I : Inv X pins σc H s) (z : Zz X (gst X N env B.in1) Y pins a g n gs ip σ hid Hg H s) (rq : Y.rq n H) (hh : B.handled = none) (hdp : B.depth < recursionLimit) (hex : isSl gs = true ∨ ((∀ cls d H', Y.ex H cls d H' → E cls d H') ∧ ∀ x c, env.cells.lookup x = some c → H c = none))
    (hE : ∀ e s₁, L2N.CX X.prog X.w X.stack (ovl (gst X N env B.in1) hid Hg H) { s with heap := cutH env.locals s.heap } E e s₁ → NotStop (model X.prog X.w) e s₁.heap ∧ E' e (s₁.setGen g .finished)) :
    wpAny (model X.prog X.w) B (pyNext (.ref a)) (fun r s' => (r = none ∧ ∃ H', Y.fin n H H' ∧ Inv X pins σc H' s') ∨ ∃ v x m H' gs' ip' σ' hid' Hg', r = some v ∧ n = m + 1 ∧ RelV x v ∧ Y.out m H x H' ∧ Inv X pins σc H' s' ∧ isSl gs' = true ∧ CellsIn (gst X N env B.in1) H' ∧ Zz X (gst X N env B.in1) Y pins a g m gs' ip' σ' hid' Hg' H' s') E' s := by
  obtain ⟨go, nm, qn, hgo, hcl, hdt, hsl⟩ := z.lies.gen
  have G := wake_gi (E := E) I z hgo .running rfl
  have lt : g < s.gens.size := (Array.getElem?_eq_some_iff.mp z.at_).1
  refine wpAny_gsz (n := g + 1) lt (next_sg (Z := Zf (gst X N env B.in1) Y n (wakeB X (gst X N env B.in1) pins (a, go) hid Hg H s E)) hh I.nolimit hdp z.lies.gen z.at_ ?_ (fun e s₁ he => ?_) (fun f s₁ he => ?_) (fun v g₀ l k c p fs s₁ he => ?_) fun e s₁ he => ?_)
  · have sl := z.sl
    cases gs with
    | fresh c => exact sl _ _ (fun cls d H' q => (hex.resolve_left (fun y => nomatch y)).1 cls d H' q) rfl rfl rq (hex.resolve_left (fun y => nomatch y)).2 G
    | suspended k l c p fs cl => exact sl.2 _ _ rfl ⟨fun b hb => (z.fp b (List.mem_cons_of_mem _ (List.mem_cons_of_mem _ (List.mem_append_right _ hb)))).1, fun x c e => (z.cells x c e).1⟩ rfl rq G
    | running => exact sl.elim
    | finished => exact sl.elim
  · exact zf_quiet he
  · obtain ⟨ef, ip', σ', H', G', hf⟩ := zf_ret he
    refine ⟨ef, fun h' k _ => .inl ⟨rfl, _, hf, ?_⟩⟩
    obtain ⟨I', _⟩ := back_inv I z hgo G' (hid' := []) (fun b hb => nomatch hb)
    exact (inv_gens I' (allBare_setGen (s := s₁) I'.bare rfl)).kept (t' := s₁.toks) k
  · intro hsz
    cases n with
    | zero => exact he.elim
    | succ m =>
      obtain ⟨hq, hsp, x, hid', ip', σ', H', r, G', hh', hN, ho, go'⟩ := he
      obtain ⟨I', h2⟩ := back_inv I z hgo G' hh'
      obtain ⟨h3, h4, h5⟩ := h2 hN
      have hcell : ∀ y c, env.cells.lookup y = some c → ∃ v, s₁.heap.IsCell c v := fun y c e => Hok_look I' (h4 y c e)
      have hb : (End.susp v g₀ l k c p fs).genState.bare = true := hq
      have hsz' : g < s₁.gens.size := by
        have q : (s₁.setGen g (End.susp v g₀ l k c p fs).genState).gens.size = s₁.gens.size := setGen_size _ _ _
        rw [← q]
        exact hsz
      exact .inr ⟨v, x, m, _, _, ip', σ', hid', H', rfl, rfl, r, ho, inv_gens I' (allBare_setGen (s := s₁) I'.bare hb), rfl, h4, z.st, setGen_at hsz', ⟨hsp, go'⟩, h5, h3, fun y c e => ⟨.inl (h4 y c e), hcell y c e⟩, z.lo⟩
  · obtain ⟨hc, hpn⟩ := zf_err he
    obtain ⟨q1, q2⟩ := hE e s₁ hc
    exact ⟨⟨go, nm, qn, hpn (a, go) List.mem_cons_self, hcl, hdt, hsl⟩, q1, fun _ => q2⟩
end
/-! ## a generator def -/
/-- its promise: the arguments; what it hands out, at most how many -/
abbrev SpG1 := List V → GOut → Nat → Prop
/-- a generator that has not begun -/
structure GM1 (P : Program) (w : World) (K : PySem.W.Frag) (mg : Str → Option Value) (base : Heap) (N : List Str) (k : Nat) (outer : List Env) (s : Shared) (Y : GOut) (n : Nat) (u : Value) (s' : Shared) (a : Addr) (g : Nat) (env : Env) (σ : L2.St) (c : Code) : Prop where
  is : u = .ref a
  loc : env.locals = s.heap.objs.size
  yng : s.heap.objs.size < a
  os : s'.os = s.os
  bare : AllBare s'.gens
  kept : ∀ b o, s.heap.get? b = some o → s'.heap.get? b = some o
  at_ : s'.gens[g]? = some (.fresh c)
  lies : ∀ A Hg, Lies { P := P, w := w, K := K, mg := mg, base := base, N := N, env := env, A := A, outer := outer } a g [] σ [] Hg s'.heap
  cells : ∀ x c, env.cells.lookup x = some c → s.heap.objs.size < c ∧ c ≠ a ∧ ∃ v, s'.heap.IsCell c v
  kind : env.scope.kind = .function
  glob : env.globals = mainGlobals
  blt : env.builtins = builtinsNs
  inj : ∀ x y c, env.cells.lookup x = some c → env.cells.lookup y = some c → x = y
  has : ∀ x, (env.kindOf x = some .cell ∨ env.kindOf x = some .free) → ∃ c, env.cells.lookup x = some c
  frame : env.frame = some env.locals
  go : ∀ A, Room k A → A.frames = some outer → Sleeps { P := P, w := w, K := K, mg := mg, base := base, N := N, env := env, A := A, outer := outer } Y n [] σ [] (fun _ => none) (.fresh c)
structure GFn1 (P : Program) (w : World) (K : PySem.W.Frag) (mg : Str → Option Value) (base : Heap) (N : List Str) (k : Nat) (f : Addr) (fd : FuncData) (ps : List Str) (sp : SpG1) : Prop where
  len : ∀ vs Y n, sp vs Y n → vs.length = ps.length
  run : ∀ (A : Around) (outer : List Env) (s : Shared) (H : Hp) (args : Args) (us : List Value) (vs : List V) (Y : GOut) (n : Nat), Room k A → Env0 P w K mg base A outer s H → BindsTo s fd args (ps.zip us) → Vals vs us → sp vs Y n →
    codeAny (model P w) A (.call (.ref f) args) (fun r s' => match r with | .ok (.ret u) => ∃ a g env σ c, GM1 P w K mg base N k outer s Y n u s' a g env σ c | _ => False) s
/-- where a generator's frame ends -/
def gEnds (S : GSt) (Y : GOut) : GEnds1 := { nx := fun n β _ H => Y.fin n β.Hc (seeC S [] H), rt := fun n β v H => v = .non ∧ Y.fin n β.Hc (seeC S [] H) }
theorem gfn1_of {P : Program} {w : World} {K : PySem.W.Frag} {mg : Str → Option Value} {base : Heap} {k : Nat} {f : Addr} {name qual : Str} {params : Arguments} {body : List Stmt} {scope : Scope} {dV kV doc pm cdv ct oc : Value} {an od : Option Addr}
    {osl : Array (Option Value)} {N ps : List Str} {sp : SpG1} (lk : K.lookup f = some ⟨oc, od, .func (PySem.W.fnOf name qual params body scope dV kV doc pm an cdv ct), osl⟩) (hcd : PySem.W.codeIn K cdv qual = true) (S : GScope N ps scope) (hpl : ∀ x ∈ ps, scope.names.lookup x = some .local)
    (len : ∀ vs Y n, sp vs Y n → vs.length = ps.length)
    (hbody : ∀ (A : Around) (outer : List Env) (L : Addr) (vs : List V) (Y : GOut) (n : Nat), Room k (A.deeper (envOfC qual scope L f cdv)) → sp vs Y n →
      ∃ t, GSs1 { P := P, w := w, K := K, mg := mg, base := base, N := N, env := envOfC qual scope L f cdv, A := A, outer := outer } Y body t ∧
        ∀ β, (∀ cls d H', Y.ex β.Hc cls d H' → β.E cls d H') → β.hid = [] → β.H = ovl { P := P, w := w, K := K, mg := mg, base := base, N := N, env := envOfC qual scope L f cdv, A := A, outer := outer } [] (fun _ => none) β.Hc → Y.rq n β.Hc →
          (∀ x c, (envOfC qual scope L f cdv).cells.lookup x = some c → β.Hc c = none) →
          t (gEnds { P := P, w := w, K := K, mg := mg, base := base, N := N, env := envOfC qual scope L f cdv, A := A, outer := outer } Y) n β (start N vs) β.H) :
    GFn1 P w K mg base N (k + 1) f (PySem.W.fnOf name qual params body scope dV kV doc pm an cdv ct) ps sp := by
  refine ⟨len, fun A outer s H args us vs Y n hr e0 hb r hsp => ?_⟩
  have hl := len _ _ _ hsp
  have KX : K.In s.heap := e0.mod.kin.keeps fun b o e => (e0.bs b o e).1
  have lim : s.heap.NoLimit := e0.mod.nolimit.keeps fun b o e => (e0.bs b o e).1
  have kinds : ∀ y ∈ ps.zip us, scope.names.lookup y.1 = some .local ∨ (scope.names.lookup y.1 = some .cell ∧ ((cellsFrom (s.heap.objs.size + 1) scope.names []).lookup y.1).isSome = true) := fun ⟨x, v⟩ hy => .inl (hpl x (List.of_mem_zip hy).1)
  refine codeAny_call_generator hr.depth (KX _ _ lk) rfl S.co S.gen rfl (PySem.W.codeRec_of KX hcd) (hb _ _ _ _ (wpAny_newFunctionEnv_cells S.kind kinds fun env he s1 x => ?_))
  subst he
  have lim1 : s1.heap.NoLimit := lim.keeps x.toInCall.keep
  refine ⟨lim1, ?_⟩
  have I1 : Inv (gcxOf P w K mg base N qual scope f cdv A outer s H E0 []) [] (start N vs) H s1 := inv_startG S hr.hd e0 hl r x
  have lt1 : s.heap.objs.size < s1.heap.objs.size := x.toInCall.ns.lt
  have ab : ∀ y c, (cellsFrom (s.heap.objs.size + 1) scope.names []).lookup y = some c → s.heap.objs.size < c := fun y c e => x.above y c (PySem.mem_of_lookup e)
  have kp : ∀ b o, s.heap.get? b = some o → s1.heap.get? b = some o := x.toInCall.keep
  have up : ∀ (go : Obj) b o, s1.heap.get? b = some o → (s1.heap.push go).get? b = some o := fun go b o e => Heap.get?_push_of_some _ e
  obtain ⟨h1, tk, es1, hk1⟩ := x.done
  have os1 : s1.os = s.os := by rw [es1]
  have gen1 : s1.gens = s.gens := by rw [es1]
  refine ⟨s1.heap.objs.size, s1.gens.size, envOfC qual scope s.heap.objs.size f cdv, start N vs, _, rfl, rfl, lt1, os1, AllBare.push (by rw [gen1]; exact e0.bare) rfl, fun b o e => up _ b o (kp b o e), Array.getElem?_push_size .., fun A' Hg => ?_, fun y c e => ⟨ab y c e, ?_, ?_⟩, S.kind, rfl, rfl, I1.ok.inj, I1.ok.has, rfl, fun A' hr' hf' => ?_⟩
  · refine ⟨⟨_, _, _, Heap.get?_push_size _ rfl, rfl, rfl, rfl⟩, ?_, (fun q hq => nomatch hq), (fun b hb => nomatch hb), ?_, fun b hb => ?_, (fun q hq => nomatch hq), (fun b hb => nomatch hb), Nat.ne_of_gt lt1, (fun q hq => nomatch hq), fun b hb => nomatch hb⟩
    · obtain ⟨m, ⟨o, es, ep, eo, rr⟩, q⟩ := I1.loc
      refine ⟨m, ⟨o, es, ep, up _ _ _ eo, rr⟩, fun i y v e1 e2 => ?_⟩
      have hi : i < vs.length := by
        unfold L2.start at e2
        by_cases hi : i < vs.length
        · exact hi
        · rw [List.getElem?_append_right (by simpa using hi), List.getElem?_replicate] at e2
          split at e2 <;> cases e2
      have hy : ps[i]? = some y := by
        rw [← S.pre, List.getElem?_take_of_lt (by omega)]
        exact e1
      have hk : scope.names.lookup y = some .local := hpl y (List.mem_of_getElem? hy)
      obtain ⟨v', rv, l⟩ := q i y v e1 e2 (.inl hk)
      refine ⟨hk, v', rv, ?_⟩
      rcases l with ⟨_, l⟩ | ⟨kk, _⟩
      · exact l
      · rcases kk with kk | kk
        · have k2 : scope.names.lookup y = some .cell := kk
          rw [hk] at k2
          cases k2
        · have k2 : scope.names.lookup y = some .free := kk
          rw [hk] at k2
          cases k2
    · exact I1.len
    · rcases List.mem_cons.mp hb with z | z
      · rw [z]
        exact ⟨_, Heap.get?_push_size _ rfl, fun v q => by cases q⟩
      · rw [List.mem_singleton.mp z]
        obtain ⟨m, ⟨o, es, ep, eo, d, _⟩, _⟩ := I1.loc
        exact ⟨o, up _ _ _ eo, fun v q => by rw [d] at q; cases q⟩
  · obtain ⟨v, o, e2, d⟩ := I1.cell y c e
    exact Nat.ne_of_lt (Heap.lt_size e2)
  · obtain ⟨v, o, e2, d⟩ := I1.cell y c e
    exact ⟨v, o, up _ _ _ e2, d⟩
  · intro β s2 hE h0 h1 h2 hz G
    obtain ⟨t, ht, hq⟩ := hbody A' outer s.heap.objs.size vs Y n (hr'.deeper _) hsp
    refine sg_func ?_
    refine ht.run [] n β _ [] _ _ id id s2 (start N vs) β.H _ ⟨over_func, rfl, rfl, rfl⟩ ⟨fun n' β' s' f hs => ?_, fun n' β' e s' hx => ?_⟩ G (hq β hE h0 h1 h2 hz)
    · cases f with
      | next =>
        obtain ⟨σ', H', G', q⟩ := hs
        have z : Zf { P := P, w := w, K := K, mg := mg, base := base, N := N, env := envOfC qual scope s.heap.objs.size f cdv, A := A', outer := outer } Y n' β' (.ret (.ok (.ret .none))) s' := by
          cases n' <;> exact ⟨rfl, [], σ', H', G', q⟩
        exact sg_end (.ok (.ret .none)) z
      | brk => obtain ⟨_, _, _, q⟩ := hs; exact q.elim
      | cont => obtain ⟨_, _, _, q⟩ := hs; exact q.elim
      | ret u =>
        obtain ⟨v, σ', H', G', rv, ev, q⟩ := hs
        subst ev
        have eu : u = Value.none := rv
        have z : Zf { P := P, w := w, K := K, mg := mg, base := base, N := N, env := envOfC qual scope s.heap.objs.size f cdv, A := A', outer := outer } Y n' β' (.ret (.ok (.ret u))) s' := by
          cases n' <;> exact ⟨eu, [], σ', H', G', q⟩
        exact sg_end (.ok (.ret u)) z
    · refine sg_wrap ?_
      rw [over_func]
      refine wpAny_mono (show wpAny (model P w) (A'.deeper (envOfC qual scope s.heap.objs.size f cdv)) (leaving (envOfC qual scope s.heap.objs.size f cdv) e) (fun _ s'' => L2N.CX P w outer β'.H β'.s β'.E e s'' ∧ ∀ p ∈ β'.pn, s''.heap.get? p.1 = some p.2) (fun _ _ => False) s' from hx) (fun _ s'' q => ?_) fun _ s'' q => q.elim
      have z : Zf { P := P, w := w, K := K, mg := mg, base := base, N := N, env := envOfC qual scope s.heap.objs.size f cdv, A := A', outer := outer } Y n' β' (.ret (.error e)) s'' := by
        cases n' <;> exact q
      exact sg_end (.error e) z
end Sq


set_option Elab.async false
set_option maxRecDepth 100000
set_option maxHeartbeats 2000000
/-! for x in g(..), where the body does things of its own and may leave early -/
namespace Sq
open PySem PySem.Spec PyProof.Rows L2 GenW
theorem cx_sub {P : Program} {w : World} {outer : List Env} {H : Hp} {s s2 : Shared} {E : XK} {u : Value} {s' : Shared} (c : L2N.CX P w outer H s2 E u s') (k : ∀ b o, s.heap.get? b = some o → s2.heap.get? b = some o) (os : s2.os = s.os) : L2N.CX P w outer H s E u s' := by
  obtain ⟨a, B, H', cls, d, e1, e2, e3, ub, e4, e5, e6, e7⟩ := c
  exact ⟨a, B, H', cls, d, e1, e2, e3, ⟨fun b o e => ub.keep b o (k b o e), fun b o e => ub.slot b o (k b o e), fun b o e => ub.free b o (k b o e), fun b o e => ub.there b o (k b o e), ub.tups, ub.frzs, ub.tbls⟩, e4, e5.trans os, e6, e7⟩
/-- what runs while all sleepers are out of reach -/
theorem asleep_run {α : Type} {M : Model} {A : Around} {t : Sem α} {Q Q' : α → Shared → Prop} {E : Value → Shared → Prop} {s : Shared} (h : wpAny M A t Q (fun _ _ => False) { s with gens := s.gens.map dumG })
    (hQ : ∀ v s' G, Ag (sleepers s.gens) s'.gens G → Q v s' → Q' v { s' with gens := G }) : wpAny M A t Q' E s := by
  have z := wpAny_asleep (ag_all s.gens) h
  exact wpAny_mono z (fun v b ⟨s', G, e, ag, q⟩ => by rw [e]; exact hQ v s' G ag q) fun _ _ ⟨_, _, _, _, q⟩ => q.elim
theorem inv_dum {X : Cx} {pins : List (Addr × Obj)} {σ : L2.St} {H : Hp} {s : Shared} (I : Inv X pins σ H s) : Inv X pins σ H { s with gens := s.gens.map dumG } := inv_gens I (dum_allBare I.bare)
theorem sp_gens {X : Cx} {pins : List (Addr × Obj)} {D : Ends} {f : Flow} {s : Shared} {G : Array GenState} (h : SP X.nox pins D f s) (hg : AllBare s.gens → AllBare G) : SP X pins D f { s with gens := G } := by
  have z := h.unwish
  cases f with
  | next => obtain ⟨σ', H', I, q⟩ := z; exact ⟨σ', H', inv_gens I (hg I.bare), q⟩
  | brk => obtain ⟨σ', H', I, q⟩ := z; exact ⟨σ', H', inv_gens I (hg I.bare), q⟩
  | cont => obtain ⟨σ', H', I, q⟩ := z; exact ⟨σ', H', inv_gens I (hg I.bare), q⟩
  | ret u => obtain ⟨v, σ', H', I, r, q⟩ := z; exact ⟨v, σ', H', inv_gens I (hg I.bare), r, q⟩
section
variable {X : Cx} {N : List Str} {env : Env} {A : Around} {Y : GOut} {E : XK} {pins : List (Addr × Obj)} {a : Addr} {g n k : Nat} {gs : GenState} {ip : List (Addr × Obj)} {σ σg : L2.St} {hid : List Addr} {Hg H H' : Hp} {s s' sc : Shared} {c : Code} {u : Value}
/-- a sleeper stays one, where its own things and its cells stay -/
theorem Zz.stays (z : Zz X (gst X N env A) Y pins a g n gs ip σg hid Hg H s) (I : Inv X (pins ++ pinsAt (fpsOf (gst X N env A) a ip hid) s.heap) σ H' s') (hg : s'.gens[g]? = some gs) (hc : CellsIn (gst X N env A) H') : Zz X (gst X N env A) Y pins a g n gs ip σg hid Hg H' s' := by
  have pin : ∀ b ∈ fpsOf (gst X N env A) a ip hid, ∀ o, s.heap.get? b = some o → s'.heap.get? b = some o ∧ H' b = none := fun b hb o e => by
    have q := I.pin (b, o) (List.mem_append_right _ (List.mem_append_right _ (mem_pinsAt hb e)))
    exact ⟨q.1, q.2.1⟩
  refine ⟨z.st, hg, z.sl, z.lies.keep fun b hb o e => (pin b hb o e).1, fun b hb => ?_, fun x c e => ⟨.inl (hc x c e), Hok_look I (hc x c e)⟩, z.lo⟩
  obtain ⟨o, e, _⟩ := z.lies.obj b hb
  exact ⟨(pin b hb o e).2, (z.fp b hb).2⟩
theorem Zz.pinned (z : Zz X (gst X N env A) Y pins a g n gs ip σg hid Hg H s) (I : Inv X pins σ H s) : Inv X (pins ++ pinsAt (fpsOf (gst X N env A) a ip hid) s.heap) σ H s :=
  I.pins_of fun p hp => (List.mem_append.mp hp).elim (fun y => I.pin p (List.mem_append_right _ y)) fun y => by
    obtain ⟨hb, e⟩ := of_pinsAt y
    obtain ⟨f0, f1, f2, _⟩ := z.fp p.1 hb
    obtain ⟨o, e', d⟩ := z.lies.obj p.1 hb
    rw [e] at e'
    cases e'
    exact ⟨e, f0, f1, f2, d⟩
/-- just made -/
theorem made_gen (I : Inv X pins σ H sc) (m : GM1 X.prog X.w X.K X.mg X.base N k X.stack sc Y n u s' a g env σg c) (hr : Room k A) (hf : A.frames = some X.stack) :
    Inv X pins σ H s' ∧ (∀ x c, env.cells.lookup x = some c → H c = none) ∧ Zz X (gst X N env A) Y pins a g n (.fresh c) [] σg [] (fun _ => none) H s' := by
  have I' : Inv X pins σ H s' := I.call' (ch := []) m.os (Un.kept m.kept) (I.hok.kept m.kept) m.bare fun b hb => nomatch hb
  have cn : ∀ x c, env.cells.lookup x = some c → H c = none := fun x c e => I.hok.fresh (Nat.le_of_lt (m.cells x c e).1)
  refine ⟨I', cn, ⟨⟨m.kind, m.glob, m.blt, m.inj, m.has, fun x c e => ?_, hr.hd, hf, m.frame⟩, m.at_, m.go A hr hf, m.lies A _, fun b hb => ?_, fun x c e => ⟨.inr (cn x c e), (m.cells x c e).2.2⟩, ?_, fun x c e => ?_⟩⟩
  · show env.locals < c
    rw [m.loc]
    exact (m.cells x c e).1
  · have hb2 : b = a ∨ b = env.locals := by
      rcases List.mem_cons.mp hb with y | y
      · exact .inl y
      · exact .inr (List.mem_singleton.mp y)
    have big : sc.heap.objs.size ≤ b := by
      rcases hb2 with y | y
      · rw [y]; exact Nat.le_of_lt m.yng
      · rw [y, m.loc]; exact Nat.le_refl _
    obtain ⟨f0, f1, f2, f3, f4, f5⟩ := I.fpOk big (I.hok.fresh big)
    refine ⟨f0, f1, f2, .inr (get_big (Nat.le_trans I.sz big)), f4, f5⟩
  · show X.env.locals < env.locals
    rw [m.loc]
    exact I.lt
  · show c < env.locals
    rw [m.loc]
    obtain ⟨v, q⟩ := I.cell x c e
    exact q.lt
end
/-- an expression whose value is such a generator -/
abbrev TGen1 := L2.St → Hp → (GOut → Nat → Hp → Prop) → Prop
structure PGen1 (X : Cx) (k : Nat) (e : Expr) (tg : TGen1) : Prop where
  run : ∀ (pins : List (Addr × Obj)) (s : Shared) (σ : L2.St) (H : Hp) (cont : GOut → Nat → Hp → Prop), Inv X pins σ H s → tg σ H cont → wpAny (model X.prog X.w) X.A (eval e X.env)
    (fun u s' => ∃ H1 sc N Y n a g env σg c, Inv X pins σ H1 sc ∧ GM1 X.prog X.w X.K X.mg X.base N k X.stack sc Y n u s' a g env σg c ∧ cont Y n H1) X.xe s
def CzP (zs : Addr → Prop) (H : Hp) : Prop := ∀ c, zs c → H c = some (cellX c)
theorem CzP.same_ {zs : Addr → Prop} {H H' : Hp} (z : CzP zs H) (h : Same H H') : CzP zs H' := fun c hc => h _ _ (z c hc)
theorem CzP.put {zs : Addr → Prop} {H : Hp} {p : Addr} {o u : HO} (z : CzP zs H) (e : H p = some o) (hn : o ≠ cellX p) : CzP zs (upd H p u) := fun c hc => by
  have ne : c ≠ p := fun y => by
    have q := z c hc
    rw [y, e] at q
    exact hn (Option.some.inj q)
  rw [upd_ne ne]
  exact z c hc
theorem CzP.new {zs : Addr → Prop} {H : Hp} {p : Addr} {u : HO} (z : CzP zs H) (e : H p = none) : CzP zs (upd H p u) := z.same_ (same_new e)
/-- a loop over it: the first item may raise; what holds between two turns -/
structure FgS (E : L2.St → XK) (g : TG) (tb : TS) (D : Ends) (σ : L2.St) (Y : GOut) (n0 : Nat) (H1 : Hp) : Prop where
  ex : ∀ cls d H', Y.ex H1 cls d H' → E σ cls d H'
  go : ∀ zs : Addr → Prop, (∀ b o, H1 b = some o → ¬ zs b) → ∃ W : Nat → L2.St → Hp → Prop, Y.rq n0 H1 ∧ (∀ H', Y.fin n0 H1 H' → D.nx σ H') ∧
    (∀ m x H', n0 = m + 1 → Y.out m H1 x H' → CzP zs H' → g x σ H' fun σ2 H2 => tb { D with nx := W m, ct := W m, bk := D.nx } σ2 H2) ∧
    ∀ n σ H, W n σ H → Y.rq n H ∧ CzP zs H ∧ (∀ H', Y.fin n H H' → D.nx σ H') ∧ ∀ m x H', n = m + 1 → Y.out m H x H' → CzP zs H' → g x σ H' fun σ2 H2 => tb { D with nx := W m, ct := W m, bk := D.nx } σ2 H2
def tForG1 (E : L2.St → XK) (tg : TGen1) (g : TG) (tb : TS) : TS := fun D σ H => tg σ H fun Y n0 H1 => FgS E g tb D σ Y n0 H1
/-- left at the first item, or empty -/
theorem FgS.once {E : L2.St → XK} {g : TG} {tb : TS} {D : Ends} {σ : L2.St} {Y : GOut} {n0 : Nat} {H1 : Hp} (ex : ∀ cls d H', Y.ex H1 cls d H' → E σ cls d H') (rq : Y.rq n0 H1) (fin : ∀ H', Y.fin n0 H1 H' → D.nx σ H')
    (it : ∀ m x H', n0 = m + 1 → Y.out m H1 x H' → g x σ H' fun σ2 H2 => tb { D with nx := fun _ _ => False, ct := fun _ _ => False, bk := D.nx } σ2 H2) : FgS E g tb D σ Y n0 H1 :=
  ⟨ex, fun zs _ => ⟨fun _ _ _ => False, rq, fin, fun m x H' e o _ => it m x H' e o, fun _ _ _ h => h.elim⟩⟩
section
variable {X : Cx} {k : Nat} {E : L2.St → XK}
theorem ovl_plain {S : GSt} {Hg H : Hp} (h : ∀ x c, S.env.cells.lookup x = some c → H c = none) : ovl S [] Hg H = H := by
  funext b
  by_cases hc : ∃ x, S.env.cells.lookup x = some b
  · obtain ⟨x, e⟩ := hc
    rw [ovl_cell (x := x) (by simp) e, h x b e]
  · exact ovl_off (by simp) fun x e => hc ⟨x, e⟩
theorem ps_forG1 {tg iter : Expr} {body : List Stmt} {tgn : TGen1} {g : TG} {tb : TS} {pos : Pos} (hp : PassesOwn (model X.prog X.w) X.A X.env X.xe) (hi : PGen1 X k iter tgn) (hx : ∀ σ, PassesAt (L2N.CX X.prog X.w) X σ (E σ)) (hns : ∀ σ, NoStop X.K (E σ)) (hr : Room (k + 1) X.A)
    (hg : PG X.nox tg g) (hb : PSs X.nox body tb) (hs : ∀ x, foldedSetIterable iter X.env x = pure x := by intro _; rfl) : PS X (.For tg iter body [] pos) (tForG1 E tgn g tb) := by
  refine ⟨fun pins s σ H D I h => ?_⟩
  refine wpAny_For (thn (hi.run pins s σ H _ I h) fun v s1 h1 => ?_) hs
  obtain ⟨H1, sc, N, Y, n0, a, gn, env, σg, c, Ic, m, h2⟩ := h1
  have hv := m.is
  subst hv
  have hr1 : Room k X.A.in1 := ⟨hr.hd, by have := hr.dp; show X.A.depth + 3 * k + 5 < _; omega, by have := hr.un; show X.A.units + 1 + 16 * k + 200 < _; omega⟩
  have hdp : X.A.depth < recursionLimit := by have := hr.dp; omega
  obtain ⟨I1, cn, Z1⟩ := made_gen (A := X.A.in1) Ic m hr1 Ic.ok.frames
  refine wpAny_pyIter_gen Z1.lies.gen ?_
  obtain ⟨hex, h2⟩ := h2
  obtain ⟨W, rq0, fin0, it0, turn⟩ := h2 (fun b => ∃ x, env.cells.lookup x = some b) fun b o e ⟨x, ex⟩ => by
    rw [cn x b ex] at e
    cases e
  have hS := gst X N env X.A.in1
  refine codeAny_forLoop_any (fun j s' => (j = n0 + 1 ∧ s' = s1) ∨ (j ≤ n0 ∧ ∃ gs ip σz hid Hg σ' H', Inv X pins σ' H' s' ∧ isSl gs = true ∧ CellsIn (gst X N env X.A.in1) H' ∧ Zz X (gst X N env X.A.in1) Y pins a gn j gs ip σz hid Hg H' s' ∧ W j σ' H')) ?_ (n0 + 1) (.inl ⟨rfl, rfl⟩)
  -- a turn, once an item or the end has come
  have rest : ∀ (j n : Nat) (σ : L2.St) (H : Hp) (r : Option Value) (s4 : Shared), j = n ∨ j = n + 1 → n ≤ n0 → (∀ H', Y.fin n H H' → D.nx σ H') → (∀ m x H', n = m + 1 → Y.out m H x H' → CzP (fun b => ∃ x, env.cells.lookup x = some b) H' → g x σ H' fun σ2 H2 => tb { D with nx := W m, ct := W m, bk := D.nx } σ2 H2) →
      ((r = none ∧ ∃ H', Y.fin n H H' ∧ Inv X pins σ H' s4) ∨ ∃ v x m H' gs' ip' σ' hid' Hg', r = some v ∧ n = m + 1 ∧ RelV x v ∧ Y.out m H x H' ∧ Inv X pins σ H' s4 ∧ isSl gs' = true ∧ CellsIn (gst X N env X.A.in1) H' ∧ Zz X (gst X N env X.A.in1) Y pins a gn m gs' ip' σ' hid' Hg' H' s4) →
      match r with
      | none => wpAny (model X.prog X.w) X.A (execs [] X.env) (fun f s₃ => (match (.ok f : Result) with | .ok f => SP X pins D f s₃ | .error e => cameBackBy (model X.prog X.w) X.A X.env X.xe e s₃)) (notedBy (model X.prog X.w) X.A X.env fun e s' => cameBackBy (model X.prog X.w) X.A X.env X.xe e s') s4
      | some v => wpAny (model X.prog X.w) X.A (letOwnedTupleGo tg (.ref a) v) (fun _ s₁' => wpAny (model X.prog X.w) X.A (assign tg X.env v) (fun _ s₂ => wpAny (model X.prog X.w) X.A (execs body X.env) (fun f s₃ => match f with
            | .next | .cont => ∃ m, m < j ∧ ((m = n0 + 1 ∧ s₃ = s1) ∨ (m ≤ n0 ∧ ∃ gs ip σz hid Hg σ' H', Inv X pins σ' H' s₃ ∧ isSl gs = true ∧ CellsIn (gst X N env X.A.in1) H' ∧ Zz X (gst X N env X.A.in1) Y pins a gn m gs ip σz hid Hg H' s₃ ∧ W m σ' H'))
            | .brk => SP X pins D .next s₃
            | .ret v => SP X pins D (.ret v) s₃) (notedBy (model X.prog X.w) X.A X.env fun e s' => cameBackBy (model X.prog X.w) X.A X.env X.xe e s') s₂) (notedBy (model X.prog X.w) X.A X.env fun e s' => cameBackBy (model X.prog X.w) X.A X.env X.xe e s') s₁') (notedBy (model X.prog X.w) X.A X.env fun e s' => cameBackBy (model X.prog X.w) X.A X.env X.xe e s') s4 := by
    intro j n σ H r s4 hj hn0 hf hi q
    rcases q with ⟨rfl, H', hfin, I4⟩ | ⟨v, x, m, H', gs, ip, σz, hid, Hg, rfl, en, rx, ho, I4, hsl, hcz, Z4⟩
    · exact wpAny_execs_nil ⟨σ, H', I4, hf H' hfin⟩
    · obtain ⟨go, nm, qn, ego, hcl, hdt, _⟩ := Z4.lies.gen
      refine go_of (n := "generator") ego hcl hdt (by decide) ?_
      have I5 := Z4.pinned I4
      have step := hi m x H' en ho fun c ⟨y, ey⟩ => hcz y c ey
      refine asleep_run (hg.run _ _ σ H' x v _ ((inv_dum I5).wish _) rx step) fun _ s6 G6 ag6 q6 => ?_
      obtain ⟨σ6, H6, I6, q6⟩ := q6
      have I6' : Inv X (pins ++ pinsAt (fpsOf (gst X N env X.A.in1) a ip hid) s4.heap) σ6 H6 { s6 with gens := G6 } := inv_gens I6.unwish (ag_bare ag6 I6.bare)
      have hg6 : ({ s6 with gens := G6 } : Shared).gens[gn]? = some gs := ag_still ag6 Z4.at_ hsl
      refine asleep_run (hb.run _ _ σ6 H6 _ ((inv_dum I6').wish _) q6) fun f s7 G7 ag7 q7 => ?_
      have hg7 : ({ s7 with gens := G7 } : Shared).gens[gn]? = some gs := ag_still ag7 hg6 hsl
      have q7 := sp_gens q7 fun hb => ag_bare ag7 hb
      have again : ∀ {σ7 : L2.St} {H7 : Hp}, Inv X (pins ++ pinsAt (fpsOf (gst X N env X.A.in1) a ip hid) s4.heap) σ7 H7 { s7 with gens := G7 } → W m σ7 H7 → ∃ m, m < j ∧ ((m = n0 + 1 ∧ ({ s7 with gens := G7 } : Shared) = s1) ∨ (m ≤ n0 ∧ ∃ gs ip σz hid Hg σ' H', Inv X pins σ' H' { s7 with gens := G7 } ∧ isSl gs = true ∧ CellsIn (gst X N env X.A.in1) H' ∧ Zz X (gst X N env X.A.in1) Y pins a gn m gs ip σz hid Hg H' { s7 with gens := G7 } ∧ W m σ' H')) := fun {σ7 H7} I7 w7 => by
        obtain ⟨_, cz7, _⟩ := turn m σ7 H7 w7
        have ci : CellsIn (gst X N env X.A.in1) H7 := fun y c e => cz7 c ⟨y, e⟩
        exact ⟨m, by omega, .inr ⟨by omega, gs, ip, σz, hid, Hg, σ7, H7, I7.unpinned, hsl, ci, Z4.stays I7 hg7 ci, w7⟩⟩
      cases f with
      | next => obtain ⟨σ7, H7, I7, w7⟩ := q7; exact again I7 w7
      | cont => obtain ⟨σ7, H7, I7, w7⟩ := q7; exact again I7 w7
      | brk => obtain ⟨σ7, H7, I7, q7⟩ := q7; exact ⟨σ7, H7, I7.unpinned, q7⟩
      | ret v => obtain ⟨x7, σ7, H7, I7, r7, q7⟩ := q7; exact ⟨x7, σ7, H7, I7.unpinned, r7, q7⟩
  rintro j s3 (⟨rfl, rfl⟩ | ⟨hj, gs, ip, σz, hid, Hg, σ3, H3, I3, hsl, hcz, Z3, w3⟩)
  · refine wpAny_passesOwn hp (thn (next_gen (E := E σ) I1 Z1 rq0 hr.hd hdp (.inr ⟨hex, cn⟩) fun e s₁ hc => ?_) fun r s4 q => rest (n0 + 1) n0 σ H1 r s4 (.inr rfl) (Nat.le_refl _) fin0 it0 q)
    have hc' : L2N.CX X.prog X.w X.stack H1 { s3 with heap := cutH env.locals s3.heap } (E σ) e s₁ := by
      rw [ovl_plain (S := gst X N env X.A.in1) cn] at hc
      exact hc
    have Lsz : env.locals ≤ s3.heap.objs.size := by
      obtain ⟨o, e, _⟩ := Z1.lies.obj env.locals (List.mem_cons_of_mem _ List.mem_cons_self)
      exact Nat.le_of_lt (Heap.lt_size e)
    have hc2 : L2N.CX X.prog X.w X.stack H1 sc (E σ) e s₁ := cx_sub hc' (fun b o e => by
      have lt : b < env.locals := by
        rw [m.loc]
        exact Heap.lt_size e
      exact (cut_get lt).trans (m.kept b o e)) m.os
    have kin : X.K.In s₁.heap := by
      obtain ⟨_, B, _, _, _, _, fl, _, ub, _⟩ := id hc2
      refine Ic.ok.mod.kin.keeps fun b o eb => fl.1 b o (ub.keep b o (Ic.bs b o eb).1 (Ic.bs b o eb).2 fun hm => ?_)
      rcases List.mem_cons.mp (Ic.stkSub b hm) with z | z
      · have h1 := Heap.lt_size eb
        have h3 := Nat.le_trans Ic.ok.bsz Ic.ok.above
        rw [z] at h1
        exact absurd (Nat.lt_of_lt_of_le h1 h3) (Nat.lt_irrefl _)
      · exact Ic.ok.nofr eb z
    refine ⟨notStop_of (hns σ) kin (cxn_z hc2), hx σ pins H1 sc e _ Ic ?_⟩
    obtain ⟨a', B, H'', cls, d, z1, fl, z2, ub, z3, z4, z5, z6⟩ := hc2
    exact ⟨a', B, H'', cls, d, z1, fl, z2, ub, z3, z4, allBare_setGen z5 rfl, z6⟩
  · obtain ⟨rq3, _, fin3, it3⟩ := turn j σ3 H3 w3
    refine wpAny_passesOwn hp (thn (next_gen (E := E0) I3 Z3 rq3 hr.hd hdp (.inl hsl) fun e s₁ hc => ?_) fun r s4 q => rest j j σ3 H3 r s4 (.inl rfl) hj fin3 it3 q)
    obtain ⟨_, _, _, _, _, _, _, _, _, _, _, _, q⟩ := hc
    exact q.elim
end
/-! ## a call by name -/
structure CalG1 (P : Program) (w : World) (K : PySem.W.Frag) (mg : Str → Option Value) (base : Heap) (N : List Str) (k : Nat) (x : Str) (ps : List Str) (sp : SpG1) (dvs : List V) : Prop where
  ex : ∃ (f : Addr) (fd : FuncData) (ds : List Value), GFn1 P w K mg base N k f fd ps sp ∧ mg x = some (.ref f) ∧ PySem.W.keepIn K (.ref f) = true ∧ L2.Binds K fd ps ds ∧ Vals dvs ds
/-- what is handed out is chosen -/
structure Gc (sp : SpG1) (vs : List V) (cont : GOut → Nat → Hp → Prop) (H1 : Hp) : Prop where
  o : ∃ Y n, sp vs Y n ∧ cont Y n H1
def tCallG1 (sp : SpG1) (dvs : List V) (t : TA) : TGen1 := fun σ H cont => t σ H fun vs H1 => Gc sp (vs ++ dvs) cont H1
section
variable {X : Cx} {N : List Str} {k j : Nat} {x : Str} {ps : List Str} {sp : SpG1} {dvs : List V} {p pos : Pos} {e : Expr} {es : List Expr} {t : TA}
theorem run_gfn1 {f : Addr} {fd : FuncData} {ds : List Value} {pins : List (Addr × Obj)} {σ : L2.St} {H : Hp} {s : Shared} {us : List Value} {vs : List V} {cont : GOut → Nat → Hp → Prop} {E1 : Value → Shared → Prop} (F : GFn1 X.prog X.w X.K X.mg X.base N k f fd ps sp) (hr : Room k X.A) (hb : L2.Binds X.K fd ps ds) (hd : Vals dvs ds)
    (I : Inv X pins σ H s) (r : Vals vs us) (h : ∃ Y n, sp (vs ++ dvs) Y n ∧ cont Y n H) :
    wpAny (model X.prog X.w) X.A (call (.ref f) us) (fun u s' => ∃ H1 sc N Y n a g env σg c, Inv X pins σ H1 sc ∧ GM1 X.prog X.w X.K X.mg X.base N k X.stack sc Y n u s' a g env σg c ∧ cont Y n H1) E1 s := by
  obtain ⟨Y, n, hsp, hc⟩ := h
  have r2 : Vals (vs ++ dvs) (us ++ ds) := r.append hd
  have hl2 : (us ++ ds).length = ps.length := by rw [← r2.length]; exact F.len _ _ _ hsp
  refine wpAny_call (codeAny_mono (F.run X.A X.stack s H ⟨us, []⟩ (us ++ ds) (vs ++ dvs) Y n hr I.env0 (hb s us I.kIn hl2) r2 hsp) fun r s' hq => ?_)
  cases r with
  | error e => exact False.elim hq
  | ok fl =>
    cases fl with
    | ret u =>
      obtain ⟨a, g, env, σg, c, m⟩ := hq
      exact ⟨H, s, N, Y, n, a, g, env, σg, c, I, m, hc⟩
    | next => exact False.elim hq
    | brk => exact False.elim hq
    | cont => exact False.elim hq
theorem pgen1_call (c : CalG1 X.prog X.w X.K X.mg X.base N k x ps sp dvs) (hr : Room j X.A) (hk : k ≤ j) (hg : Gl X x) (ha : PA X (e :: es) t) (hdb : (x == ("__debug__" : Str)) = false := by decide)
    (he : starEach (e :: es) X.env = (false, eval e X.env) :: starEach es X.env := by rfl) (hpl : (backTo pos (starEach es X.env)).any (·.1) = false := by rfl) : PGen1 X k (.Call (.Name x p) (e :: es) [] pos) (tCallG1 sp dvs t) := by
  obtain ⟨f, fd, ds, F, hm, kp, b, d⟩ := c.ex
  refine ⟨fun pins s σ H cont I h => ?_⟩
  refine wpAny_Call_Name_kw (ld_glob I hg hm ?_ hdb)
  refine PySem.W.callWith_K (h₀ := X.base) I.ok.mod.kin kp (thn (ha.run pos pins s σ H _ I h) fun us s1 ⟨vs, H1, I1, r, q⟩ => ⟨I1.kIn, ?_⟩) he hpl
  exact run_gfn1 F (hr.mono hk) b d I1 r q.o
/-- the wish, of classes that do not end an iterator -/
def WN (K : PySem.W.Frag) (W : WX) (σ : L2.St) : XK := fun cls d H => PySem.W.subIn K cls (.type "StopIteration") = some false ∧ W cls d σ H
theorem noStopN {K : PySem.W.Frag} {W : WX} {σ : L2.St} : NoStop K (WN K W σ) := fun _ _ _ h => h.1
/-- for x in g(..): no exception comes -/
theorem ps_fg0 {tg : Expr} {body : List Stmt} {g : TG} {tb : TS} {pos2 : Pos} (hp : PassesOwn (model X.prog X.w) X.A X.env X.xe) (c : CalG1 X.prog X.w X.K X.mg X.base N k x ps sp dvs) (hr : Room j X.A) (hk : k + 1 ≤ j) (hg : Gl X x) (ha : PA X (e :: es) t) (hgt : PG X.nox tg g) (hb : PSs X.nox body tb)
    (hdb : (x == ("__debug__" : Str)) = false := by decide) (he : starEach (e :: es) X.env = (false, eval e X.env) :: starEach es X.env := by rfl) (hpl : (backTo pos (starEach es X.env)).any (·.1) = false := by rfl)
    (hs : ∀ y, foldedSetIterable (.Call (.Name x p) (e :: es) [] pos) X.env y = pure y := by intro _; rfl) : PS X (.For tg (.Call (.Name x p) (e :: es) [] pos) body [] pos2) (tForG1 (fun _ => E0) (tCallG1 sp dvs t) g tb) :=
  ps_forG1 hp (pgen1_call c hr (by omega) hg ha hdb he hpl) (fun σ pins H s e s' I h => passesXN pins σ H s e s' I h) (fun _ => noStop0) (hr.mono hk) hgt hb hs
/-- .. an exception may come ahead of the first item -/
theorem ps_fgx {W : WX} {K' : PySem.W.Frag} {tg : Expr} {body : List Stmt} {g : TG} {tb : TS} {pos2 : Pos} (hp : PassesOwn (model X.prog X.w) X.A X.env X.xe) (tk : L2N.Takes X W) (c : CalG1 X.prog X.w K' X.mg X.base N k x ps sp dvs) (hr : Room j X.A) (hk : k + 1 ≤ j) (hg : Gl X x) (ha : PA X (e :: es) t) (hgt : PG X.nox tg g) (hb : PSs X.nox body tb)
    (hdb : (x == ("__debug__" : Str)) = false := by decide) (he : starEach (e :: es) X.env = (false, eval e X.env) :: starEach es X.env := by rfl) (hpl : (backTo pos (starEach es X.env)).any (·.1) = false := by rfl)
    (hK : X.K = K' := by rfl) (hs : ∀ y, foldedSetIterable (.Call (.Name x p) (e :: es) [] pos) X.env y = pure y := by intro _; rfl) : PS X (.For tg (.Call (.Name x p) (e :: es) [] pos) body [] pos2) (tForG1 (WN K' W) (tCallG1 sp dvs t) g tb) := by
  subst hK
  exact ps_forG1 hp (pgen1_call c hr (by omega) hg ha hdb he hpl) (fun σ pins H s e s' I h => tk e s' (L2N.XE.of_call I (fun _ _ _ q => q.2) h)) (fun _ => noStopN) (hr.mono hk) hgt hb hs
end
/-- the frame of a generator def of the text -/
theorem DefAt.gen1 {P : Program} {w : World} {K : PySem.W.Frag} {mg : Str → Option Value} {base : Heap} {x : Str} {st : Stmt} {ps N : List Str} {k : Nat} {sp : SpG1} (D : DefAt K mg x st ps) (S : GScope N ps (defScope st)) (hpl : ∀ y ∈ ps, (defScope st).names.lookup y = some .local) (len : ∀ vs Y n, sp vs Y n → vs.length = ps.length)
    (hb : ∀ (f : Addr) (cdv : Value) (A : Around) (outer : List Env) (L : Addr) (vs : List V) (Y : GOut) (n : Nat), Room k (A.deeper (envOfC x (defScope st) L f cdv)) →
      (∀ β, L2N.Takes (GSt.cx { P := P, w := w, K := K, mg := mg, base := base, N := N, env := envOfC x (defScope st) L f cdv, A := A, outer := outer } β) fun cls d _ H' => β.E cls d H') →
      (∀ β, PassesOwn (model P w) (A.deeper (envOfC x (defScope st) L f cdv)) (envOfC x (defScope st) L f cdv) (GSt.cx { P := P, w := w, K := K, mg := mg, base := base, N := N, env := envOfC x (defScope st) L f cdv, A := A, outer := outer } β).xe) → sp vs Y n →
      ∃ t, GSs1 { P := P, w := w, K := K, mg := mg, base := base, N := N, env := envOfC x (defScope st) L f cdv, A := A, outer := outer } Y (defBody st) t ∧
        ∀ β, (∀ cls d H', Y.ex β.Hc cls d H' → β.E cls d H') → β.hid = [] → β.H = ovl { P := P, w := w, K := K, mg := mg, base := base, N := N, env := envOfC x (defScope st) L f cdv, A := A, outer := outer } [] (fun _ => none) β.Hc → Y.rq n β.Hc →
          (∀ x c, (envOfC x (defScope st) L f cdv).cells.lookup x = some c → β.Hc c = none) →
          t (gEnds { P := P, w := w, K := K, mg := mg, base := base, N := N, env := envOfC x (defScope st) L f cdv, A := A, outer := outer } Y) n β (L2.start N vs) β.H) : CalG1 P w K mg base N (k + 1) x ps sp [] := by
  obtain ⟨f, fd, ⟨⟨oc, od, kV, doc, pm, an, cdv, ct, osl, rfl, lk, hcd⟩, kp⟩, hm, b⟩ := D.ex
  exact ⟨f, _, [], gfn1_of lk hcd S hpl len fun A outer L vs Y n hr hsp => hb f cdv A outer L vs Y n hr (takes_g1 _ rfl) (owns_g1 _) hsp, hm, kp, b, .nil⟩
end Sq


set_option Elab.async false
set_option maxRecDepth 100000
set_option maxHeartbeats 4000000
/-! defs with defaults, all of whose values are handed in, that may raise; and such generators -/
namespace Sq
open PySem PySem.Spec PyProof.Rows L2 GenW
structure DflAt (K : PySem.W.Frag) (mg : Str → Option Value) (x : Str) (st : Stmt) (ps : List Str) (dvs : List V) : Prop where
  ex : ∃ (f : Addr) (fd : FuncData), FunD K x x (defArgs st) (defBody st) (defScope st) dvs [] f fd ∧ mg x = some (.ref f) ∧ L2.Binds K fd ps []
theorem dfl_mk {K : PySem.W.Frag} {mg : Str → Option Value} {x : Str} {st : Stmt} {ps : List Str} {dvs : List V} {f : Addr} {fd : FuncData} (F : FunD K x x (defArgs st) (defBody st) (defScope st) dvs [] f fd) (hm : mg x = some (.ref f)) (hd : dvs ≠ [])
    (h : ∀ (T : Addr) (kV doc pm : Value) (an : Option Addr) (cdv ct : Value) (us its : List Value), us.length = ps.length → its.length = dvs.length →
      ∃ k, bindArgs (PySem.W.fnOf x x (defArgs st) (defBody st) (defScope st) (.ref T) kV doc pm an cdv ct) ⟨us, []⟩ = seqItems? (.ref T) >>= k ∧ k (some its.toArray) = pure (ps.zip us)) : DflAt K mg x st ps dvs := by
  obtain ⟨ds, v, b⟩ := F.binds1 (ps := ps) ps.length dvs.length hd (by omega) (fun T kV doc pm an cdv ct us its h1 h2 => by
    obtain ⟨k, e1, e2⟩ := h T kV doc pm an cdv ct us its h1 h2
    refine ⟨k, e1, ?_⟩
    rw [e2, List.drop_eq_nil_of_le (by omega), List.append_nil])
  rw [List.drop_length] at v
  cases v
  exact ⟨f, fd, F, hm, b⟩
section
variable {P : Program} {w : World} {K : PySem.W.Frag} {mg : Str → Option Value} {base : Heap} {x : Str} {st : Stmt} {ps N : List Str} {dvs : List V} {k : Nat} {sp : Sp}
theorem DflAt.calXN (D : DflAt K mg x st ps dvs) (S : FnScope N ps (defScope st)) (len : ∀ vs H Q E, sp vs H Q E → vs.length = ps.length)
    (hb : ∀ (f : Addr) (cdv : Value) (A : Around) (outer : List Env) (s : Shared) (H : Hp) (vs : List V) (Q : VK) (E : XK), Room k (A.deeper (envOfC x (defScope st) s.heap.objs.size f cdv)) → sp vs H Q E →
      (L2N.Takes (cxOf (L2N.CX P w) P w K mg base N x (defScope st) f cdv A outer s H E) fun cls d _ G => E cls d G) →
      ∃ t, PSs (cxOf (L2N.CX P w) P w K mg base N x (defScope st) f cdv A outer s H E) (defBody st) t ∧ t { nx := fun _ H' => Q .non H', rt := Q } (start N vs) H) : CalXN P w K mg base (k + 1) x sp := by
  obtain ⟨f, fd, F, hm, b⟩ := D.ex
  exact ⟨f, fd, ps, F.ok S len fun cdv A outer s H vs Q E hr hsp => hb f cdv A outer s H vs Q E hr hsp (L2N.takes_of rfl rfl rfl rfl), hm, F.kp, b⟩
theorem DflAt.gen1 {sp : SpG1} (D : DflAt K mg x st ps dvs) (S : GScope N ps (defScope st)) (hpl : ∀ y ∈ ps, (defScope st).names.lookup y = some .local) (len : ∀ vs Y n, sp vs Y n → vs.length = ps.length)
    (hb : ∀ (f : Addr) (cdv : Value) (A : Around) (outer : List Env) (L : Addr) (vs : List V) (Y : GOut) (n : Nat), Room k (A.deeper (envOfC x (defScope st) L f cdv)) →
      (∀ β, L2N.Takes (GSt.cx { P := P, w := w, K := K, mg := mg, base := base, N := N, env := envOfC x (defScope st) L f cdv, A := A, outer := outer } β) fun cls d _ H' => β.E cls d H') →
      (∀ β, PassesOwn (model P w) (A.deeper (envOfC x (defScope st) L f cdv)) (envOfC x (defScope st) L f cdv) (GSt.cx { P := P, w := w, K := K, mg := mg, base := base, N := N, env := envOfC x (defScope st) L f cdv, A := A, outer := outer } β).xe) → sp vs Y n →
      ∃ t, GSs1 { P := P, w := w, K := K, mg := mg, base := base, N := N, env := envOfC x (defScope st) L f cdv, A := A, outer := outer } Y (defBody st) t ∧
        ∀ β, (∀ cls d H', Y.ex β.Hc cls d H' → β.E cls d H') → β.hid = [] → β.H = ovl { P := P, w := w, K := K, mg := mg, base := base, N := N, env := envOfC x (defScope st) L f cdv, A := A, outer := outer } [] (fun _ => none) β.Hc → Y.rq n β.Hc →
          (∀ x c, (envOfC x (defScope st) L f cdv).cells.lookup x = some c → β.Hc c = none) →
          t (gEnds { P := P, w := w, K := K, mg := mg, base := base, N := N, env := envOfC x (defScope st) L f cdv, A := A, outer := outer } Y) n β (L2.start N vs) β.H) : CalG1 P w K mg base N (k + 1) x ps sp [] := by
  obtain ⟨f, fd, F, hm, b⟩ := D.ex
  obtain ⟨oc, od, dV, kV, doc, pm, an, cdv, ct, osl, rfl, lk, hcd, _, _⟩ := F.ex
  exact ⟨f, _, [], gfn1_of lk hcd S hpl len fun A outer L vs Y n hr hsp => hb f cdv A outer L vs Y n hr (takes_g1 _ rfl) (owns_g1 _) hsp, hm, F.kp, b, .nil⟩
end
section
variable {X : Cx} {K' : PySem.W.Frag} {name : Str} {T id : String} {r : V → List V → Hp → VK → Prop} {o e : Expr} {es : List Expr} {to : TE} {t : TA} {apos cpos : Pos}
/-- a method's call, where the context's K is to be named -/
theorem pe_bmK (pa : PlainAttrs T) (slot : Slot T name id) (hty : typeOf (.builtin id) = pure (.type "method_descriptor")) (hm : MtR X id r) (ho : PE X o to) (ha : PA X (e :: es) t) (hK : X.K = K' := by rfl)
    (hbase : attributeBase o name X.env (eval o X.env) = eval o X.env := by rfl)
    (hfew : ((backTo cpos (starEach (e :: es) X.env)).all (fun x => !x.1) && (backToKw cpos (keywordEach [] X.env)).all (fun x => x.1.isSome)
      && decide ((e :: es).length + ([] : List Keyword).length + (if ([] : List Keyword).isEmpty then 0 else 1) < 30)) = true := by rfl)
    (hline : (apos.endLine == cpos.line) = true := by rfl) (hs : starEach (e :: es) X.env = (false, eval e X.env) :: starEach es X.env := by rfl) (hplain : (backTo cpos (starEach es X.env)).any (·.1) = false := by rfl) :
    PE X (.Call (.Attribute o name apos) (e :: es) [] cpos) (tBM K' T r to t) := by
  subst hK
  exact pe_bm pa slot hty hm ho ha hbase hfew hline hs hplain
end
end Sq

/-! ## own tactic words (local) -/
local macro_rules | `(tactic| walk_at "sq hp") => `(tactic| first
  | assumption
  | exact L2.upd_same
  | (refine Sq.Sep.get (by assumption) ?_; walk_at "sq hp")
  | (refine Sq.upd_keep (by assumption) ?_; walk_at "sq hp")
  | (refine Sq.Same.get (by assumption) ?_; walk_at "sq hp")
  | (refine Sq.upd_off (by assumption) ?_; walk_at "sq hp")
  | (refine Sq.upd_off (Ne.symm (by assumption)) ?_; walk_at "sq hp"))
local macro_rules | `(tactic| walk_at "sq sql") => `(tactic| first
  | assumption
  | exact Sq.seqL_of (by walk_at "sq hp")
  | exact L2.Same.seq (by assumption) (by assumption)
  | exact L2.Same.seq (Sq.Sep.same (by assumption)) (by assumption))
local macro_rules | `(tactic| walk_at "sq len") => `(tactic| (
  (try simp only [List.length_map, List.length_append, List.length_cons, List.length_nil, List.length_take, List.length_drop, List.length_reverse]); (try rw [PySem.sizeLine_eq]); omega))
local macro_rules | `(tactic| walk_at "sq side") => `(tactic| first
  | exact rfl
  | exact Nat.zero_le _
  | exact Sq.lit_len (Nat.le_of_ble_eq_true rfl)
  | ((with_reducible show L2.SqL _ _ _ _); walk_at "sq sql")
  | ((with_reducible show L2.SqT _ _ _ _); exact L2.SqT.of (by walk_at "sq hp"))
  | (apply Exists.intro; walk_at "sq sql")
  | ((with_reducible show _ = some _); walk_at "sq hp")
  | ((with_reducible show Sq.Sep _ _ _); assumption)
  | ((with_reducible show L2.ClsV _ _); first | exact .ty _ | exact .own _)
  | ((with_reducible show L2.TyX _ _ _ _); first | exact .base .non | exact .base (.bl _) | exact .base (.int _) | exact .base (.str _) | exact Sq.tyx_lst (by walk_at "sq sql") | exact Sq.tyx_tup (by exact L2.SqT.of (by walk_at "sq hp")) | assumption)
  | ((with_reducible show Sq.CPowW _ _); first | assumption | exact ⟨by decide, by decide, by decide⟩)
  | ((with_reducible show L2.CMulW _ _); first | assumption | exact (by decide +kernel))
  | ((with_reducible show L2.CDivW _ _); first | assumption | exact ⟨by decide, by decide⟩)
  | ((with_reducible show L2.tyV _ "list" _ _); exact Or.inl ⟨rfl, _, by walk_at "sq sql"⟩)
  | ((with_reducible show _ < PySem.sizeLine); walk_at "sq len")
  | ((with_reducible show _ ≤ PySem.sizeLine); walk_at "sq len")
  | ((with_reducible show (0 : Int) < _); first | assumption | decide | omega)
  | decide
  | omega)
local macro_rules | `(tactic| walk_at "sq go") => `(tactic| repeat (first
  | exact rfl
  | (fail_if_success (show ∃ W : Nat → Nat → L2.St → L2.Hp → Prop, _)
     fail_if_success (show ∃ W : Nat → Nat → L2.Hp → Prop, _)
     fail_if_success (show ∃ W : Nat → L2.St → L2.Hp → Prop, _)
     fail_if_success (show ∃ W : Nat → Nat → List L2.V → L2.St → L2.Hp → Prop, _)
     apply Exists.intro)
  | (apply And.intro; focus walk_at "sq side")
  | refine L2.iteT ?_
  | refine L2.iteF ?_))
namespace Sq
open PySem PySem.Spec PyProof.Rows L2
def topS (i : Nat) : Stmt := PySem.Challenge.pw_squeezelists_k11_errors_of_reaches_and_o.main.body.getD i (.Pass ⟨0, 0, 0, 0⟩)
structure Bt (mg : Str → Option Value) : Prop where
  «ValueError» : mg "ValueError" = none
  «bool» : mg "bool" = none
  «enumerate» : mg "enumerate" = none
  «int» : mg "int" = none
  «isinstance» : mg "isinstance" = none
  «len» : mg "len" = none
  «list» : mg "list" = none
  «max» : mg "max" = none
  «min» : mg "min" = none
  «range» : mg "range" = none
  «repr» : mg "repr" = none
  «sorted» : mg "sorted" = none
  «str» : mg "str" = none
  «tuple» : mg "tuple" = none
section
variable {P : Program} {w : World} {K : PySem.W.Frag} {mg : Str → Option Value} {base : Heap}

/-! ### the checks, also where they raise -/
/-- the first number below 2 -/
def bad (ns : List Int) : Option Nat := ns.findIdx? fun k => decide (k < 2)
theorem bad_none {ns : List Int} : bad ns = none ↔ Two ns := by
  unfold bad Two
  rw [List.findIdx?_eq_none_iff]
  constructor
  · intro h k hk
    have := h k hk
    simpa using this
  · intro h k hk
    have := h k hk
    simp
    omega
theorem bad_at {ns : List Int} {i : Nat} {n : Int} (h : ns[i]? = some n) (c : n < 2) (le : ∀ j : Nat, j < i → ∀ k, ns[j]? = some k → 2 ≤ k) : bad ns = some i := by
  unfold bad
  rw [List.findIdx?_eq_some_iff_getElem]
  obtain ⟨lt, e⟩ := List.getElem?_eq_some_iff.mp h
  refine ⟨lt, by rw [e]; simpa using c, fun j hj => ?_⟩
  have := le j hj _ (List.getElem?_eq_getElem (by omega))
  simp
  omega
abbrev s_check_list : Stmt := topS 8
theorem sc_check_list : FnScope ["replacements", "index", "replacement"] ["replacements"] (defScope s_check_list) := ⟨rfl, rfl, rfl, by decide +kernel, rfl, by decide +kernel, by decide +kernel⟩

def spCheckX (K : PySem.W.Frag) (CL : Addr) : Sp := fun vs H Q E => ∃ (a : Addr) (ns : List Int), vs = [.ref a] ∧ SqL K H a (iv ns) ∧ Keep ((bad ns = none → ∀ H', Same H H' → Q .non H') ∧
  ∀ i : Nat, bad ns = some i → ∀ d H', Same H H' → H' d = some (.xd [("value", .int i)]) → E (.ref CL) (some d) H')
theorem cal_check_listX {CL : Addr} (D : DefAt K mg "check_list" s_check_list ["replacements"]) (B : Bt mg) (c_InvalidList : Rai P w K mg base 1 "InvalidList" CL) : CalXN P w K mg base 3 "check_list" (spCheckX K CL) := by
  refine D.calXN sc_check_list (fun vs H Q E h => ?_) (fun f cdv A outer s H vs Q E hr h tk => ?_)
  · obtain ⟨a, ns, rfl, _⟩ := h
    rfl
  · obtain ⟨a, ns, rfl, hS, ⟨q, qe⟩⟩ := h
    refine ⟨_, (pss_one (ps_for PassesOwn.leaving rfl (pi_enumK (K := K) (by rfl) B.enumerate (pa_cons (pv 0) pa_nil)) (pg_tupK (K := K) (n := 2) rfl (pgs_cons (pg_name (i := 1) sc_check_list.nd rfl (Or.inl rfl)) (pgs_cons (pg_name (i := 2) sc_check_list.nd rfl (Or.inl rfl)) pgs_nil)))
   (pss_one (ps_if (pt_cmpR op_lt (pv 2) pe_int (nomark _)) (pss_one (ps_rxN c_InvalidList hr (by first | decide | omega) (by rfl) tk (pv 1))) pss_nil)))), ?_⟩
    walk_at "sq go"
    refine for_enum (K := K) (a := a) (xs := iv ns) (fun i σ H' => Keep (∃ x y, σ = [some (.ref a), x, y] ∧ Same H H' ∧ ∀ j : Nat, j < i → ∀ k, ns[j]? = some k → 2 ≤ k)) ⟨none, none, rfl, .refl H, fun j hj => absurd hj (by omega)⟩ (fun i σ H' h => ?_) (fun i x T σ H' hx h nT => ?_) (fun σ H' h => ?_)
    · obtain ⟨_, _, _, s, _⟩ := h.o
      exact s.seq hS
    · obtain ⟨y1, y2, rfl, s, le⟩ := h.o
      obtain ⟨n, hn, rfl⟩ := iv_get hx
      have s1 := s.trans (same_new (o := .tup [.int (i : Nat), .int n]) nT)
      walk_at "sq go"
      refine ifD (fun c => ?_) (fun c => ?_)
      · walk_at "sq go"
        intro d nd
        refine qe i (bad_at hn c le) d _ (s1.trans (same_new nd)) upd_same
      · refine ⟨_, _, rfl, s1, fun j hj k hk => ?_⟩
        rcases Nat.lt_succ_iff_lt_or_eq.mp hj with z | z
        · exact le j z k hk
        · rw [z, hn] at hk
          cases hk
          omega
    · obtain ⟨y1, y2, rfl, s, le⟩ := h.o
      refine q (bad_none.mpr fun k hk => ?_) H' s
      obtain ⟨j, hj⟩ := List.mem_iff_getElem?.mp hk
      have lt : j < ns.length := (List.getElem?_eq_some_iff.mp hj).1
      exact le j (by rw [iv_len]; exact lt) k hj

/-! ### the check of a length, also where it raises -/
abbrev s_check_length : Stmt := topS 9
theorem sc_check_length : FnScope ["length"] ["length"] (defScope s_check_length) := ⟨rfl, rfl, rfl, by decide +kernel, rfl, by decide +kernel, by decide +kernel⟩

def spLenX (CN : Addr) : Sp := fun vs H Q E => ∃ n : Int, vs = [.int n] ∧ Keep ((0 ≤ n → Q .non H) ∧ (n < 0 → ∀ d H', Same H H' → H' d = some (.xd [("value", .int n)]) → E (.ref CN) (some d) H'))
theorem cal_check_lengthX {CN : Addr} (D : DefAt K mg "check_length" s_check_length ["length"]) (B : Bt mg) (c_InvalidNumber : Rai P w K mg base 1 "InvalidNumber" CN) : CalXN P w K mg base 3 "check_length" (spLenX CN) := by
  refine D.calXN sc_check_length (fun vs H Q E h => ?_) (fun f cdv A outer s H vs Q E hr h tk => ?_)
  · obtain ⟨n, rfl, _⟩ := h
    rfl
  · obtain ⟨n, rfl, ⟨q, qe⟩⟩ := h
    refine ⟨_, (pss_one (ps_if (pt_cmpR op_lt (pv 0) pe_int (nomark _)) (pss_one (ps_rxN c_InvalidNumber hr (by first | decide | omega) (by rfl) tk (pv 0))) pss_nil)), ?_⟩
    walk_at "sq go"
    refine ifD (fun c => ?_) (fun c => ?_)
    · walk_at "sq go"
      intro d nd
      exact qe c d _ (same_new nd) upd_same
    · exact q (by omega)

/-! ### lengths of runs, of valid arguments -/
abbrev s_squeezed_once : Stmt := topS 10
theorem sc_squeezed_once : FnScope ["length", "replacement"] ["length", "replacement"] (defScope s_squeezed_once) := ⟨rfl, rfl, rfl, by decide +kernel, rfl, by decide +kernel, by decide +kernel⟩

def spSqOnce : Sp := fun vs H Q _ => ∃ n k : Int, vs = [.int n, .int k] ∧ Keep (2 ≤ k ∧ k < 2 ^ 240) ∧ Q (.int (once n k)) H
theorem cal_squeezed_once (D : DefAt K mg "squeezed_once" s_squeezed_once ["length", "replacement"]) (B : Bt mg) : Cal P w K mg base 1 "squeezed_once" spSqOnce [] := by
  refine D.cal sc_squeezed_once (fun vs H Q E h => ?_) (fun f cdv A outer s H vs Q E hr h => ?_)
  · obtain ⟨n, k, rfl, _⟩ := h
    rfl
  · obtain ⟨n, k, rfl, ⟨h2, hb⟩, q⟩ := h
    refine ⟨_, (pss_one (ps_ret (pe_op op_add (pe_op op_fdivW (pv 0) (pv 1)) (pe_op op_mod (pv 0) (pv 1))))), ?_⟩
    have c : CDivW n k := div_ok (by omega) hb
    walk_at "sq go"
    exact q
abbrev s_squeezed_by : Stmt := topS 11
theorem sc_squeezed_by : FnScope ["length", "replacements", "replacement"] ["length", "replacements"] (defScope s_squeezed_by) := ⟨rfl, rfl, rfl, by decide +kernel, rfl, by decide +kernel, by decide +kernel⟩

def spSqBy (K : PySem.W.Frag) : Sp := fun vs H Q _ => ∃ (n : Int) (p : Addr) (ns : List Int), vs = [.int n, .ref p] ∧ SqL K H p (iv ns) ∧ Keep (Mid ns) ∧ Q (.int (sqz n ns)) H
theorem cal_squeezed_by (D : DefAt K mg "squeezed_by" s_squeezed_by ["length", "replacements"]) (B : Bt mg) (c_squeezed_once : Cal P w K mg base 1 "squeezed_once" spSqOnce []) : Cal P w K mg base 2 "squeezed_by" (spSqBy K) [] := by
  refine D.cal sc_squeezed_by (fun vs H Q E h => ?_) (fun f cdv A outer s H vs Q E hr h => ?_)
  · obtain ⟨n, p, ns, rfl, _⟩ := h
    rfl
  · obtain ⟨n, p, ns, rfl, hS, ⟨hm⟩, q⟩ := h
    refine ⟨_, (pss_cons (ps_for PassesOwn.never rfl (pi_listK (K := K) (pv 1)) (pg_name (i := 2) sc_squeezed_by.nd rfl (Or.inl rfl))
   (pss_one (ps_set (i := 0) sc_squeezed_by.nd rfl (Or.inl rfl) (pe_c c_squeezed_once hr (by first | decide | omega) (by rfl) (pa_cons (pv 0) (pa_cons (pv 2) pa_nil))))))
  (pss_one (ps_ret (pv 0)))), ?_⟩
    walk_at "sq go"
    refine for_list (K := K) (a := p) (xs := iv ns) (fun i σ H' => Keep (∃ x, σ = [some (.int (sqz n (ns.take i))), some (.ref p), x] ∧ H' = H)) ⟨none, rfl, rfl⟩ (fun i σ H' _ h => ?_) (fun i x σ H' hx h => ?_) (fun σ H' h => ?_)
    · obtain ⟨x, _, rfl⟩ := h.o
      exact hS
    · obtain ⟨x, rfl, rfl⟩ := h.o
      obtain ⟨k, hk, rfl⟩ := iv_get hx
      walk_at "sq go"
      refine ⟨⟨hm k (List.mem_of_getElem? hk)⟩, ?_⟩
      exact ⟨_, by rw [sqz_take hk]; rfl, rfl⟩
    · obtain ⟨x, rfl, rfl⟩ := h.o
      have e : (iv ns).length = ns.length := iv_len _
      rw [e, List.take_length]
      walk_at "sq go"
      exact q

abbrev s_greatest_origin_of : Stmt := topS 13
theorem sc_greatest_origin_of : FnScope ["length", "replacements", "replacement"] ["length", "replacements"] (defScope s_greatest_origin_of) := ⟨rfl, rfl, rfl, by decide +kernel, rfl, by decide +kernel, by decide +kernel⟩

/-- sizes of a length and a list's numbers -/
def FitP (ns : List Int) (m : Int) : Prop := ∃ b c : Nat, (∀ k ∈ ns, Sm b k) ∧ Sm c m ∧ 10 ≤ b ∧ 10 ≤ c ∧ c + (ns.length + 1) * b ≤ 900000
theorem sm_prod {b c : Nat} {m : Int} : ∀ {ns : List Int}, (∀ k ∈ ns, Sm b k) → Sm c m → Sm (c + ns.length * b) (m * prodL ns)
  | [], _, h => by simpa [prodL] using h
  | k :: r, hb, h => by
    have ih := sm_prod (ns := r) (m := m * k) (c := c + b) (fun j hj => hb j (List.mem_cons_of_mem _ hj)) (h.mul (hb k (List.mem_cons_self ..)))
    rw [prodL_cons, ← Int.mul_assoc, List.length_cons, Nat.add_mul, Nat.one_mul, show c + (r.length * b + b) = c + b + r.length * b by omega]
    exact ih
def spGO (K : PySem.W.Frag) : Sp := fun vs H Q _ => ∃ (n : Int) (p : Addr) (ns : List Int), vs = [.int n, .ref p] ∧ SqL K H p (iv ns) ∧ Keep (FitP ns n) ∧ Q (.int (n * prodL ns)) H
theorem prod_take {row : List Int} {k : Int} {i : Nat} (h : row[i]? = some k) (n : Int) : n * prodL (row.take (i + 1)) = n * prodL (row.take i) * k := by
  rw [List.take_add_one, h]
  show n * prodL (row.take i ++ [k]) = _
  rw [prodL_snoc, Int.mul_assoc]
theorem cal_greatest_origin_of (D : DefAt K mg "greatest_origin_of" s_greatest_origin_of ["length", "replacements"]) (B : Bt mg) : Cal P w K mg base 1 "greatest_origin_of" (spGO K) [] := by
  refine D.cal sc_greatest_origin_of (fun vs H Q E h => ?_) (fun f cdv A outer s H vs Q E hr h => ?_)
  · obtain ⟨n, p, ns, rfl, _⟩ := h
    rfl
  · obtain ⟨n, p, ns, rfl, hS, ⟨b, c, hb, hc, h10, hc10, hz⟩, q⟩ := h
    refine ⟨_, (pss_cons (ps_for PassesOwn.never rfl (pi_listK (K := K) (pv 1)) (pg_name (i := 2) sc_greatest_origin_of.nd rfl (Or.inl rfl))
   (pss_one (ps_aug (i := 0) sc_greatest_origin_of.nd rfl (Or.inl rfl) (pv 2) ip_mulW)))
  (pss_one (ps_ret (pv 0)))), ?_⟩
    walk_at "sq go"
    refine for_list (K := K) (a := p) (xs := iv ns) (fun i σ H' => Keep (∃ x, σ = [some (.int (n * prodL (ns.take i))), some (.ref p), x] ∧ H' = H)) ⟨none, by simp [prodL, L2.start], rfl⟩ (fun i σ H' _ h => ?_) (fun i x σ H' hx h => ?_) (fun σ H' h => ?_)
    · obtain ⟨x, _, rfl⟩ := h.o
      exact hS
    · obtain ⟨x, rfl, rfl⟩ := h.o
      obtain ⟨k, hk, rfl⟩ := iv_get hx
      have s1 := sm_prod (ns := ns.take i) (fun j hj => hb j (List.mem_of_mem_take hj)) hc
      have len : (ns.take i).length ≤ ns.length := by
        rw [List.length_take]
        omega
      have le := Nat.mul_le_mul_right b len
      have wm : CMulW (n * prodL (ns.take i)) k := s1.wide (hb k (List.mem_of_getElem? hk)) (by omega) (by omega) (by
        rw [Nat.add_mul] at hz
        omega)
      walk_at "sq go"
      exact ⟨_, by rw [prod_take hk]; rfl, rfl⟩
    · obtain ⟨x, rfl, rfl⟩ := h.o
      have e : (iv ns).length = ns.length := iv_len _
      rw [e, List.take_length]
      walk_at "sq go"
      exact q

/-! ### runs that part two lists, also where errors are due -/
/-- bounds of a list that may be bad -/
def Bd0 (ns : List Int) : Prop := (∀ k ∈ ns, k ≤ 10 ^ 6) ∧ ns.length ≤ 200
theorem Bd0.ok {ns : List Int} (h : Bd0 ns) (e : bad ns = none) : Two ns ∧ (∀ k ∈ ns, k ≤ 10 ^ 6) ∧ ns.length ≤ 200 := ⟨bad_none.mp e, h.1, h.2⟩
def Bnd (ns : List Int) : Prop := Two ns ∧ (∀ k ∈ ns, k ≤ 10 ^ 6) ∧ ns.length ≤ 200
theorem Bnd.sub {ns ms : List Int} (h : Bnd ns) (hs : ∀ k ∈ ms, k ∈ ns) (hl : ms.length ≤ ns.length) : Bnd ms := ⟨fun k hk => h.1 k (hs k hk), fun k hk => h.2.1 k (hs k hk), Nat.le_trans hl h.2.2⟩
theorem Bnd.sm {ns : List Int} (h : Bnd ns) : ∀ k ∈ ns, Sm 20 k := fun k hk => by
  have := h.1 k hk
  have := h.2.1 k hk
  unfold Sm
  omega
theorem Bnd.fit {ns : List Int} (h : Bnd ns) {m : Int} {c : Nat} (hm : Sm c m) (h10 : 10 ≤ c) (hc : c ≤ 100000) : FitP ns m := by
  refine ⟨20, c, h.sm, hm, by decide, h10, ?_⟩
  have := h.2.2
  omega
theorem Bnd.prod {ns : List Int} (h : Bnd ns) : Sm 4010 (prodL ns) := by
  have z := sm_prod (ns := ns) (m := 1) (c := 10) h.sm (by unfold Sm; decide)
  rw [Int.one_mul] at z
  refine z.mono ?_
  have := h.2.2
  omega

abbrev s_before_one : Stmt := topS 15
theorem sc_before_one : FnScope ["length", "replacement", "rest"] ["length", "replacement"] (defScope s_before_one) := ⟨rfl, rfl, rfl, by decide +kernel, rfl, by decide +kernel, by decide +kernel⟩

def spBefore : Sp := fun vs H Q _ => ∃ m k : Int, vs = [.int m, .int k] ∧ Keep (0 ≤ m ∧ 2 ≤ k ∧ k ≤ 1000 ∧ Sm 300 m) ∧ ∀ p, H p = none → Q (.ref p) (upd H p (.lst (iv (befores m k))))
theorem befores_len {m k : Int} (hk : k ≤ 1000) : (befores m k).length ≤ 1000 := by
  unfold befores
  rw [List.length_map, List.length_range]
  omega
theorem cal_before_one (D : DefAt K mg "before_one" s_before_one ["length", "replacement"]) (B : Bt mg) : Cal P w K mg base 1 "before_one" spBefore [] := by
  refine D.cal sc_before_one (fun vs H Q E h => ?_) (fun f cdv A outer s H vs Q E hr h => ?_)
  · obtain ⟨m, k, rfl, _⟩ := h
    rfl
  · obtain ⟨m, k, rfl, ⟨m1, k2, k3, sm⟩, q⟩ := h
    refine ⟨_, (pss_one (ps_ret (pe_lc (own := [("rest", 2)]) (g := gName 2) (by rfl) sc_before_one.nd (pi_range1 (by rfl) B.range (pa_cons (pe_op op_add (pe_callB (call_min2 rfl) (by rfl) B.min (by decide +kernel) (pa_cons (pe_op op_sub (pv 1) pe_int) (pa_cons (pv 0) pa_nil))) pe_int) pa_nil)) (blkOk_by (own := [("rest", 2)]) (N := ["length", "replacement", "rest"]) (sc := defScope s_before_one) (by decide +kernel)) (fun _ _ _ _ _ => (pg_name (i := 2) sc_before_one.nd rfl (Or.inl rfl))) (fun _ _ _ _ _ => pts_nil) (fun _ _ _ _ _ => (pe_op op_sub (pe_op op_mulW (pv 0) (pv 1)) (pe_op op_mulW (pv 2) (pe_op op_sub (pv 1) pe_int))))))), ?_⟩
    walk_at "sq go"
    intro p np
    have en : ((if m < k - 1 then m else k - 1) + 1).toNat = (min (k - 1) m + 1).toNat := by
      split <;> omega
    rw [en]
    refine lc_range (lo := 0) (n := (min (k - 1) m + 1).toNat) (fun i H' => Keep (H' = upd H p (.lst (iv ((List.range i).map fun (t : Nat) => m * k - (0 + (t : Int)) * (k - 1)))))) ⟨rfl⟩ (fun i H' hi h => ?_) (fun H' h => ?_)
    · obtain ⟨rfl⟩ := h
      have w1 : CMulW m k := sm.wide (b := 10) (by unfold Sm; omega) (by decide) (by decide) (by decide)
      have w2 : CMulW (0 + (i : Int)) (k - 1) := Sm.wide (a := 10) (b := 10) (by unfold Sm; omega) (by unfold Sm; omega) (by decide) (by decide) (by decide)
      have len : (iv ((List.range i).map fun (t : Nat) => m * k - (0 + (t : Int)) * (k - 1))).length = i := by
        rw [iv_len, List.length_map, List.length_range]
      have sz : (iv ((List.range i).map fun (t : Nat) => m * k - (0 + (t : Int)) * (k - 1))).length < sizeLine := by
        rw [len, sizeLine_eq]
        omega
      have here : upd H p (.lst (iv ((List.range i).map fun (t : Nat) => m * k - (0 + (t : Int)) * (k - 1)))) p = some (.lst (iv ((List.range i).map fun (t : Nat) => m * k - (0 + (t : Int)) * (k - 1)))) := upd_same
      walk_at "sq go"
      exact ⟨by rw [upd_upd, List.range_succ, List.map_append]; simp⟩
    · obtain ⟨rfl⟩ := h
      exact q p np
abbrev s_count_up_to : Stmt := topS 18
theorem sc_count_up_to : FnScope ["length", "replacements", "last", "first", "rest", "limit", "total", "later", "before"] ["length", "replacements", "last"] (defScope s_count_up_to) := ⟨rfl, rfl, rfl, by decide +kernel, rfl, by decide +kernel, by decide +kernel⟩

def spCount (K : PySem.W.Frag) (d : Nat) : Sp := fun vs H Q _ => ∃ (n last : Int) (p : Addr) (ns : List Int), vs = [.int n, .ref p, .int last] ∧ SqL K H p (iv ns) ∧ Keep (ns.length < d ∧ 1 ≤ n ∧ (∀ k ∈ ns, 2 ≤ k ∧ k ≤ 1000) ∧ ns.length ≤ 1000 ∧ 0 ≤ last ∧ Sm 250 last) ∧ ∀ H', Same H H' → Q (.int (cnt n ns last)) H'
theorem cal_count_up_to (D : DefAt K mg "count_up_to" s_count_up_to ["length", "replacements", "last"]) (B : Bt mg) (c_squeezed_by : Cal P w K mg base 2 "squeezed_by" (spSqBy K) []) (c_before_one : Cal P w K mg base 1 "before_one" spBefore []) :
    ∀ d : Nat, Cal P w K mg base (d + 3) "count_up_to" (spCount K d) []
  | 0 => by
    refine D.cal sc_count_up_to (fun vs H Q E h => ?_) (fun f cdv A outer s H vs Q E hr h => ?_)
    · obtain ⟨n, last, p, ns, rfl, _⟩ := h
      rfl
    · obtain ⟨n, last, p, ns, rfl, _, ⟨h, _⟩, _⟩ := h
      exact absurd h (by omega)
  | d + 1 => by
    have c_count_up_to := cal_count_up_to D B c_squeezed_by c_before_one d
    refine D.cal sc_count_up_to (fun vs H Q E h => ?_) (fun f cdv A outer s H vs Q E hr h => ?_)
    · obtain ⟨n, last, p, ns, rfl, _⟩ := h
      rfl
    · obtain ⟨n, last, p, ns, rfl, hS, ⟨hd, n1, hk, hl, l0, ls⟩, q⟩ := h
      refine ⟨_, (pss_cons (ps_if (pt_cmpR op_lt (pv 2) pe_int (nomark _)) (pss_one (ps_ret pe_int)) pss_nil)
  (pss_cons (ps_if (pt_cmpR (op_eqDK (K := K) hr.units) (pv 1) (pe_lst pa_nil) (nomark _)) (pss_one (ps_ret (pe_callTy call_int1 (by rfl) B.int (by decide +kernel) (pa_cons (pe_cmpR op_le (pv 0) (pv 2) (nomark _)) pa_nil)))) pss_nil)
  (pss_cons (ps_par (i := 3) (j := 4) rfl sc_count_up_to.nd rfl rfl (by decide) rfl rfl (pa_cons (pe_ix (ix_listK (K := K)) (pv 1) pe_int (fun _ _ => rfl)) (pa_cons (pe_slice (sl_listK (K := K)) (pv 1) (po_some pe_int) po_none) pa_nil)) (by rfl))
  (pss_cons (ps_set (i := 5) sc_count_up_to.nd rfl (Or.inl rfl) (pe_op op_fdivW (pv 2) (pv 3)))
  (pss_cons (ps_set (i := 6) sc_count_up_to.nd rfl (Or.inl rfl) (pe_op op_mulW (pv 3) (pe_c c_count_up_to hr (by first | decide | omega) (by rfl) (pa_cons (pv 0) (pa_cons (pv 4) (pa_cons (pv 5) pa_nil))))))
  (pss_cons (ps_for PassesOwn.never rfl (pi_range2W (by rfl) B.range (pa_cons pe_int (pa_cons (pe_op op_add (pe_callB (call_min2 rfl) (by rfl) B.min (by decide +kernel) (pa_cons (pv 5) (pa_cons (pe_op op_sub (pv 3) pe_int) pa_nil))) pe_int) pa_nil))) (pg_name (i := 7) sc_count_up_to.nd rfl (Or.inl rfl))
   (pss_one (ps_if (pt_cmpR op_eq (pe_c c_squeezed_by hr (by first | decide | omega) (by rfl) (pa_cons (pv 7) (pa_cons (pv 4) pa_nil))) (pv 0) (nomark _)) (pss_one (ps_aug (i := 6) sc_count_up_to.nd rfl (Or.inl rfl) (pe_op op_sub (pe_op op_sub (pv 3) (pv 7)) pe_int) ip_sub)) pss_nil)))
  (pss_cons (ps_for PassesOwn.never rfl (pi_range2W (by rfl) B.range (pa_cons (pe_op op_add (pv 5) pe_int) (pa_cons (pe_op op_add (pe_op op_fdivW (pe_op op_add (pv 2) (pe_op op_mulW (pe_op op_sub (pv 3) pe_int) (pe_op op_sub (pv 3) pe_int))) (pv 3)) pe_int) pa_nil))) (pg_name (i := 7) sc_count_up_to.nd rfl (Or.inl rfl))
   (pss_one (ps_if (pt_cmpR op_eq (pe_c c_squeezed_by hr (by first | decide | omega) (by rfl) (pa_cons (pv 7) (pa_cons (pv 4) pa_nil))) (pv 0) (nomark _)) (pss_one (ps_aug (i := 6) sc_count_up_to.nd rfl (Or.inl rfl) (pe_callB (len_seqK (K := K)) (by rfl) B.len boot_len (pa_cons (pe_lc (own := [("before", 8)]) (g := gName 8) (by rfl) sc_count_up_to.nd (pi_listK (K := K) (pe_c c_before_one hr (by first | decide | omega) (by rfl) (pa_cons (pv 7) (pa_cons (pv 3) pa_nil)))) (blkOk_by (own := [("before", 8)]) (N := ["length", "replacements", "last", "first", "rest", "limit", "total", "later", "before"]) (sc := defScope s_count_up_to) (by decide +kernel)) (fun _ _ _ _ _ => (pg_name (i := 8) sc_count_up_to.nd rfl (Or.inl rfl))) (fun _ _ _ _ _ => (pts_one (pt_cmpR op_le (pv 8) (pv 2) (nomark _)))) (fun _ _ _ _ _ => (pv 8))) pa_nil)) ip_add)) pss_nil)))
  (pss_one (ps_ret (pv 6)))))))))), ?_⟩
      walk_at "sq go"
      refine ifD (fun c => ?_) (fun c => ?_)
      · rw [cnt_zero c] at q
        walk_at "sq go"
        exact q H (.refl H)
      · walk_at "sq go"
        intro e ne
        have hS1 := (same_new (o := .lst []) ne).seq hS
        walk_at "sq go"
        refine r_eqI (xs := ns) (ys := []) hS1 (seqL_of upd_same) ?_
        walk_at "sq go"
        cases ns with
        | nil =>
          walk_at "sq go"
          refine .inr ⟨_, rfl, ?_⟩
          rw [cnt_nil n1 (by omega)] at q
          have z : (if decide (n ≤ last) = true then (1 : Int) else 0) = if n ≤ last then 1 else 0 := by
            by_cases h : n ≤ last <;> simp [h]
          show Q (.int (if decide (n ≤ last) = true then (1 : Int) else 0)) _
          rw [z]
          exact q _ (same_new ne)
        | cons k r =>
          have a0 : atI (iv (k :: r)) 0 = some (.int k) := atI_nat (j := 0) rfl
          walk_at "sq go"
          intro t nt
          have ec : cutV (iv (k :: r)) (some 1) none = iv r := cut_from _ 1
          rw [ec]
          obtain ⟨k2, k3⟩ := hk k (List.mem_cons_self ..)
          have rk : ∀ j ∈ r, (2 : Int) ≤ j ∧ j ≤ 1000 := fun j hj => hk j (List.mem_cons_of_mem _ hj)
          have s1 : Same H (upd (upd H e (.lst [])) t (.lst (iv r))) := (same_new ne).trans (same_new nt)
          have hr1 : SqL K (upd (upd H e (.lst [])) t (.lst (iv r))) t (iv r) := seqL_of upd_same
          have dv : ∀ i : Int, CDivW i k := fun i => div_ok (by omega) (by omega)
          have dv1 := dv last
          have q0 : 0 ≤ last / k := Int.ediv_nonneg l0 (by omega)
          have q1 : last / k ≤ last := Int.ediv_le_self k l0
          have sq0 := Int.mul_nonneg (show 0 ≤ k - 1 by omega) (show 0 ≤ k - 1 by omega)
          have dv2 := dv (last + (k - 1) * (k - 1))
          have w2 : CMulW (k - 1) (k - 1) := Sm.wide (a := 10) (b := 10) (by unfold Sm; omega) (by unfold Sm; omega) (by decide) (by decide) (by decide)
          walk_at "sq go"
          have hl2 : r.length + 1 ≤ 1000 := hl
          have hd2 : r.length + 1 < d + 1 := hd
          refine ⟨⟨by omega, n1, rk, by omega, q0, ls.le q0 q1⟩, fun H2 s2 => ?_⟩
          have c0 := cnt_nn n r (last / k)
          have c1 := cnt_le (n := n) (row := r) q0
          have w1 : CMulW k (cnt n r (last / k)) := Sm.wide (a := 10) (b := 250) (by unfold Sm; omega) (ls.le c0 (by omega)) (by decide) (by decide) (by decide)
          have hr2 := s2.seq hr1
          have code := cnt_code (n := n) (r := r) k2 (show 1 ≤ last by omega)
          have hU : last / k ≤ (last + (k - 1) * (k - 1)) / k := Int.ediv_le_ediv (by omega) (by omega)
          have hU2 : (last + (k - 1) * (k - 1)) / k ≤ last + (k - 1) * (k - 1) := Int.ediv_le_self k (by omega)
          have sqs : (k - 1) * (k - 1) ≤ 999 * 999 := Int.mul_le_mul (by omega) (by omega) (by omega) (by decide)
          have mid : Mid r := fun j hj => ⟨(rk j hj).1, Int.lt_of_le_of_lt (rk j hj).2 (by decide)⟩
          have s12 := s1.trans s2
          walk_at "sq go"
          have en : ((if k - 2 < last / k then k - 2 else last / k) + 1 - 1).toNat = (min (last / k) (k - 2)).toNat := by
            split <;> omega
          rw [en]
          refine for_range (lo := 1) (n := (min (last / k) (k - 2)).toNat) (fun i σ H' => Keep (∃ x, σ = [some (.int n), some (.ref p), some (.int last), some (.int k), some (.ref t), some (.int (last / k)), some (.int (k * cnt n r (last / k) - sm 1 (fun m => hit n r m * (k - m - 1)) i)), x, none] ∧ H' = H2))
            ⟨none, by simp [sm, L2.start], rfl⟩ (fun i σ H' hi h => ?_) (fun σ H' h => ?_)
          · obtain ⟨x, rfl, rfl⟩ := h.o
            walk_at "sq go"
            refine ⟨⟨mid⟩, ?_⟩
            walk_at "sq go"
            refine ifI (fun c => ?_) (fun c => ?_)
            · have e1 : k * cnt n r (last / k) - sm 1 (fun m => hit n r m * (k - m - 1)) (i + 1) = k * cnt n r (last / k) - sm 1 (fun m => hit n r m * (k - m - 1)) i - (k - (1 + (i : Int)) - 1) := by
                show _ - (sm 1 _ i + hit n r (1 + i) * (k - (1 + i) - 1)) = _
                rw [show hit n r (1 + i) = 1 from if_pos c]
                omega
              walk_at "sq go"
              exact ⟨_, by rw [e1]; rfl, rfl⟩
            · have e1 : k * cnt n r (last / k) - sm 1 (fun m => hit n r m * (k - m - 1)) (i + 1) = k * cnt n r (last / k) - sm 1 (fun m => hit n r m * (k - m - 1)) i := by
                show _ - (sm 1 _ i + hit n r (1 + i) * (k - (1 + i) - 1)) = _
                rw [show hit n r (1 + i) = 0 from if_neg c]
                omega
              exact ⟨_, by rw [e1]; rfl, rfl⟩
          · obtain ⟨x, rfl, rfl⟩ := h.o
            walk_at "sq go"
            have en2 : ((last + (k - 1) * (k - 1)) / k + 1 - (last / k + 1)).toNat = ((last + (k - 1) * (k - 1)) / k - last / k).toNat := by
              omega
            rw [en2]
            generalize hT : k * cnt n r (last / k) - sm 1 (fun m => hit n r m * (k - m - 1)) (min (last / k) (k - 2)).toNat = T at code ⊢
            refine for_range (lo := last / k + 1) (n := ((last + (k - 1) * (k - 1)) / k - last / k).toNat) (fun i σ H3 => Keep (∃ x, σ = [some (.int n), some (.ref p), some (.int last), some (.int k), some (.ref t), some (.int (last / k)), some (.int (T + sm (last / k + 1) (fun m => hit n r m * cm k last m) i)), x, none] ∧ Same H' H3))
              ⟨x, by simp [sm], .refl _⟩ (fun i σ H3 hi h => ?_) (fun σ H3 h => ?_)
            · obtain ⟨x, rfl, s3⟩ := h.o
              have hr3 := s3.seq hr2
              walk_at "sq go"
              refine ⟨⟨mid⟩, ?_⟩
              walk_at "sq go"
              refine ifI (fun c => ?_) (fun c => ?_)
              · walk_at "sq go"
                refine ⟨⟨by omega, k2, k3, ?_⟩, fun b nb => ?_⟩
                · unfold Sm at ls ⊢
                  omega
                walk_at "sq go"
                intro a na
                have nba : b ≠ a := fun z => by
                  rw [← z, upd_same] at na
                  cases na
                have bl := befores_len (m := last / k + 1 + (i : Int)) k3
                have cl := cm_len k last (last / k + 1 + (i : Int))
                generalize hM : last / k + 1 + (i : Int) = M at *
                generalize befores M k = bs at *
                have eb : (iv bs).length = bs.length := iv_len _
                refine lc_list (K := K) (a := b) (xs := iv bs) (fun j H4 => Keep (H4 = upd (upd H3 b (.lst (iv bs))) a (.lst (iv ((bs.take j).filter fun x => decide (x ≤ last)))))) ⟨rfl⟩ (fun j H4 _ h => ?_) (fun j x H4 hx h => ?_) (fun H4 h => ?_)
                · obtain ⟨rfl⟩ := h
                  exact seqL_of (upd_off nba upd_same)
                · obtain ⟨rfl⟩ := h
                  obtain ⟨v, hv, rfl⟩ := iv_get hx
                  have ta : bs.take (j + 1) = bs.take j ++ [v] := by
                    rw [List.take_add_one, hv]
                    rfl
                  walk_at "sq go"
                  refine ifD (fun c2 => ?_) (fun c2 => ?_)
                  · have here : upd (upd H3 b (.lst (iv bs))) a (.lst (iv ((bs.take j).filter fun x => decide (x ≤ last)))) a = some (.lst (iv ((bs.take j).filter fun x => decide (x ≤ last)))) := upd_same
                    have sz : (iv ((bs.take j).filter fun x => decide (x ≤ last))).length < sizeLine := by
                      rw [iv_len, sizeLine_eq]
                      have := List.length_filter_le (fun x => decide (x ≤ last)) (bs.take j)
                      rw [List.length_take] at this
                      omega
                    walk_at "sq go"
                    exact ⟨by rw [upd_upd, iv_app, ta, List.filter_append]; simp [c2]⟩
                  · exact ⟨by rw [ta, List.filter_append]; simp [c2]⟩
                · obtain ⟨rfl⟩ := h
                  rw [eb, List.take_length]
                  have here := seqL_of (K := K) (H := upd (upd H3 b (.lst (iv bs))) a (.lst (iv (bs.filter fun x => decide (x ≤ last))))) (a := a) upd_same
                  walk_at "sq go"
                  have e1 : T + sm (last / k + 1) (fun m => hit n r m * cm k last m) (i + 1) = T + sm (last / k + 1) (fun m => hit n r m * cm k last m) i + ((bs.filter fun x => decide (x ≤ last)).length : Int) := by
                    show _ + (sm _ _ i + hit n r _ * cm k last _) = _
                    rw [hM, show hit n r M = 1 from if_pos c, cl]
                    omega
                  rw [iv_len]
                  exact ⟨_, by rw [e1]; rfl, s3.trans ((same_new nb).trans (same_new na))⟩
              · have e1 : T + sm (last / k + 1) (fun m => hit n r m * cm k last m) (i + 1) = T + sm (last / k + 1) (fun m => hit n r m * cm k last m) i := by
                  show _ + (sm _ _ i + hit n r _ * cm k last _) = _
                  rw [show hit n r (last / k + 1 + i) = 0 from if_neg c]
                  omega
                exact ⟨_, by rw [e1]; rfl, s3⟩
            · obtain ⟨x, rfl, s3⟩ := h.o
              rw [← code]
              walk_at "sq go"
              exact q H3 (s12.trans s3)

/-! ### reaches, of valid arguments -/
abbrev s_reach_before : Stmt := topS 23
theorem sc_reach_before : FnScope ["reached", "replacement"] ["reached", "replacement"] (defScope s_reach_before) := ⟨rfl, rfl, rfl, by decide +kernel, rfl, by decide +kernel, by decide +kernel⟩

theorem rb_Sm {a b : Nat} {R k : Int} (hR : Sm a R) (hk : Sm b k) (hb : 10 ≤ b) (hk2 : 2 ≤ k) (hR1 : 1 ≤ R) : Sm (a + b) (rb R k) := by
  unfold rb
  split
  · exact hR.mono (by omega)
  · rename_i c
    have h1 : 0 ≤ (R + 3 - k) * k - 2 := by
      have := Int.mul_le_mul (show (2 : Int) ≤ R + 3 - k by omega) hk2 (by decide) (by omega)
      omega
    have h2 : (R + 3 - k) * k - 2 ≤ (R + 1) * k := by
      have := Int.mul_le_mul_of_nonneg_right (show R + 3 - k ≤ R + 1 by omega) (show 0 ≤ k by omega)
      omega
    unfold Sm at *
    have e1 : (R + 1).natAbs ≤ 2 ^ a := by omega
    have e2 : ((R + 1) * k).natAbs < 2 ^ (a + b) := by
      rw [Int.natAbs_mul, Nat.pow_add]
      calc (R + 1).natAbs * k.natAbs ≤ 2 ^ a * k.natAbs := Nat.mul_le_mul_right _ e1
        _ < 2 ^ a * 2 ^ b := Nat.mul_lt_mul_of_pos_left hk (Nat.pow_pos (by decide))
    omega
def spReachBefore : Sp := fun vs H Q _ => ∃ R k : Int, vs = [.int R, .int k] ∧ Keep (∃ a b : Nat, 1 ≤ R ∧ 2 ≤ k ∧ Sm a R ∧ Sm b k ∧ 10 ≤ a ∧ 10 ≤ b ∧ a + b ≤ 900000) ∧ Q (.int (rb R k)) H
theorem cal_reach_before (D : DefAt K mg "reach_before" s_reach_before ["reached", "replacement"]) (B : Bt mg) : Cal P w K mg base 1 "reach_before" spReachBefore [] := by
  refine D.cal sc_reach_before (fun vs H Q E h => ?_) (fun f cdv A outer s H vs Q E hr h => ?_)
  · obtain ⟨R, k, rfl, _⟩ := h
    rfl
  · obtain ⟨R, k, rfl, ⟨a, b, hR1, hk2, hR, hk, ha, hb, hab⟩, q⟩ := h
    refine ⟨_, (pss_cons (ps_if (pt_cmpR op_gt (pv 1) (pe_op op_add (pv 0) pe_int) (nomark _)) (pss_one (ps_ret (pv 0))) pss_nil)
  (pss_one (ps_ret (pe_op op_sub (pe_op op_mulW (pe_op op_sub (pe_op op_add (pv 0) pe_int) (pv 1)) (pv 1)) pe_int)))), ?_⟩
    walk_at "sq go"
    refine ifD (fun c => ?_) (fun c => ?_)
    · have e : rb R k = R := if_pos c
      rw [e] at q
      walk_at "sq go"
      exact q
    · have e : rb R k = (R + 3 - k) * k - 2 := if_neg c
      rw [e] at q
      have wd : CMulW (R + 3 - k) k := Sm.wide (a := a + 1) (b := b) (Sm.le (hR.add (Sm.of (i := 1) (by decide) ha)) (by omega) (by omega)) hk (by omega) (by omega) (by omega)
      walk_at "sq go"
      exact q
abbrev s_reach_of : Stmt := topS 24
theorem sc_reach_of : FnScope ["replacements", "most", "reached", "replacement"] ["replacements", "most"] (defScope s_reach_of) := ⟨rfl, rfl, rfl, by decide +kernel, rfl, by decide +kernel, by decide +kernel⟩

/-- numbers of a list and a length of a bounded size -/
def Fit (ns : List Int) (m : Int) : Prop := ∃ b c : Nat, (∀ k ∈ ns, Sm b k) ∧ Sm c m ∧ 10 ≤ b ∧ 10 ≤ c ∧ c + (ns.length + 1) * b ≤ 900000
theorem reachOf_snoc (a : List Int) (k m : Int) : reachOf (a ++ [k]) m = reachOf a (rb m k) := by
  unfold reachOf
  rw [List.foldr_append]
  rfl
theorem foldr_take_rev {row : List Int} {m k : Int} {i : Nat} (h : row.reverse[i]? = some k) : (row.reverse.take (i + 1)).foldl rb m = rb ((row.reverse.take i).foldl rb m) k := by
  rw [List.take_add_one, h, List.foldl_append]
  rfl
theorem reachOf_rev (row : List Int) (m : Int) : row.reverse.foldl rb m = reachOf row m := by
  unfold reachOf
  rw [List.foldl_reverse]
theorem rbs_pos : ∀ {row : List Int} {m : Int}, 1 ≤ m → Two row → m ≤ row.foldl rb m
  | [], m, _, _ => Int.le_refl m
  | k :: r, m, h, t => by
    have p := rb_pos h (t k (List.mem_cons_self ..))
    exact Int.le_trans p (rbs_pos (row := r) (by omega) fun j hj => t j (List.mem_cons_of_mem _ hj))
theorem rbs_Sm : ∀ {row : List Int} {m : Int} {b c : Nat}, 1 ≤ m → Two row → (∀ k ∈ row, Sm b k) → Sm c m → 10 ≤ b → Sm (c + row.length * b) (row.foldl rb m)
  | [], m, b, c, _, _, _, h, _ => by simpa using h
  | k :: r, m, b, c, h1, t, hb, hc, h10 => by
    have hk := t k (List.mem_cons_self ..)
    have p := rb_pos h1 hk
    have ih := rbs_Sm (row := r) (m := rb m k) (b := b) (c := c + b) (by omega) (fun j hj => t j (List.mem_cons_of_mem _ hj)) (fun j hj => hb j (List.mem_cons_of_mem _ hj)) (rb_Sm hc (hb k (List.mem_cons_self ..)) h10 hk h1) h10
    have e : c + b + r.length * b = c + (k :: r).length * b := by
      rw [List.length_cons, Nat.add_mul]
      omega
    rw [e] at ih
    exact ih
def spReachOf (K : PySem.W.Frag) : Sp := fun vs H Q _ => ∃ (p : Addr) (ns : List Int) (m : Int), vs = [.ref p, .int m] ∧ SqL K H p (iv ns) ∧ Keep (Two ns ∧ 1 ≤ m ∧ Fit ns m) ∧ ∀ H', Same H H' → Q (.int (reachOf ns m)) H'
theorem cal_reach_of (D : DefAt K mg "reach_of" s_reach_of ["replacements", "most"]) (B : Bt mg) (c_reach_before : Cal P w K mg base 1 "reach_before" spReachBefore []) : Cal P w K mg base 2 "reach_of" (spReachOf K) [] := by
  refine D.cal sc_reach_of (fun vs H Q E h => ?_) (fun f cdv A outer s H vs Q E hr h => ?_)
  · obtain ⟨p, ns, m, rfl, _⟩ := h
    rfl
  · obtain ⟨p, ns, m, rfl, hS, ⟨h2, hm, b, c, hb, hc, h10, hc10, hz⟩, q⟩ := h
    refine ⟨_, (pss_cons (ps_set (i := 2) sc_reach_of.nd rfl (Or.inl rfl) (pv 1))
  (pss_cons (ps_for PassesOwn.never rfl (pi_listK (K := K) (pe_revLK (K := K) (pv 0))) (pg_name (i := 3) sc_reach_of.nd rfl (Or.inl rfl))
   (pss_one (ps_set (i := 2) sc_reach_of.nd rfl (Or.inl rfl) (pe_c c_reach_before hr (by first | decide | omega) (by rfl) (pa_cons (pv 2) (pa_cons (pv 3) pa_nil))))))
  (pss_one (ps_ret (pv 2))))), ?_⟩
    walk_at "sq go"
    intro t nt
    have sm := same_new (o := .lst (iv ns).reverse) nt
    have ht : SqL K (upd H t (.lst (iv ns).reverse)) t (iv ns.reverse) := by
      have e : iv ns.reverse = (iv ns).reverse := List.map_reverse ..
      rw [e]
      exact seqL_of upd_same
    walk_at "sq go"
    refine for_list (K := K) (a := t) (xs := iv ns.reverse) (fun i σ H' => Keep (∃ y, σ = [some (.ref p), some (.int m), some (.int ((ns.reverse.take i).foldl rb m)), y] ∧ H' = upd H t (.lst (iv ns).reverse))) ⟨none, rfl, rfl⟩ (fun i σ H' _ h => ?_) (fun i x σ H' hx h => ?_) (fun σ H' h => ?_)
    · obtain ⟨_, _, rfl⟩ := h.o
      exact ht
    · obtain ⟨y, rfl, rfl⟩ := h.o
      obtain ⟨k, hk, rfl⟩ := iv_get hx
      have mk : k ∈ ns := List.mem_reverse.mp (List.mem_of_getElem? hk)
      have tk : Two (ns.reverse.take i) := fun j hj => h2 j (List.mem_reverse.mp (List.mem_of_mem_take hj))
      have len : (ns.reverse.take i).length ≤ ns.length := by
        rw [List.length_take, List.length_reverse]
        omega
      have sR := rbs_Sm hm tk (fun j hj => hb j (List.mem_reverse.mp (List.mem_of_mem_take hj))) hc h10
      have sz : c + (ns.reverse.take i).length * b + b ≤ 900000 := by
        have := Nat.mul_le_mul_right b len
        rw [Nat.add_mul] at hz
        omega
      walk_at "sq go"
      refine ⟨⟨_, b, by have := rbs_pos hm tk; omega, h2 k mk, sR, hb k mk, by omega, h10, sz⟩, ?_⟩
      exact ⟨_, by rw [foldr_take_rev hk]; rfl, rfl⟩
    · obtain ⟨y, rfl, rfl⟩ := h.o
      have e : (iv ns.reverse).length = ns.reverse.length := iv_len _
      rw [e, List.take_length, reachOf_rev]
      walk_at "sq go"
      exact q _ sm

theorem ne_new {H : Hp} {a b : Addr} {u : HO} (e : H a = some u) (n : H b = none) : a ≠ b := fun z => by
  rw [z, n] at e
  cases e
theorem drop_back {ns : List Int} {i : Nat} {k : Int} (h : ns.reverse[i]? = some k) : ns.drop (ns.length - (i + 1)) = k :: ns.drop (ns.length - i) := by
  obtain ⟨hi, e⟩ := List.getElem?_eq_some_iff.mp h
  rw [List.length_reverse] at hi
  rw [List.getElem_reverse] at e
  have hj : ns.length - (i + 1) < ns.length := by omega
  rw [List.drop_eq_getElem_cons hj, show ns.length - (i + 1) + 1 = ns.length - i by omega]
  congr 1
  rw [← e]
  congr 1
  omega
theorem prod_drop {ns : List Int} (h : Two ns) (j : Nat) : prodL (ns.drop j) ≤ prodL ns := by
  have e := prodL_app (ns.take j) (ns.drop j)
  rw [List.take_append_drop] at e
  have p := prodL_pos (ns := ns.take j) fun k hk => h k (List.mem_of_mem_take hk)
  have q := prodL_pos (ns := ns.drop j) fun k hk => h k (List.mem_of_mem_drop hk)
  rw [e]
  have := Int.mul_le_mul_of_nonneg_right p (show 0 ≤ prodL (ns.drop j) by omega)
  omega
theorem same_put {H H' : Hp} {a : Addr} {o : HO} (s : Same H H') (n : H a = none) : Same H (upd H' a o) := fun b u e => by
  by_cases hb : b = a
  · rw [hb, n] at e
    cases e
  · rw [upd_ne hb]
    exact s b u e
theorem flat_take {f : Int → List Int} {os : List Int} {i : Nat} {m : Int} (h : os[i]? = some m) : (os.take (i + 1)).flatMap f = (os.take i).flatMap f ++ f m := by
  rw [List.take_add_one, h, List.flatMap_append]
  simp
theorem flat_take_len (f : Int → List Int) (os : List Int) (i : Nat) : ((os.take i).flatMap f).length ≤ (os.flatMap f).length := by
  conv => rhs; rw [← List.take_append_drop i os, List.flatMap_append, List.length_append]
  omega
abbrev s_origins_of : Stmt := topS 16
theorem sc_origins_of : FnScope ["length", "replacements", "found", "replacement", "later", "before"] ["length", "replacements"] (defScope s_origins_of) := ⟨rfl, rfl, rfl, by decide +kernel, rfl, by decide +kernel, by decide +kernel⟩

def spOriginsOf (K : PySem.W.Frag) : Sp := fun vs H Q _ => ∃ (goal : Int) (p : Addr) (ns : List Int), vs = [.int goal, .ref p] ∧ SqL K H p (iv ns) ∧ Keep (0 ≤ goal ∧ goal ≤ 1000 ∧ (∀ k ∈ ns, 2 ≤ k ∧ k ≤ 1000) ∧ prodL ns ≤ 10000) ∧
  ∀ (ss : List Int) (l : Addr) H', ss.Perm (orig goal ns) → Same H H' → H l = none → H' l = some (.lst (iv ss)) → Q (.ref l) H'
theorem cal_origins_of (D : DefAt K mg "origins_of" s_origins_of ["length", "replacements"]) (B : Bt mg) (c_before_one : Cal P w K mg base 1 "before_one" spBefore []) : Cal P w K mg base 2 "origins_of" (spOriginsOf K) [] := by
  refine D.cal sc_origins_of (fun vs H Q E h => ?_) (fun f cdv A outer s H vs Q E hr h => ?_)
  · obtain ⟨goal, p, ns, rfl, _⟩ := h
    rfl
  · obtain ⟨goal, p, ns, rfl, hS, ⟨g0, g1, bk, pr⟩, q⟩ := h
    refine ⟨_, (pss_cons (ps_set (i := 2) sc_origins_of.nd rfl (Or.inl rfl) (pe_lst (pa_cons (pv 0) pa_nil)))
  (pss_cons (ps_for PassesOwn.never rfl (pi_listK (K := K) (pe_revLK (K := K) (pv 1))) (pg_name (i := 3) sc_origins_of.nd rfl (Or.inr rfl))
   (pss_one (ps_setLc2 (i := 2) (own := [("later", 4), ("before", 5)]) (g := gName 4) (g1 := gName 5) (vs1 := [5]) (by rfl) sc_origins_of.nd rfl rfl (sw_true rfl rfl rfl (by decide +kernel)) (pi_listK (K := K) (pv 2)) (blkOk_by (own := [("later", 4), ("before", 5)]) (N := ["length", "replacements", "found", "replacement", "later", "before"]) (sc := defScope s_origins_of) (by decide +kernel)) (by decide) (fun _ _ _ _ _ => (pg_name (i := 4) sc_origins_of.nd rfl (Or.inl rfl))) (fun _ _ _ _ _ => pts_nil) (fun _ _ _ _ _ => (pi_listK (K := K) (pe_c c_before_one hr (by first | decide | omega) (by rfl) (pa_cons (pv 4) (pa_cons (pv 3) pa_nil))))) (fun _ _ _ _ _ => (pg_name (i := 5) sc_origins_of.nd rfl (Or.inl rfl))) (fun _ _ _ _ _ => pts_nil) (fun _ _ _ _ _ => (pv 5)))))
  (pss_one (ps_ret (pe_callB (cr_sortedIK (K := K)) (by rfl) B.sorted (by decide +kernel) (pa_cons (pv 2) pa_nil)))))), ?_⟩
    have two : Two ns := fun k hk => (bk k hk).1
    walk_at "sq go"
    intro f0 nf0
    have s0 := same_new (o := .lst [.int goal]) nf0
    have hS0 := s0.seq hS
    walk_at "sq go"
    intro rv nrv
    have er : (iv ns).reverse = iv ns.reverse := (List.map_reverse ..).symm
    rw [er]
    have s1 := s0.trans (same_new (o := .lst (iv ns.reverse)) nrv)
    have hrv : SqL K (upd (upd H f0 (.lst [.int goal])) rv (.lst (iv ns.reverse))) rv (iv ns.reverse) := seqL_of upd_same
    have hf0 := upd_keep (o := .lst (iv ns.reverse)) nrv (upd_same (H := H) (a := f0) (o := .lst [.int goal]))
    generalize hH1 : upd (upd H f0 (.lst [.int goal])) rv (.lst (iv ns.reverse)) = H1 at *
    walk_at "sq go"
    refine for_list (K := K) (a := rv) (xs := iv ns.reverse) (fun i σ H' => Keep (∃ fa x y z, σ = [some (.int goal), some (.ref p), some (.ref fa), x, y, z] ∧ Same H1 H' ∧ H fa = none ∧ H' fa = some (.lst (iv (orig goal (ns.drop (ns.length - i))))))) ?_ (fun i σ H' _ h => ?_) (fun i x σ H' hx h => ?_) (fun σ H' h => ?_)
    · refine ⟨f0, none, none, none, rfl, .refl _, nf0, ?_⟩
      rw [hf0, Nat.sub_zero, List.drop_length]
      rfl
    · obtain ⟨fa, x, y, z, _, s2, _⟩ := h.o
      exact s2.seq hrv
    · obtain ⟨fa, x2, y, z, rfl, s2, nfa, hfa⟩ := h.o
      obtain ⟨k, hk, rfl⟩ := iv_get hx
      have mk : k ∈ ns := List.mem_reverse.mp (List.mem_of_getElem? hk)
      have ek := drop_back hk
      have twd : Two (ns.drop (ns.length - i)) := fun j hj => two j (List.mem_of_mem_drop hj)
      have bo := mem_orig g0 twd
      have prd := prod_drop two (ns.length - i)
      have lno := len_orig (goal := goal) twd
      have two1 : Two (k :: ns.drop (ns.length - i)) := by
        rw [← ek]
        exact fun j hj => two j (List.mem_of_mem_drop hj)
      have lnn := len_orig (goal := goal) two1
      rw [orig_cons] at lnn
      have prn := prod_drop two (ns.length - (i + 1))
      rw [ek] at prn
      have k2 := bk k mk
      rw [ek, orig_cons]
      generalize orig goal (ns.drop (ns.length - i)) = os at *
      generalize prodL (ns.drop (ns.length - i)) = pd at *
      walk_at "sq go"
      intro D nD
      have nD0 : H1 D = none := s2.free nD
      have lnn' : (os.flatMap fun m => befores m k).length ≤ 10000 := by omega
      refine it_list (K := K) (a := fa) (xs := iv os) (fun i Hh => Keep (Same H' Hh ∧ Hh D = some (.lst (iv ((os.take i).flatMap fun m => befores m k))))) ⟨same_new nD, upd_same⟩ (fun i Hh _ h => ?_) (fun i x Hh hx h => ?_) (fun Hh h => ?_)
      · obtain ⟨s3, _⟩ := h.o
        exact seqL_of (s3 _ _ hfa)
      · obtain ⟨s3, hD⟩ := h.o
        obtain ⟨m, hm, rfl⟩ := iv_get hx
        obtain ⟨_, m0, m1⟩ := bo m (List.mem_of_getElem? hm)
        have m2 : m ≤ 1000 * 10000 := Int.le_trans m1 (Int.le_trans (Int.mul_le_mul_of_nonneg_right g1 (by have := prodL_pos twd; omega)) (Int.mul_le_mul_of_nonneg_left (by omega) (by decide)))
        walk_at "sq go"
        refine ⟨⟨m0, k2.1, k2.2, by unfold Sm; omega⟩, fun b nb => ?_⟩
        have nbD : D ≠ b := ne_new hD nb
        have e1 := flat_take (f := fun m => befores m k) hm
        have e2 := flat_take_len (fun m => befores m k) os (i + 1)
        rw [e1, List.length_append] at e2
        walk_at "sq go"
        refine it_list (K := K) (a := b) (xs := iv (befores m k)) (fun j Hh2 => Keep (Same H' Hh2 ∧ Hh2 b = some (.lst (iv (befores m k))) ∧ Hh2 D = some (.lst (iv (((os.take i).flatMap fun m => befores m k) ++ (befores m k).take j))))) ⟨s3.trans (same_new nb), upd_same, ?_⟩ (fun j Hh2 _ h => ?_) (fun j x Hh2 hx2 h => ?_) (fun Hh2 h => ?_)
        · rw [upd_ne nbD, hD, List.take_zero, List.append_nil]
        · obtain ⟨_, hb, _⟩ := h.o
          exact seqL_of hb
        · obtain ⟨s4, hb, hD2⟩ := h.o
          obtain ⟨v, hv, rfl⟩ := iv_get hx2
          have hj := (List.getElem?_eq_some_iff.mp hv).1
          have lz : (iv (((os.take i).flatMap fun m => befores m k) ++ (befores m k).take j)).length < sizeLine := by
            rw [iv_len, List.length_append, List.length_take, sizeLine_eq]
            omega
          walk_at "sq go"
          refine ⟨same_put s4 nD, (upd_ne nbD.symm).trans hb, ?_⟩
          rw [upd_same, iv_app, List.append_assoc, List.take_add_one, hv]
          rfl
        · obtain ⟨s4, hb, hD2⟩ := h.o
          rw [iv_len, List.take_length, ← e1] at hD2
          exact ⟨s4, hD2⟩
      · obtain ⟨s3, hD⟩ := h.o
        rw [iv_len, List.take_length] at hD
        walk_at "sq go"
        exact ⟨D, _, _, _, rfl, s2.trans s3, s1.free nD0, hD⟩
    · obtain ⟨fa, x2, y, z, rfl, s2, nfa, hfa⟩ := h.o
      rw [iv_len, List.length_reverse, Nat.sub_self, List.drop_zero] at hfa
      walk_at "sq go"
      intro ss l pm _ nl
      exact q ss l _ pm (s1.trans (s2.trans (same_new nl))) (s1.free (s2.free nl)) upd_same

/-! ### reaches, also where errors are due -/
theorem Sm.dbl {a : Nat} {R : Int} (h : Sm a R) (h10 : 10 ≤ a) (h1 : 1 ≤ R) : Sm a ((R + 3) / 2) := by
  have p : 2 ^ 10 ≤ 2 ^ a := Nat.pow_le_pow_right (by decide) h10
  unfold Sm at *
  omega
/-- the replacements of the greatest reach -/
def bestR (R : Int) : List Int := if R % 2 = 1 then [(R + 3) / 2] else [(R + 3) / 2, (R + 3) / 2 + 1]
theorem bestR_at (R : Int) : atI (iv (bestR R)) 0 = some (.int ((R + 3) / 2)) := by
  unfold bestR
  split <;> exact atI_nat (j := 0) rfl
theorem bestR_len (R : Int) : (bestR R).length ≤ 2 := by
  unfold bestR
  split <;> simp
theorem rb_up {R : Int} (h : 1 ≤ R) : R + 1 ≤ rb R ((R + 3) / 2) := by
  unfold rb
  rw [if_neg (by omega)]
  rcases (show R = 1 ∨ R = 2 ∨ 3 ≤ R by omega) with rfl | rfl | h3
  · decide
  · decide
  · have := Int.mul_le_mul (show (3 : Int) ≤ R + 3 - (R + 3) / 2 by omega) (show (3 : Int) ≤ (R + 3) / 2 by omega) (by decide) (by omega)
    have a1 : (3 : Int) * ((R + 3) / 2) ≤ (R + 3 - (R + 3) / 2) * ((R + 3) / 2) := Int.mul_le_mul_of_nonneg_right (by omega) (by omega)
    omega
abbrev s_check_most : Stmt := topS 22
theorem sc_check_most : FnScope ["most"] ["most"] (defScope s_check_most) := ⟨rfl, rfl, rfl, by decide +kernel, rfl, by decide +kernel, by decide +kernel⟩

def spMostX (CN : Addr) : Sp := fun vs H Q E => ∃ m : Int, vs = [.int m] ∧ Keep ((1 ≤ m → Q .non H) ∧ (m < 1 → ∀ d H', Same H H' → H' d = some (.xd [("value", .int m)]) → E (.ref CN) (some d) H'))
theorem cal_check_mostX {CN : Addr} (D : DefAt K mg "check_most" s_check_most ["most"]) (B : Bt mg) (c_InvalidNumber : Rai P w K mg base 1 "InvalidNumber" CN) : CalXN P w K mg base 3 "check_most" (spMostX CN) := by
  refine D.calXN sc_check_most (fun vs H Q E h => ?_) (fun f cdv A outer s H vs Q E hr h tk => ?_)
  · obtain ⟨m, rfl, _⟩ := h
    rfl
  · obtain ⟨m, rfl, ⟨q, qe⟩⟩ := h
    refine ⟨_, (pss_one (ps_if (pt_cmpR op_lt (pv 0) pe_int (nomark _)) (pss_one (ps_rxN c_InvalidNumber hr (by first | decide | omega) (by rfl) tk (pv 0))) pss_nil)), ?_⟩
    walk_at "sq go"
    refine ifD (fun c => ?_) (fun c => ?_)
    · walk_at "sq go"
      intro d nd
      exact qe c d _ (same_new nd) upd_same
    · exact q (by omega)
abbrev s_check_steps : Stmt := topS 27
theorem sc_check_steps : FnScope ["steps", "most"] ["steps", "most"] (defScope s_check_steps) := ⟨rfl, rfl, rfl, by decide +kernel, rfl, by decide +kernel, by decide +kernel⟩

def spStepsX (CN : Addr) : Sp := fun vs H Q E => ∃ k m : Int, vs = [.int k, .int m] ∧ Keep ((0 ≤ k → 1 ≤ m → Q .non H) ∧ (k < 0 → ∀ d H', Same H H' → H' d = some (.xd [("value", .int k)]) → E (.ref CN) (some d) H') ∧ (0 ≤ k → m < 1 → ∀ d H', Same H H' → H' d = some (.xd [("value", .int m)]) → E (.ref CN) (some d) H'))
theorem cal_check_stepsX {CN : Addr} (D : DefAt K mg "check_steps" s_check_steps ["steps", "most"]) (B : Bt mg) (c_InvalidNumber : Rai P w K mg base 1 "InvalidNumber" CN) (c_check_mostX : CalXN P w K mg base 3 "check_most" (spMostX CN)) : CalXN P w K mg base 4 "check_steps" (spStepsX CN) := by
  refine D.calXN sc_check_steps (fun vs H Q E h => ?_) (fun f cdv A outer s H vs Q E hr h tk => ?_)
  · obtain ⟨k, m, rfl, _⟩ := h
    rfl
  · obtain ⟨k, m, rfl, ⟨q, x1, x2⟩⟩ := h
    refine ⟨_, (pss_cons (ps_if (pt_cmpR op_lt (pv 0) pe_int (nomark _)) (pss_one (ps_rxN c_InvalidNumber hr (by first | decide | omega) (by rfl) tk (pv 0))) pss_nil)
  (pss_one (ps_expr (pe_cxN c_check_mostX hr (by first | decide | omega) tk (by rfl) (pa_cons (pv 1) pa_nil))))), ?_⟩
    walk_at "sq go"
    refine ifD (fun c => ?_) (fun c => ?_)
    · walk_at "sq go"
      intro d nd
      exact x1 c d _ (same_new nd) upd_same
    · walk_at "sq go"
      refine ⟨⟨fun h1 => ?_, fun h1 d H' s1 hd => x2 (by omega) h1 d H' s1 hd⟩⟩
      exact q (by omega) h1
abbrev s_best_replacements : Stmt := topS 26
theorem sc_best_replacements : FnScope ["reached", "middle"] ["reached"] (defScope s_best_replacements) := ⟨rfl, rfl, rfl, by decide +kernel, rfl, by decide +kernel, by decide +kernel⟩

def spBestR : Sp := fun vs H Q _ => ∃ R : Int, vs = [.int R] ∧ Keep (1 ≤ R) ∧ ∀ p, H p = none → Q (.ref p) (upd H p (.lst (iv (bestR R))))
theorem cal_bestR (D : DefAt K mg "best_replacements" s_best_replacements ["reached"]) (B : Bt mg) : Cal P w K mg base 1 "best_replacements" spBestR [] := by
  refine D.cal sc_best_replacements (fun vs H Q E h => ?_) (fun f cdv A outer s H vs Q E hr h => ?_)
  · obtain ⟨R, rfl, _⟩ := h
    rfl
  · obtain ⟨R, rfl, ⟨h1⟩, q⟩ := h
    refine ⟨_, (pss_cons (ps_set (i := 1) sc_best_replacements.nd rfl (Or.inl rfl) (pe_op op_fdivW (pe_op op_add (pv 0) pe_int) pe_int))
  (pss_one (ps_ret (pe_ifExp (pt_cmpR op_eq (pe_op op_mod (pv 0) pe_int) pe_int (nomark _)) (pe_lst (pa_cons (pv 1) pa_nil)) (pe_lst (pa_cons (pv 1) (pa_cons (pe_op op_add (pv 1) pe_int) pa_nil))))))), ?_⟩
    have c1 : CDivW (R + 3) 2 := div_ok (by decide) (by decide)
    have c2 : CDivW R 2 := div_ok (by decide) (by decide)
    walk_at "sq go"
    unfold bestR at q
    refine ifI (fun c => ?_) (fun c => ?_)
    · rw [if_pos c] at q
      walk_at "sq go"
      exact q
    · rw [if_neg c] at q
      walk_at "sq go"
      exact q
abbrev s_reach : Stmt := topS 25
theorem sc_reach : FnScope ["replacements", "most"] ["replacements", "most"] (defScope s_reach) := ⟨rfl, rfl, rfl, by decide +kernel, rfl, by decide +kernel, by decide +kernel⟩

def spReachX (K : PySem.W.Frag) (CN CL : Addr) : Sp := fun vs H Q E => ∃ (p : Addr) (ns : List Int) (m : Int), vs = [.ref p, .int m] ∧ SqL K H p (iv ns) ∧ Keep ((bad ns = none → 1 ≤ m → Fit ns m ∧ ∀ v H', Same H H' → Q v H') ∧
  (∀ i : Nat, bad ns = some i → ∀ d H', Same H H' → H' d = some (.xd [("value", .int i)]) → E (.ref CL) (some d) H') ∧ (bad ns = none → m < 1 → ∀ d H', Same H H' → H' d = some (.xd [("value", .int m)]) → E (.ref CN) (some d) H'))
theorem cal_reachX {CN CL : Addr} (D : DflAt K mg "reach" s_reach ["replacements", "most"] [.int 1]) (B : Bt mg) (c_check_listX : CalXN P w K mg base 3 "check_list" (spCheckX K CL)) (c_check_mostX : CalXN P w K mg base 3 "check_most" (spMostX CN)) (c_reach_of : Cal P w K mg base 2 "reach_of" (spReachOf K) []) :
    CalXN P w K mg base 4 "reach" (spReachX K CN CL) := by
  refine D.calXN sc_reach (fun vs H Q E h => ?_) (fun f cdv A outer s H vs Q E hr h tk => ?_)
  · obtain ⟨p, ns, m, rfl, _⟩ := h
    rfl
  · obtain ⟨p, ns, m, rfl, hS, ⟨q, x1, x2⟩⟩ := h
    refine ⟨_, (pss_cons (ps_expr (pe_cxN c_check_listX hr (by first | decide | omega) tk (by rfl) (pa_cons (pv 0) pa_nil)))
  (pss_cons (ps_expr (pe_cxN c_check_mostX hr (by first | decide | omega) tk (by rfl) (pa_cons (pv 1) pa_nil)))
  (pss_one (ps_ret (pe_c c_reach_of hr (by first | decide | omega) (by rfl) (pa_cons (pv 0) (pa_cons (pv 1) pa_nil))))))), ?_⟩
    walk_at "sq go"
    refine ⟨⟨fun eb H1 s1 => ?_, fun i eb d H1 s1 hd => x1 i eb d H1 s1 hd⟩⟩
    have hS1 := s1.seq hS
    walk_at "sq go"
    refine ⟨⟨fun h1 => ?_, fun h1 d H2 s2 hd => x2 eb h1 d H2 (s1.trans s2) hd⟩⟩
    obtain ⟨hf, q⟩ := q eb h1
    walk_at "sq go"
    exact ⟨⟨bad_none.mp eb, h1, hf⟩, fun H2 s2 => q _ H2 (s1.trans s2)⟩
abbrev s_best_reach : Stmt := topS 28
theorem sc_best_reach : FnScope ["steps", "most", "reached", "step"] ["steps", "most"] (defScope s_best_reach) := ⟨rfl, rfl, rfl, by decide +kernel, rfl, by decide +kernel, by decide +kernel⟩

def spBestX (CN : Addr) : Sp := fun vs H Q E => ∃ k m : Int, vs = [.int k, .int m] ∧ Keep (k ≤ 10 ∧ Sm 100 m ∧ (0 ≤ k → 1 ≤ m → ∀ v H', Same H H' → Q v H') ∧ (k < 0 → ∀ d H', Same H H' → H' d = some (.xd [("value", .int k)]) → E (.ref CN) (some d) H') ∧ (0 ≤ k → m < 1 → ∀ d H', Same H H' → H' d = some (.xd [("value", .int m)]) → E (.ref CN) (some d) H'))
theorem cal_best_reachX {CN : Addr} (D : DflAt K mg "best_reach" s_best_reach ["steps", "most"] [.int 1]) (B : Bt mg) (c_check_stepsX : CalXN P w K mg base 4 "check_steps" (spStepsX CN)) (c_reach_before : Cal P w K mg base 1 "reach_before" spReachBefore []) (c_best_replacements : Cal P w K mg base 1 "best_replacements" spBestR []) :
    CalXN P w K mg base 5 "best_reach" (spBestX CN) := by
  refine D.calXN sc_best_reach (fun vs H Q E h => ?_) (fun f cdv A outer s H vs Q E hr h tk => ?_)
  · obtain ⟨k, m, rfl, _⟩ := h
    rfl
  · obtain ⟨k, m, rfl, ⟨k10, sm, q, x1, x2⟩⟩ := h
    refine ⟨_, (pss_cons (ps_expr (pe_cxN c_check_stepsX hr (by first | decide | omega) tk (by rfl) (pa_cons (pv 0) (pa_cons (pv 1) pa_nil))))
  (pss_cons (ps_set (i := 2) sc_best_reach.nd rfl (Or.inl rfl) (pv 1))
  (pss_cons (ps_for PassesOwn.leaving rfl (pi_range1 (by rfl) B.range (pa_cons (pv 0) pa_nil)) (pg_name (i := 3) sc_best_reach.nd rfl (Or.inl rfl))
   (pss_one (ps_set (i := 2) sc_best_reach.nd rfl (Or.inl rfl) (pe_c c_reach_before hr (by first | decide | omega) (by rfl) (pa_cons (pv 2) (pa_cons (pe_ix (ix_listK (K := K)) (pe_c c_best_replacements hr (by first | decide | omega) (by rfl) (pa_cons (pv 2) pa_nil)) pe_int (fun _ _ => rfl)) pa_nil))))))
  (pss_one (ps_ret (pv 2)))))), ?_⟩
    walk_at "sq go"
    refine ⟨⟨fun k0 m1 => ?_, x1, x2⟩⟩
    have q := q k0 m1
    walk_at "sq go"
    refine for_range (lo := 0) (n := k.toNat) (fun i σ H' => Keep (∃ (R : Int) (x : Option V), σ = [some (.int k), some (.int m), some (.int R), x] ∧ 1 ≤ R ∧ Sm (100 * 2 ^ i) R ∧ Same H H')) ⟨m, none, rfl, m1, sm, .refl H⟩ (fun i σ H' hi h => ?_) (fun σ H' h => ?_)
    · obtain ⟨R, x, rfl, R1, sR, s1⟩ := h.o
      walk_at "sq go"
      refine ⟨⟨R1⟩, fun p np => ?_⟩
      have e0 := bestR_at R
      walk_at "sq go"
      have p1 : 1 ≤ 2 ^ i := Nat.pow_le_pow_right (n := 2) (i := 0) (by decide) (Nat.zero_le _)
      have p2 : 2 ^ i ≤ 2 ^ 10 := Nat.pow_le_pow_right (by decide) (by omega)
      have sk := sR.dbl (by omega) R1
      have ss := rb_Sm sR sk (by omega) (by omega) R1
      refine ⟨⟨_, _, R1, by omega, sR, sk, by omega, by omega, by omega⟩, ?_⟩
      refine ⟨_, _, rfl, by have := rb_up R1; omega, ?_, s1.trans (same_new np)⟩
      rw [Nat.pow_succ]
      exact ss.mono (by omega)
    · obtain ⟨R, x, rfl, R1, sR, s1⟩ := h.o
      walk_at "sq go"
      exact q _ _ s1
abbrev s_fewest_steps : Stmt := topS 29
theorem sc_fewest_steps : FnScope ["length", "most", "steps", "reached"] ["length", "most"] (defScope s_fewest_steps) := ⟨rfl, rfl, rfl, by decide +kernel, rfl, by decide +kernel, by decide +kernel⟩

def spFewX (CN : Addr) : Sp := fun vs H Q E => ∃ n m : Int, vs = [.int n, .int m] ∧ Keep (Sm 100 n ∧ Sm 100 m ∧ (0 ≤ n → 1 ≤ m → ∀ v H', Same H H' → Q v H') ∧ (n < 0 → ∀ d H', Same H H' → H' d = some (.xd [("value", .int n)]) → E (.ref CN) (some d) H') ∧ (0 ≤ n → m < 1 → ∀ d H', Same H H' → H' d = some (.xd [("value", .int m)]) → E (.ref CN) (some d) H'))
theorem cal_fewestX {CN : Addr} (D : DflAt K mg "fewest_steps" s_fewest_steps ["length", "most"] [.int 1]) (B : Bt mg) (c_check_lengthX : CalXN P w K mg base 3 "check_length" (spLenX CN)) (c_check_mostX : CalXN P w K mg base 3 "check_most" (spMostX CN)) (c_reach_before : Cal P w K mg base 1 "reach_before" spReachBefore []) (c_best_replacements : Cal P w K mg base 1 "best_replacements" spBestR []) :
    CalXN P w K mg base 4 "fewest_steps" (spFewX CN) := by
  refine D.calXN sc_fewest_steps (fun vs H Q E h => ?_) (fun f cdv A outer s H vs Q E hr h tk => ?_)
  · obtain ⟨n, m, rfl, _⟩ := h
    rfl
  · obtain ⟨n, m, rfl, ⟨sn, sm, q, x1, x2⟩⟩ := h
    refine ⟨_, (pss_cons (ps_expr (pe_cxN c_check_lengthX hr (by first | decide | omega) tk (by rfl) (pa_cons (pv 0) pa_nil)))
  (pss_cons (ps_expr (pe_cxN c_check_mostX hr (by first | decide | omega) tk (by rfl) (pa_cons (pv 1) pa_nil)))
  (pss_cons (ps_set (i := 2) sc_fewest_steps.nd rfl (Or.inl rfl) pe_int)
  (pss_cons (ps_set (i := 3) sc_fewest_steps.nd rfl (Or.inl rfl) (pv 1))
  (pss_cons (ps_while PassesOwn.leaving (pt_cmpR op_lt (pv 3) (pv 0) (nomark _))
   (pss_cons (ps_set (i := 3) sc_fewest_steps.nd rfl (Or.inl rfl) (pe_c c_reach_before hr (by first | decide | omega) (by rfl) (pa_cons (pv 3) (pa_cons (pe_ix (ix_listK (K := K)) (pe_c c_best_replacements hr (by first | decide | omega) (by rfl) (pa_cons (pv 3) pa_nil)) pe_int (fun _ _ => rfl)) pa_nil))))
  (pss_one (ps_aug (i := 2) sc_fewest_steps.nd rfl (Or.inl rfl) pe_int ip_add))))
  (pss_one (ps_ret (pv 2)))))))), ?_⟩
    walk_at "sq go"
    refine ⟨⟨fun n0 => ?_, x1⟩⟩
    walk_at "sq go"
    refine ⟨⟨fun m1 => ?_, x2 n0⟩⟩
    have q := q n0 m1
    walk_at "sq go"
    refine ⟨fun t σ H' => Keep (∃ R z : Int, σ = [some (.int n), some (.int m), some (.int z), some (.int R)] ∧ 1 ≤ R ∧ t = (n - R).toNat ∧ Same H H'), ⟨_, m, 0, rfl, m1, rfl, .refl H⟩, fun t σ H' h => ?_⟩
    obtain ⟨R, z, rfl, R1, rfl, s1⟩ := h.o
    walk_at "sq go"
    refine ifD (fun c => ?_) (fun c => ?_)
    · refine ⟨fun σ' H3 => Keep (∃ z : Int, σ' = [some (.int n), some (.int m), some (.int z), some (.int (rb R ((R + 3) / 2)))] ∧ Same H H3), fun σ' H3 h3 => ?_, ?_⟩
      · obtain ⟨z, rfl, s3⟩ := h3.o
        have := rb_up R1
        exact ⟨_, by omega, _, _, rfl, by omega, rfl, s3⟩
      · walk_at "sq go"
        refine ⟨⟨R1⟩, fun p np => ?_⟩
        have e0 := bestR_at R
        walk_at "sq go"
        have sR : Sm 100 R := sn.le (by omega) (by omega)
        refine ⟨⟨_, _, R1, by omega, sR, sR.dbl (by decide) R1, by decide, by decide, by decide⟩, ?_⟩
        walk_at "sq go"
        exact ⟨_, rfl, s1.trans (same_new np)⟩
    · walk_at "sq go"
      exact q _ _ s1

/-! ### origins, also where errors are due -/
abbrev s_greatest_origin : Stmt := topS 14
theorem sc_greatest_origin : FnScope ["length", "replacements"] ["length", "replacements"] (defScope s_greatest_origin) := ⟨rfl, rfl, rfl, by decide +kernel, rfl, by decide +kernel, by decide +kernel⟩

def spGreatX (K : PySem.W.Frag) (CN CL : Addr) : Sp := fun vs H Q E => ∃ (n : Int) (p : Addr) (ns : List Int), vs = [.int n, .ref p] ∧ SqL K H p (iv ns) ∧ Keep ((0 ≤ n → bad ns = none → FitP ns n ∧ ∀ v H', Same H H' → Q v H') ∧
  (n < 0 → ∀ d H', Same H H' → H' d = some (.xd [("value", .int n)]) → E (.ref CN) (some d) H') ∧ ∀ i : Nat, 0 ≤ n → bad ns = some i → ∀ d H', Same H H' → H' d = some (.xd [("value", .int i)]) → E (.ref CL) (some d) H')
theorem cal_greatX {CN CL : Addr} (D : DefAt K mg "greatest_origin" s_greatest_origin ["length", "replacements"]) (B : Bt mg) (c_check_lengthX : CalXN P w K mg base 3 "check_length" (spLenX CN)) (c_check_listX : CalXN P w K mg base 3 "check_list" (spCheckX K CL)) (c_greatest_origin_of : Cal P w K mg base 1 "greatest_origin_of" (spGO K) []) :
    CalXN P w K mg base 4 "greatest_origin" (spGreatX K CN CL) := by
  refine D.calXN sc_greatest_origin (fun vs H Q E h => ?_) (fun f cdv A outer s H vs Q E hr h tk => ?_)
  · obtain ⟨n, p, ns, rfl, _⟩ := h
    rfl
  · obtain ⟨n, p, ns, rfl, hS, ⟨q, x1, x2⟩⟩ := h
    refine ⟨_, (pss_cons (ps_expr (pe_cxN c_check_lengthX hr (by first | decide | omega) tk (by rfl) (pa_cons (pv 0) pa_nil)))
  (pss_cons (ps_expr (pe_cxN c_check_listX hr (by first | decide | omega) tk (by rfl) (pa_cons (pv 1) pa_nil)))
  (pss_one (ps_ret (pe_c c_greatest_origin_of hr (by first | decide | omega) (by rfl) (pa_cons (pv 0) (pa_cons (pv 1) pa_nil))))))), ?_⟩
    walk_at "sq go"
    refine ⟨⟨fun n0 => ?_, x1⟩⟩
    walk_at "sq go"
    refine ⟨⟨fun eb H1 s1 => ?_, fun i eb => x2 i n0 eb⟩⟩
    obtain ⟨ft, q⟩ := q n0 eb
    have hS1 := s1.seq hS
    walk_at "sq go"
    refine ⟨⟨ft⟩, ?_⟩
    exact q _ _ s1
abbrev s_count_origins : Stmt := topS 19
theorem sc_count_origins : FnScope ["length", "replacements", "last"] ["length", "replacements", "last"] (defScope s_count_origins) := ⟨rfl, rfl, rfl, by decide +kernel, rfl, by decide +kernel, by decide +kernel⟩

def spCountX (K : PySem.W.Frag) (CN CL : Addr) (d : Nat) : Sp := fun vs H Q E => ∃ (n last : Int) (p : Addr) (ns : List Int), vs = [.int n, .ref p, .int last] ∧ SqL K H p (iv ns) ∧ Keep ((0 ≤ n → bad ns = none → 0 ≤ last → (ns.length < d ∧ (∀ k ∈ ns, 2 ≤ k ∧ k ≤ 1000) ∧ ns.length ≤ 1000 ∧ Sm 250 last) ∧ ∀ v H', Same H H' → Q v H') ∧
  (n < 0 → ∀ d H', Same H H' → H' d = some (.xd [("value", .int n)]) → E (.ref CN) (some d) H') ∧ (∀ i : Nat, 0 ≤ n → bad ns = some i → ∀ d H', Same H H' → H' d = some (.xd [("value", .int i)]) → E (.ref CL) (some d) H') ∧
  (0 ≤ n → bad ns = none → last < 0 → ∀ d H', Same H H' → H' d = some (.xd [("value", .int last)]) → E (.ref CN) (some d) H'))
theorem cal_countX {CN CL : Addr} {d : Nat} (D : DefAt K mg "count_origins" s_count_origins ["length", "replacements", "last"]) (B : Bt mg) (c_InvalidNumber : Rai P w K mg base 1 "InvalidNumber" CN) (c_check_lengthX : CalXN P w K mg base 3 "check_length" (spLenX CN)) (c_check_listX : CalXN P w K mg base 3 "check_list" (spCheckX K CL))
    (c_count_up_to : Cal P w K mg base (d + 3) "count_up_to" (spCount K d) []) : CalXN P w K mg base (d + 4) "count_origins" (spCountX K CN CL d) := by
  refine D.calXN sc_count_origins (fun vs H Q E h => ?_) (fun f cdv A outer s H vs Q E hr h tk => ?_)
  · obtain ⟨n, last, p, ns, rfl, _⟩ := h
    rfl
  · obtain ⟨n, last, p, ns, rfl, hS, ⟨q, x1, x2, x3⟩⟩ := h
    refine ⟨_, (pss_cons (ps_expr (pe_cxN c_check_lengthX hr (by first | decide | omega) tk (by rfl) (pa_cons (pv 0) pa_nil)))
  (pss_cons (ps_expr (pe_cxN c_check_listX hr (by first | decide | omega) tk (by rfl) (pa_cons (pv 1) pa_nil)))
  (pss_cons (ps_if (pt_cmpR op_lt (pv 2) pe_int (nomark _)) (pss_one (ps_rxN c_InvalidNumber hr (by first | decide | omega) (by rfl) tk (pv 2))) pss_nil)
  (pss_one (ps_ret (pe_ifExp (pt_cmpR op_gt (pv 0) pe_int (nomark _)) (pe_c c_count_up_to hr (by first | decide | omega) (by rfl) (pa_cons (pv 0) (pa_cons (pv 1) (pa_cons (pv 2) pa_nil)))) pe_int)))))), ?_⟩
    walk_at "sq go"
    refine ⟨⟨fun n0 => ?_, x1⟩⟩
    walk_at "sq go"
    refine ⟨⟨fun eb H1 s1 => ?_, fun i eb => x2 i n0 eb⟩⟩
    have hS1 := s1.seq hS
    walk_at "sq go"
    refine ifD (fun c => ?_) (fun c => ?_)
    · walk_at "sq go"
      intro dd nd
      exact x3 n0 eb c dd _ (s1.trans (same_new nd)) upd_same
    · obtain ⟨⟨hd, hk, hl, ls⟩, q⟩ := q n0 eb (by omega)
      walk_at "sq go"
      refine ifD (fun c => ?_) (fun c => ?_)
      · walk_at "sq go"
        exact ⟨⟨hd, by omega, hk, hl, by omega, ls⟩, fun H2 s2 => q _ H2 (s1.trans s2)⟩
      · walk_at "sq go"
        exact q _ _ s1

/-! ### origins, its consumer at will -/
theorem ovl_none {S : GSt} {Hg H : Hp} (h : S.env.cells = []) : ovl S [] Hg H = H := ovl_plain fun x c e => by
  rw [h] at e
  cases e
theorem seeC_none {S : GSt} {H : Hp} (h : S.env.cells = []) : seeC S [] H = H := by
  funext b
  exact seeC_off (by simp) fun x e => by
    rw [h] at e
    cases e
/-- one list is hidden -/
theorem see1 {S : GSt} {Hc H : Hp} {l : Addr} (hc : S.env.cells = []) (n : Hc l = none) (s : Same Hc H) : Same Hc (seeC S [l] H) := fun b u e => by
  have ne : b ≠ l := fun z => by
    rw [z, n] at e
    cases e
  rw [seeC_off (by simpa using ne) fun x y => by rw [hc] at y; cases y]
  exact s b u e
theorem ovl1 {S : GSt} {Hg Hc : Hp} {l : Addr} {u : HO} (hc : S.env.cells = []) (n : Hc l = none) (e : Hg l = some u) : ovl S [l] Hg Hc = upd Hc l u := by
  funext b
  by_cases z : b = l
  · rw [z, ovl_hid (by simp), e, upd_same]
  · rw [ovl_off (by simpa using z) (fun x y => by rw [hc] at y; cases y), upd_ne z]
abbrev s_origins : Stmt := topS 17
theorem sc_origins : GScope ["length", "replacements", "origin"] ["length", "replacements"] (defScope s_origins) := ⟨rfl, rfl, rfl, by decide +kernel, rfl, by decide +kernel, by decide +kernel⟩

def orOut (K : PySem.W.Frag) (CN CL p : Addr) (n : Int) (ks : List Int) : GOut where
  out := fun m H x H' => (0 ≤ n ∧ bad ks = none) ∧ Same H H' ∧ ∃ v, x = .int v
  fin := fun m H H' => (0 ≤ n ∧ bad ks = none) ∧ Same H H'
  rq := fun m H => SqL K H p (iv ks)
  ex := fun H cls d H' => ∃ d0, d = some d0 ∧ Same H H' ∧ ((n < 0 ∧ cls = .ref CN ∧ H' d0 = some (.xd [("value", .int n)])) ∨ (0 ≤ n ∧ ∃ i : Nat, bad ks = some i ∧ cls = .ref CL ∧ H' d0 = some (.xd [("value", .int i)])))
def spOrG (K : PySem.W.Frag) (CN CL : Addr) : SpG1 := fun vs Y c => ∃ (n : Int) (p : Addr) (ks : List Int), vs = [.int n, .ref p] ∧ Y = orOut K CN CL p n ks ∧ c = 10001 ∧ (0 ≤ n → bad ks = none → n ≤ 1000 ∧ (∀ k ∈ ks, 2 ≤ k ∧ k ≤ 1000) ∧ prodL ks ≤ 10000)
theorem gen_origins1 {CN CL : Addr} (D : DefAt K mg "origins" s_origins ["length", "replacements"]) (B : Bt mg) (c_check_lengthX : CalXN P w K mg base 3 "check_length" (spLenX CN)) (c_check_listX : CalXN P w K mg base 3 "check_list" (spCheckX K CL))
    (c_origins_of : Cal P w K mg base 2 "origins_of" (spOriginsOf K) []) : CalG1 P w K mg base ["length", "replacements", "origin"] 4 "origins" ["length", "replacements"] (spOrG K CN CL) [] := by
  refine D.gen1 sc_origins (by decide +kernel) (fun vs Y c h => ?_) (fun f cdv A outer L vs Y cnt hr tk po h => ?_)
  · obtain ⟨n, p, ks, rfl, _⟩ := h
    rfl
  · obtain ⟨n, p, ks, rfl, rfl, rfl, hm⟩ := h
    refine ⟨_, (gss1_cons (gs1_ps (fun β => (ps_expr (pe_cxN c_check_lengthX hr (by first | decide | omega) (tk β) (by rfl) (pa_cons (pv 0) pa_nil)))))
  (gss1_cons (gs1_ps (fun β => (ps_expr (pe_cxN c_check_listX hr (by first | decide | omega) (tk β) (by rfl) (pa_cons (pv 1) pa_nil)))))
  (gss1_cons (gs1_for po (fun β => (pi_listK (K := K) (pe_c c_origins_of hr (by first | decide | omega) (by rfl) (pa_cons (pv 0) (pa_cons (pv 1) pa_nil))))) (fun β => (pg_name (i := 2) sc_origins.nd rfl (Or.inl rfl)))
   (gss1_cons (gs1_yield (fun β => (pv 2)))
  gss1_nil))
  gss1_nil))), fun β hex h0 hH rq cz => ?_⟩
    have hc : (envOfC "origins" (defScope s_origins) L f cdv).cells = [] := rfl
    rw [ovl_none (by exact hc)] at hH
    rw [hH]
    have hS : SqL K β.Hc p (iv ks) := rq
    walk_at "sq go"
    refine ⟨⟨fun n0 => ?_, fun hn d H' s1 hd => hex _ _ _ ⟨d, rfl, s1, .inl ⟨hn, rfl, hd⟩⟩⟩⟩
    walk_at "sq go"
    refine ⟨⟨fun eb H1 s1 => ?_, fun i eb d H1 s1 hd => hex _ _ _ ⟨d, rfl, s1, .inr ⟨n0, i, eb, rfl, hd⟩⟩⟩⟩
    obtain ⟨g1, bk, pr⟩ := hm n0 eb
    have hS1 := s1.seq hS
    have kl : ∀ y ∈ (["length", "replacements", "origin"] : List Str), (envOfC "origins" (defScope s_origins) L f cdv).kindOf y = some .local := by
      show ∀ y ∈ (["length", "replacements", "origin"] : List Str), (defScope s_origins).names.lookup y = some .local
      decide +kernel
    walk_at "sq go"
    refine ⟨⟨n0, g1, bk, pr⟩, fun ss l H2 pm s2 nl gl => ?_⟩
    have len : ss.length ≤ 10000 := by
      have := len_orig (goal := n) (row := ks) (fun k hk => (bk k hk).1)
      rw [pm.length_eq]
      omega
    walk_at "sq go"
    refine gfor1_list (K := K) (a := l) (xs := iv ss) (fun i cnt β' σ H => Keep (∃ z, σ = [some (.int n), some (.ref p), z] ∧ cnt + i = 10001 ∧ Same β'.Hc H ∧ H l = some (.lst (iv ss)) ∧ β'.Hc l = none)) ⟨_, rfl, rfl, s1.trans s2, gl, s1.free nl⟩ (fun i cnt β σ H _ h => ?_) (fun i x cnt β σ H hx h => ?_) (fun cnt β σ H h => ?_)
    · obtain ⟨_, _, _, _, g, _⟩ := h.o
      exact seqL_of g
    · obtain ⟨z, rfl, ec, s3, g3, n3⟩ := h.o
      obtain ⟨k, hk, rfl⟩ := iv_get hx
      have li := (List.getElem?_eq_some_iff.mp hk).1
      walk_at "sq go"
      refine ⟨cnt - 1, [l], _, by omega, rfl, fun _ _ z => z, fun b hb => ?_, nocv kl, ⟨⟨n0, eb⟩, see1 (by exact hc) n3 s3, _, rfl⟩, fun β2 z2 nz hH2 rq2 => ?_⟩
      · rw [List.mem_singleton.mp hb]
        exact ⟨⟨_, g3⟩, .inr n3⟩
      · have n2 := nz.hid l (List.mem_singleton.mpr rfl)
        rw [ovl1 (by exact hc) n2 g3] at hH2
        rw [hH2]
        exact ⟨_, rfl, by omega, same_new n2, upd_same, n2⟩
    · obtain ⟨z, rfl, ec, s3, g3, n3⟩ := h.o
      show (orOut K CN CL p n ks).fin cnt β.Hc (seeC _ [] H)
      rw [seeC_none (by exact hc)]
      exact ⟨⟨n0, eb⟩, s3⟩

/-! ### best lists, their consumer at will -/
/-- the consumer sees what it had -/
theorem see_had {S : GSt} {β : GB} {hid : List Addr} {H : Hp} (hn : ∀ b ∈ hid, β.Hc b = none) (hc : ∀ x c, S.env.cells.lookup x = some c → β.Hc c = some (cellX c) ∨ β.Hc c = none)
    (h : ∀ b u, b ∉ hid → (∀ x, S.env.cells.lookup x ≠ some b) → β.Hc b = some u → H b = some u) : Same β.Hc (seeC S hid H) := fun b u e => by
  have nh : b ∉ hid := fun z => by
    rw [hn b z] at e
    cases e
  by_cases hx : ∃ x, S.env.cells.lookup x = some b
  · obtain ⟨x, ex⟩ := hx
    rw [seeC_cell nh ex]
    rcases hc x b ex with z | z
    · rw [z] at e
      exact e
    · rw [z] at e
      cases e
  · rw [seeC_off nh fun x ex => hx ⟨x, ex⟩]
    exact h b u nh (fun x ex => hx ⟨x, ex⟩) e
/-- names that do not stand in the frame itself are not known -/
theorem nocv_but {S : GSt} {σ : L2.St} (js : List Nat) (hs : ∀ j ∈ js, ∀ v, σ[j]? ≠ some (some v)) (h : ∀ i, i < S.N.length → i ∈ js ∨ S.env.kindOf (S.N.getD i "") = some .local) : NoCV S σ := fun i x v e q => by
  obtain ⟨l1, e1⟩ := List.getElem?_eq_some_iff.mp e
  rcases h i l1 with z | z
  · exact absurd q (hs i z v)
  · rw [List.getD_eq_getElem?_getD, e] at z
    exact z
abbrev s_best_lists : Stmt := topS 30
theorem sc_best_lists : GScope ["steps", "most", "choices", "reached", "step", "found", "choice", "replacements", "start", "replacement"] ["steps", "most"] (defScope s_best_lists) := ⟨rfl, rfl, rfl, by decide +kernel, rfl, by decide +kernel, by decide +kernel⟩

def blOut (CN : Addr) (k m0 : Int) : GOut where
  out := fun m H x H' => (0 ≤ k ∧ 1 ≤ m0) ∧ Same H H' ∧ ∃ l, x = .ref l
  fin := fun m H H' => (0 ≤ k ∧ 1 ≤ m0) ∧ Same H H'
  rq := fun m H => True
  ex := fun H cls d H' => ∃ d0, d = some d0 ∧ Same H H' ∧ ((k < 0 ∧ cls = .ref CN ∧ H' d0 = some (.xd [("value", .int k)])) ∨ (0 ≤ k ∧ m0 < 1 ∧ cls = .ref CN ∧ H' d0 = some (.xd [("value", .int m0)])))
def spBlG (CN : Addr) : SpG1 := fun vs Y c => ∃ (k m0 : Int), vs = [.int k, .int m0] ∧ Y = blOut CN k m0 ∧ c = 2001 ∧ (k ≤ 6 ∧ Sm 100 m0)
local macro_rules | `(tactic| walk_at "sq side") => `(tactic| first
  | ((with_reducible show List.all _ _ = true); assumption)
  | ((with_reducible show _[_]? = some _); assumption))
theorem gen_best {CN : Addr} (D : DflAt K mg "best_lists" s_best_lists ["steps", "most"] [.int 1]) (B : Bt mg) (c_check_stepsX : CalXN P w K mg base 4 "check_steps" (spStepsX CN)) (c_reach_before : Cal P w K mg base 1 "reach_before" spReachBefore []) (c_best_replacements : Cal P w K mg base 1 "best_replacements" spBestR []) :
    CalG1 P w K mg base ["steps", "most", "choices", "reached", "step", "found", "choice", "replacements", "start", "replacement"] 5 "best_lists" ["steps", "most"] (spBlG CN) [] := by
  refine D.gen1 sc_best_lists (by decide +kernel) (fun vs Y c h => ?_) (fun f cdv A outer L vs Y cnt hr tk po h => ?_)
  · obtain ⟨k, m0, rfl, _⟩ := h
    rfl
  · obtain ⟨k, m0, rfl, rfl, rfl, k10, sm⟩ := h
    refine ⟨_, (gss1_cons (gs1_ps (fun β => (ps_expr (pe_cxN c_check_stepsX hr (by first | decide | omega) (tk β) (by rfl) (pa_cons (pv 0) (pa_cons (pv 1) pa_nil))))))
  (gss1_cons (gs1_ps (fun β => (ps_set (i := 2) sc_best_lists.nd rfl (Or.inl rfl) (pe_lst pa_nil))))
  (gss1_cons (gs1_ps (fun β => (ps_set (i := 3) sc_best_lists.nd rfl (Or.inl rfl) (pv 1))))
  (gss1_cons (gs1_ps (fun β => (ps_for (po β) rfl (pi_range1 (by rfl) B.range (pa_cons (pv 0) pa_nil)) (pg_name (i := 4) sc_best_lists.nd rfl (Or.inl rfl))
   (pss_cons (ps_expr (pe_bm PySem.F.plainAttrs_list PySem.F.slot_list_insert PySem.F.type_list_insert mt_insert (pv 2) (pa_cons pe_int (pa_cons (pe_c c_best_replacements hr (by first | decide | omega) (by rfl) (pa_cons (pv 3) pa_nil)) pa_nil))))
  (pss_one (ps_set (i := 3) sc_best_lists.nd rfl (Or.inl rfl) (pe_c c_reach_before hr (by first | decide | omega) (by rfl) (pa_cons (pv 3) (pa_cons (pe_ix (ix_listK (K := K)) (pe_ix (ix_listK (K := K)) (pv 2) pe_int (fun _ _ => rfl)) pe_int (fun _ _ => rfl)) pa_nil)))))))))
  (gss1_cons (gs1_ps (fun β => (ps_set (i := 5) sc_best_lists.nd rfl (Or.inl rfl) (pe_lst (pa_cons (pe_lst pa_nil) pa_nil)))))
  (gss1_cons (gs1_ps (fun β => (ps_for (po β) rfl (pi_listK (K := K) (pv 2)) (pg_name (i := 6) sc_best_lists.nd rfl (Or.inr rfl))
   (pss_one (ps_setLc2 (i := 5) (own := [("start", 8), ("replacement", 9)]) (g := gName 8) (g1 := gName 9) (vs1 := [9]) (by rfl) sc_best_lists.nd rfl rfl (sw_true rfl rfl rfl (by decide +kernel)) (pi_listK (K := K) (pv 5)) (blkOk_by (own := [("start", 8), ("replacement", 9)]) (N := ["steps", "most", "choices", "reached", "step", "found", "choice", "replacements", "start", "replacement"]) (sc := defScope s_best_lists) (by decide +kernel)) (by decide) (fun _ _ _ _ _ => (pg_name (i := 8) sc_best_lists.nd rfl (Or.inl rfl))) (fun _ _ _ _ _ => pts_nil) (fun _ _ _ _ _ => (pi_listK (K := K) (pv 6))) (fun _ _ _ _ _ => (pg_name (i := 9) sc_best_lists.nd rfl (Or.inl rfl))) (fun _ _ _ _ _ => pts_nil) (fun _ _ _ _ _ => (pe_lst (pa_starK (K := K) (pv 8) (pa_cons (pv 9) pa_nil)))))))))
  (gss1_cons (gs1_for po (fun β => (pi_listK (K := K) (pv 5))) (fun β => (pg_name (i := 7) sc_best_lists.nd rfl (Or.inl rfl)))
   (gss1_cons (gs1_yield (fun β => (pv 7)))
  gss1_nil))
  gss1_nil))))))), fun β hex h0 hH rq cz => ?_⟩
    have hH : β.H = β.Hc := hH.trans (ovl_plain cz)
    rw [hH]
    walk_at "sq go"
    refine ⟨⟨fun k0 m1 => ?_, fun kn d H' s1 hd => hex _ _ _ ⟨d, rfl, s1, .inl ⟨kn, rfl, hd⟩⟩, fun k0 mn d H' s1 hd => hex _ _ _ ⟨d, rfl, s1, .inr ⟨k0, mn, rfl, hd⟩⟩⟩⟩
    walk_at "sq go"
    intro ch nch
    walk_at "sq go"
    refine for_range (lo := 0) (n := k.toNat) (fun i σ H' => Keep (∃ (R : Int) (x : Option V) (cs : List V), σ = [some (.int k), some (.int m0), some (.ref ch), some (.int R), x, none, none, none, none, none] ∧ 1 ≤ R ∧ Sm (100 * 2 ^ i) R ∧ Same β.Hc H' ∧ H' ch = some (.lst cs) ∧ cs.length = i ∧
      ∀ v ∈ cs, ∃ (c : Addr) (ns : List Int), v = .ref c ∧ c ≠ ch ∧ H' c = some (.lst (iv ns)) ∧ ns.length ≤ 2)) ⟨m0, none, [], rfl, m1, sm, same_new nch, upd_same, rfl, fun v hv => by cases hv⟩ (fun i σ H' hi h => ?_) (fun σ H' h => ?_)
    · obtain ⟨R, x, cs, rfl, R1, sR, s1, gch, lcs, hcs⟩ := h.o
      walk_at "sq go"
      refine ⟨⟨R1⟩, fun p np => ?_⟩
      have e0 := bestR_at R
      have npc : p ≠ ch := fun z => by
        rw [z, gch] at np
        cases np
      have gch2 := upd_keep (o := .lst (iv (bestR R))) np gch
      have gp : upd H' p (.lst (iv (bestR R))) p = some (.lst (iv (bestR R))) := upd_same
      have p1 : 1 ≤ 2 ^ i := Nat.pow_le_pow_right (n := 2) (i := 0) (by decide) (Nat.zero_le _)
      have p2 : 2 ^ i ≤ 2 ^ 6 := Nat.pow_le_pow_right (by decide) (by omega)
      have lz : cs.length < sizeLine := small1000 (by omega)
      have gp3 : upd (upd H' p (.lst (iv (bestR R)))) ch (.lst (List.take (Int.toNat 0) cs ++ [V.ref p] ++ List.drop (Int.toNat 0) cs)) p = some (.lst (iv (bestR R))) := (upd_ne npc).trans upd_same
      have gc3 : upd (upd H' p (.lst (iv (bestR R)))) ch (.lst (List.take (Int.toNat 0) cs ++ [V.ref p] ++ List.drop (Int.toNat 0) cs)) ch = some (.lst (List.take (Int.toNat 0) cs ++ [V.ref p] ++ List.drop (Int.toNat 0) cs)) := upd_same
      have a0 : atI (List.take (Int.toNat 0) cs ++ [V.ref p] ++ List.drop (Int.toNat 0) cs) 0 = some (.ref p) := atI_nat (j := 0) rfl
      have sk := sR.dbl (by omega) R1
      have ss := rb_Sm sR sk (by omega) (by omega) R1
      walk_at "sq go"
      refine ⟨⟨_, _, R1, by omega, sR, sk, by omega, by omega, by omega⟩, ?_⟩
      refine ⟨_, _, .ref p :: cs, rfl, by have := rb_up R1; omega, ?_, same_put (s1.trans (same_new np)) nch, gc3, by simp [lcs], fun v hv => ?_⟩
      · rw [Nat.pow_succ]
        exact ss.mono (by omega)
      · rcases List.mem_cons.mp hv with z | z
        · exact ⟨p, bestR R, z, npc, gp3, bestR_len R⟩
        · obtain ⟨c, ns, e, nc, gc, ln⟩ := hcs v z
          exact ⟨c, ns, e, nc, (upd_ne nc).trans (upd_keep np gc), ln⟩
    · obtain ⟨R, x, cs, rfl, R1, sR, s1, gch, lcs, hcs⟩ := h.o
      walk_at "sq go"
      intro e0 ne0
      have s2 := same_new (o := .lst []) ne0
      walk_at "sq go"
      intro f0 nf0
      have s3 := same_new (o := .lst [.ref e0]) nf0
      have s23 := s2.trans s3
      have ge0 : upd (upd H' e0 (.lst [])) f0 (.lst [.ref e0]) e0 = some (.lst (iv [])) := upd_keep nf0 upd_same
      have gf0 : upd (upd H' e0 (.lst [])) f0 (.lst [.ref e0]) f0 = some (.lst [.ref e0]) := upd_same
      have hcs1 : ∀ v ∈ cs, ∃ (c : Addr) (ns : List Int), v = .ref c ∧ upd (upd H' e0 (.lst [])) f0 (.lst [.ref e0]) c = some (.lst (iv ns)) ∧ ns.length ≤ 2 := fun v hv => by
        obtain ⟨c, ns, e, nc, gc, ln⟩ := hcs v hv
        exact ⟨c, ns, e, s23 _ _ gc, ln⟩
      have gch1 := s23 _ _ gch
      have nf1 : β.Hc f0 = none := s1.free (s2.free nf0)
      have s13 := s1.trans s23
      generalize upd (upd H' e0 (.lst [])) f0 (.lst [.ref e0]) = H1 at *
      clear hcs gch s1 s2 s3 s23
      walk_at "sq go"
      refine for_list (K := K) (a := ch) (xs := cs) (fun j σ H2 => Keep (∃ (fa : Addr) (fs : List V) (y6 y8 y9 : Option V), σ = [some (.int k), some (.int m0), some (.ref ch), some (.int R), x, some (.ref fa), y6, none, y8, y9] ∧ Same H1 H2 ∧ β.Hc fa = none ∧ H2 fa = some (.lst fs) ∧ fs.length ≤ 2 ^ j ∧
        ∀ v ∈ fs, ∃ (l : Addr) (ns : List Int), v = .ref l ∧ H2 l = some (.lst (iv ns)) ∧ ns.length = j)) ⟨f0, [.ref e0], _, _, _, rfl, .refl _, nf1, gf0, by simp, fun v hv => ⟨e0, [], List.mem_singleton.mp hv, ge0, rfl⟩⟩ (fun j σ H2 _ h => ?_) (fun j v σ H2 hv h => ?_) (fun σ H2 h => ?_)
      · obtain ⟨_, _, _, _, _, _, s4, _⟩ := h.o
        exact seqL_of (s4 _ _ gch1)
      · obtain ⟨fa, fs, y6, y8, y9, rfl, s4, nfa, gfa, lfs, hfs⟩ := h.o
        obtain ⟨c, ks, rfl, gc, lk⟩ := hcs1 v (List.mem_of_getElem? hv)
        have gc4 := s4 _ _ gc
        have lj := (List.getElem?_eq_some_iff.mp hv).1
        have p2 : 2 ^ (j + 1) ≤ 2 ^ 6 := Nat.pow_le_pow_right (by decide) (by omega)
        have p3 : 2 ^ (j + 1) = 2 ^ j * 2 := Nat.pow_succ ..
        walk_at "sq go"
        intro D nD
        refine it_list (K := K) (a := fa) (xs := fs) (fun i Hh => Keep (∃ acc : List V, Same H2 Hh ∧ Hh D = some (.lst acc) ∧ acc.length ≤ i * 2 ∧ ∀ v ∈ acc, ∃ (l : Addr) (ns : List Int), v = .ref l ∧ l ≠ D ∧ Hh l = some (.lst (iv ns)) ∧ ns.length = j + 1)) ⟨[], same_new nD, upd_same, by simp, fun v hv => by cases hv⟩ (fun i Hh _ h => ?_) (fun i u Hh hu h => ?_) (fun Hh h => ?_)
        · obtain ⟨acc, s5, _⟩ := h.o
          exact seqL_of (s5 _ _ gfa)
        · obtain ⟨acc, s5, gD, lacc, hacc⟩ := h.o
          obtain ⟨l, ns, rfl, gl, ln⟩ := hfs u (List.mem_of_getElem? hu)
          have li := (List.getElem?_eq_some_iff.mp hu).1
          have gl5 := s5 _ _ gl
          have gc5 := s5 _ _ gc4
          walk_at "sq go"
          refine it_list (K := K) (a := c) (xs := iv ks) (fun t H6 => Keep (∃ acc : List V, Same H2 H6 ∧ H6 D = some (.lst acc) ∧ acc.length ≤ i * 2 + t ∧ ∀ v ∈ acc, ∃ (l : Addr) (ns : List Int), v = .ref l ∧ l ≠ D ∧ H6 l = some (.lst (iv ns)) ∧ ns.length = j + 1)) ⟨acc, s5, gD, lacc, hacc⟩ (fun t H6 _ h => ?_) (fun t r H6 hr2 h => ?_) (fun H6 h => ?_)
          · obtain ⟨acc, s6, _⟩ := h.o
            exact seqL_of (s6 _ _ gc4)
          · obtain ⟨acc, s6, gD6, lacc6, hacc6⟩ := h.o
            obtain ⟨rv, hrv, rfl⟩ := iv_get hr2
            have lt2 := (List.getElem?_eq_some_iff.mp hrv).1
            have gl6 := s6 _ _ gl
            have hl6 := seqL_of (K := K) gl6
            have lz : acc.length < sizeLine := small1000 (by omega)
            have lz2 : (iv ns ++ [V.int rv]).length ≤ sizeLine := by
              rw [List.length_append, iv_len, sizeLine_eq]
              simp only [List.length_singleton]
              omega
            walk_at "sq go"
            intro q nq
            have nDq : D ≠ q := ne_new gD6 nq
            refine ⟨acc, upd_keep nq gD6, lz, ⟨acc ++ [.ref q], same_put (s6.trans (same_new nq)) nD, upd_same, by rw [List.length_append, List.length_singleton]; omega, fun v hv => ?_⟩⟩
            rcases List.mem_append.mp hv with z | z
            · obtain ⟨l2, ns2, e, nl2, g, ln2⟩ := hacc6 v z
              exact ⟨l2, ns2, e, nl2, (upd_ne nl2).trans (upd_keep nq g), ln2⟩
            · refine ⟨q, ns ++ [rv], List.mem_singleton.mp z, nDq.symm, (upd_ne nDq.symm).trans ?_, by simp [ln]⟩
              rw [upd_same, iv_app]
          · obtain ⟨acc, s6, gD6, lacc6, hacc6⟩ := h.o
            rw [iv_len] at lacc6
            exact ⟨acc, s6, gD6, by omega, hacc6⟩
        · obtain ⟨acc, s5, gD, lacc, hacc⟩ := h.o
          walk_at "sq go"
          exact ⟨D, acc, _, _, _, rfl, s4.trans s5, s13.free (s4.free nD), gD, by omega, fun v hv => by
            obtain ⟨l, ns, e, _, g, ln⟩ := hacc v hv
            exact ⟨l, ns, e, g, ln⟩⟩
      · obtain ⟨fa, fs, y6, y8, y9, rfl, s4, nfa, gfa, lfs, hfs⟩ := h.o
        have p2 : 2 ^ cs.length ≤ 2 ^ 6 := Nat.pow_le_pow_right (by decide) (by omega)
        walk_at "sq go"
        have nC : β.Hc fa = none := nfa
        refine gfor1_list (K := K) (a := fa) (xs := fs) (fun i cnt β' σ H => Keep (∃ y6 y7 y8 y9, σ = [some (.int k), some (.int m0), some (.ref ch), some (.int R), x, some (.ref fa), y6, y7, y8, y9] ∧ cnt + i = 2001 ∧ H fa = some (.lst fs) ∧ (∀ x c, (envOfC "best_lists" (defScope s_best_lists) L f cdv).cells.lookup x = some c → β'.Hc c = some (cellX c) ∨ β'.Hc c = none) ∧ β'.Hc fa = none ∧
          ∀ b u, b ≠ fa → (∀ x, (envOfC "best_lists" (defScope s_best_lists) L f cdv).cells.lookup x ≠ some b) → β'.Hc b = some u → H b = some u)) ⟨_, _, _, _, rfl, rfl, gfa, fun x c e => .inr (cz x c e), nfa, fun b u _ _ e => s4 _ _ (s13 _ _ e)⟩ (fun i cnt β σ H _ h => ?_) (fun i v cnt β σ H hv h => ?_) (fun cnt β σ H h => ?_)
        · obtain ⟨_, _, _, _, _, _, g, _⟩ := h.o
          exact seqL_of g
        · obtain ⟨y6, y7, y8, y9, rfl, ec, g3, cl3, n3, s3⟩ := h.o
          obtain ⟨l, ns, rfl, _⟩ := hfs v (List.mem_of_getElem? hv)
          have li := (List.getElem?_eq_some_iff.mp hv).1
          walk_at "sq go"
          have ky : ∀ i, i < 10 → i ∈ [6, 8, 9] ∨ (envOfC "best_lists" (defScope s_best_lists) L f cdv).kindOf ((["steps", "most", "choices", "reached", "step", "found", "choice", "replacements", "start", "replacement"] : List Str).getD i "") = some .local := by
            show ∀ i, i < 10 → i ∈ [6, 8, 9] ∨ (defScope s_best_lists).names.lookup ((["steps", "most", "choices", "reached", "step", "found", "choice", "replacements", "start", "replacement"] : List Str).getD i "") = some .local
            decide +kernel
          refine ⟨cnt - 1, [fa], [some (.int k), some (.int m0), some (.ref ch), some (.int R), x, some (.ref fa), none, some (.ref l), none, none], by omega, rfl, fun j v e => ?_, fun b hb => ?_, nocv_but [6, 8, 9] (fun j hj v => ?_) ky, ⟨⟨k0, m1⟩, see_had (fun b hb => by rw [List.mem_singleton.mp hb]; exact n3) cl3 fun b u hb hx e => s3 b u (fun z => hb (List.mem_singleton.mpr z)) hx e, _, rfl⟩, fun β2 z2 nz hH2 rq2 => ?_⟩
          · match j, e with
            | 0, e => exact e
            | 1, e => exact e
            | 2, e => exact e
            | 3, e => exact e
            | 4, e => exact e
            | 5, e => exact e
            | 6, e => cases e
            | 7, e => exact e
            | 8, e => cases e
            | 9, e => cases e
            | j + 10, e => cases e
          · rw [List.mem_singleton.mp hb]
            exact ⟨⟨_, g3⟩, .inr n3⟩
          · rcases List.mem_cons.mp hj with rfl | hj
            · exact fun z => nomatch z
            · rcases List.mem_cons.mp hj with rfl | hj
              · exact fun z => nomatch z
              · rw [List.mem_singleton.mp hj]
                exact fun z => nomatch z
          · have n2 := nz.hid fa (List.mem_singleton.mpr rfl)
            rw [hH2]
            refine ⟨_, _, _, _, rfl, by omega, ?_, nz.cells, n2, fun b u hb hx e => ?_⟩
            · rw [ovl_hid (List.mem_singleton.mpr rfl)]
              exact g3
            · rw [ovl_off (fun z => hb (List.mem_singleton.mp z)) hx]
              exact e
        · obtain ⟨y6, y7, y8, y9, rfl, ec, g3, cl3, n3, s3⟩ := h.o
          show (blOut CN k m0).fin cnt β.Hc (seeC _ [] H)
          exact ⟨⟨k0, m1⟩, see_had (fun b hb => by cases hb) cl3 fun b u _ hx e => s3 b u (fun z => by rw [z, n3] at e; cases e) hx e⟩

/-! ### the source of draws (a list: great cells, the digits left, a mix, a count) -/
def RB (r d : Addr) (N : Int) (ds : List Int) (a mix n : Int) (H : Hp) : Prop :=
  H r = some (.lst [.ref d, .int a, .int mix, .int n]) ∧ H d = some (.lst (iv ds)) ∧ d ≠ r ∧ 0 ≤ mix ∧ mix < 2305843009213693952 ∧ 0 ≤ n ∧ n ≤ N
def rgB (r d : Addr) (N : Int) : Rg where
  I := fun H => ∃ ds a mix n, RB r d N ds a mix n H
  S := fun x => x = r ∨ x = d
  loc := fun H H' e ⟨ds, a, mix, n, h1, h2, h3⟩ => ⟨ds, a, mix, n, (e r (.inl rfl)).trans h1, (e d (.inr rfl)).trans h2, h3⟩
  has := fun H x ⟨ds, a, mix, n, h1, h2, _⟩ hx => by
    rcases hx with rfl | rfl
    · rw [h1]; exact fun z => nomatch z
    · rw [h2]; exact fun z => nomatch z
/-- the source is drawn from: all else stands -/
theorem SepB.redo {r d : Addr} {N N' : Int} {G H H' : Hp} (s : Sep (rgB r d N) G H) (e : ∀ b o, b ≠ r → b ≠ d → H b = some o → H' b = some o) (h : ∃ ds a mix n, RB r d N' ds a mix n H') : Sep (rgB r d N') G H' := by
  refine ⟨h, fun b o q => ?_, s.off⟩
  have nr : b ≠ r := fun z => by
    have := s.off b (.inl z)
    rw [q] at this
    cases this
  have nd : b ≠ d := fun z => by
    have := s.off b (.inr z)
    rw [q] at this
    cases this
  exact e b o nr nd (s.same b o q)
theorem SepB.mono {r d : Addr} {N N' : Int} {G H : Hp} (s : Sep (rgB r d N) G H) (h : N ≤ N') : Sep (rgB r d N') G H := by
  obtain ⟨ds, a, mix, n, h1, h2, h3, h4, h5, h6, h7⟩ := s.inv
  exact SepB.redo s (fun _ _ _ _ z => z) ⟨ds, a, mix, n, h1, h2, h3, h4, h5, h6, by omega⟩
abbrev s_law_source : Stmt := topS 32
theorem sc_law_source : FnScope ["script", "mix", "digits", "cell", "span"] ["script"] (defScope s_law_source) := ⟨rfl, rfl, rfl, by decide +kernel, rfl, by decide +kernel, by decide +kernel⟩

def spSource (K : PySem.W.Frag) : Sp := fun vs H Q _ => ∃ (p : Addr) (ns : List Int), vs = [.ref p] ∧ SqL K H p (iv ns) ∧ ns.length ≤ 63 ∧ ∀ r d H', Same H H' → Sep (rgB r d 0) H H' → Q (.ref r) H'
theorem cal_source (D : DefAt K mg "_law_source" s_law_source ["script"]) (B : Bt mg) : Cal P w K mg base 1 "_law_source" (spSource K) [] := by
  refine D.cal sc_law_source (fun vs H Q E h => ?_) (fun f cdv A outer s H vs Q E hr h => ?_)
  · obtain ⟨p, ns, rfl, _⟩ := h
    rfl
  · obtain ⟨p, ns, rfl, hS, hl, q⟩ := h
    refine ⟨_, (pss_cons (ps_set (i := 1) sc_law_source.nd rfl (Or.inl rfl) pe_int)
  (pss_cons (ps_set (i := 2) sc_law_source.nd rfl (Or.inl rfl) (pe_lst pa_nil))
  (pss_cons (ps_for PassesOwn.never rfl (pi_listK (K := K) (pv 0)) (pg_name (i := 3) sc_law_source.nd rfl (Or.inl rfl))
   (pss_cons (ps_set (i := 1) sc_law_source.nd rfl (Or.inl rfl) (pe_op op_mod (pe_op op_add (pe_op op_mulW (pv 1) pe_int) (pv 3)) (pe_op op_sub (pe_op op_powW pe_int pe_int) pe_int)))
  (pss_cons (ps_set (i := 4) sc_law_source.nd rfl (Or.inl rfl) (pe_callB (call_max2 rfl) (by rfl) B.max (by decide +kernel) (pa_cons (pv 3) (pa_cons (pe_op op_sub pe_int (pv 3)) pa_nil))))
  (pss_one (ps_if (pt_cmpR op_ge (pv 4) (pe_op op_powW pe_int pe_int) (nomark _)) (pss_one (ps_expr (pe_bm PySem.F.plainAttrs_list PySem.F.slot_list_append PySem.F.type_list_append mt_append (pv 2) (pa_cons (pe_op op_sub (pv 4) (pe_op op_powW pe_int pe_int)) pa_nil)))) pss_nil)))))
  (pss_one (ps_ret (pe_lst (pa_cons (pv 2) (pa_cons pe_int (pa_cons (pv 1) (pa_cons pe_int pa_nil)))))))))), ?_⟩
    walk_at "sq go"
    intro d nd
    have s1 : Same H (upd H d (.lst [])) := same_new nd
    have npd : ∀ H' : Hp, Same H H' → SqL K H' p (iv ns) := fun H' s => s.seq hS
    walk_at "sq go"
    refine for_list (K := K) (a := p) (xs := iv ns) (fun i σ H' => Keep (∃ ds mix y z, σ = [some (.ref p), some (.int mix), some (.ref d), y, z] ∧ H' = upd H d (.lst (iv ds)) ∧ ds.length ≤ i ∧ 0 ≤ mix ∧ mix < 2305843009213693952))
      ⟨[], 271828182845904, none, none, rfl, rfl, Nat.le_refl _, by decide, by decide⟩ (fun i σ H' _ h => ?_) (fun i x σ H' hx h => ?_) (fun σ H' h => ?_)
    · obtain ⟨ds, mix, y, z, _, rfl, _⟩ := h.o
      exact npd _ (same_new nd)
    · obtain ⟨ds, mix, y, z, rfl, rfl, hds, h0, h1⟩ := h.o
      obtain ⟨n, hn, rfl⟩ := iv_get hx
      have hi : i < ns.length := (List.getElem?_eq_some_iff.mp hn).1
      have hm : CMulW mix 1000033 := Sm.wide (a := 61) (b := 20) (by unfold Sm; omega) (by unfold Sm; decide) (by decide) (by decide) (by decide)
      have e61 : (2 : Int) ^ (61 : Int).toNat - 1 = 2305843009213693951 := by decide
      walk_at "sq go"
      have m0 := Int.emod_nonneg (mix * 1000033 + n) (show (2 : Int) ^ (61 : Int).toNat - 1 ≠ 0 by rw [e61]; decide)
      have m1 := Int.emod_lt_of_pos (mix * 1000033 + n) (show 0 < (2 : Int) ^ (61 : Int).toNat - 1 by rw [e61]; decide)
      rw [e61] at m1
      refine ifD (fun c => ?_) (fun c => ?_)
      · walk_at "sq go"
        rw [upd_upd, iv_app]
        exact ⟨_, _, _, _, rfl, rfl, by rw [List.length_append, List.length_singleton]; omega, m0, by rw [e61]; omega⟩
      · exact ⟨ds, _, _, _, rfl, rfl, by omega, m0, by rw [e61]; omega⟩
    · obtain ⟨ds, mix, y, z, rfl, rfl, hds, h0, h1⟩ := h.o
      walk_at "sq go"
      intro r nr
      have ndr : d ≠ r := fun e => by
        rw [← e, upd_same] at nr
        cases nr
      have s2 : Same H (upd H d (.lst (iv ds))) := same_new nd
      refine q r d _ (s2.trans (same_new nr)) ⟨⟨ds, 0, mix, 0, upd_same, by rw [upd_ne ndr, upd_same], ndr, h0, by omega, by decide, by decide⟩, s2.trans (same_new nr), fun a ha => ?_⟩
      rcases ha with rfl | rfl
      · exact s2.free nr
      · exact nd

abbrev s_law_draw : Stmt := topS 33
theorem sc_law_draw : FnScope ["source", "many", "drawn", "mixed"] ["source", "many"] (defScope s_law_draw) := ⟨rfl, rfl, rfl, by decide +kernel, rfl, by decide +kernel, by decide +kernel⟩

def spDraw : Sp := fun vs H Q _ => ∃ (r d : Addr) (m N : Int) (G : Hp), vs = [.ref r, .int m] ∧ Sep (rgB r d N) G H ∧ Keep (0 < m ∧ m < 2 ^ 240 ∧ N < 2 ^ 60) ∧ ∀ v H', 0 ≤ v → v < m → Sep (rgB r d (N + 1)) G H' → Q (.int v) H'
theorem cal_draw (D : DefAt K mg "_law_draw" s_law_draw ["source", "many"]) (B : Bt mg) : Cal P w K mg base 1 "_law_draw" spDraw [] := by
  refine D.cal sc_law_draw (fun vs H Q E h => ?_) (fun f cdv A outer s H vs Q E hr h => ?_)
  · obtain ⟨r, d, m, N, G, rfl, _⟩ := h
    rfl
  · obtain ⟨r, d, m, N, G, rfl, hS, ⟨hm, hmb, hN⟩, q⟩ := h
    have hmz : m.natAbs.log2 < 9000 := Nat.lt_trans ((show Sm 240 m by unfold Sm; omega).lg (by decide)) (by decide)
    obtain ⟨ds0, a0, mix, n, hr0, hd0, ndr, h0, h1, n0, n1⟩ := id hS.inv
    refine ⟨_, (pss_cons (ps_while PassesOwn.never (PW.pt (pw_and (pt_cmpR op_lt (pe_ix (ix_listK (K := K)) (pv 0) pe_int (fun _ _ => rfl)) pe_int (nomark _)) (pw_and1 (pt_cmpR (op_neDK (K := K) hr.units) (pe_ix (ix_listK (K := K)) (pv 0) pe_int (fun _ _ => rfl)) (pe_lst pa_nil) (nomark _)))))
   (pss_one (ps_asg (pe_bm PySem.F.plainAttrs_list PySem.F.slot_list_pop PySem.F.type_list_pop mt_popAt (pe_ix (ix_listK (K := K)) (pv 0) pe_int (fun _ _ => rfl)) (pa_cons pe_int pa_nil)) (pg_sub (pv 0) pe_int set_list))))
  (pss_cons (ps_if (pt_cmpR op_ge (pe_ix (ix_listK (K := K)) (pv 0) pe_int (fun _ _ => rfl)) pe_int (nomark _)) (pss_cons (ps_set (i := 2) sc_law_draw.nd rfl (Or.inl rfl) (pe_op op_mod (pe_ix (ix_listK (K := K)) (pv 0) pe_int (fun _ _ => rfl)) (pv 1)))
  (pss_cons (ps_asg (pe_op op_fdivW (pe_ix (ix_listK (K := K)) (pv 0) pe_int (fun _ _ => rfl)) (pv 1)) (pg_sub (pv 0) pe_int set_list))
  (pss_one (ps_ret (pv 2))))) pss_nil)
  (pss_cons (ps_asg (pe_op op_add (pe_ix (ix_listK (K := K)) (pv 0) pe_int (fun _ _ => rfl)) pe_int) (pg_sub (pv 0) pe_int set_list))
  (pss_cons (ps_set (i := 3) sc_law_draw.nd rfl (Or.inl rfl) (pe_op op_mulW (pe_op op_add (pe_ix (ix_listK (K := K)) (pv 0) pe_int (fun _ _ => rfl)) pe_int) (pe_op op_powW (pe_op op_add (pe_ix (ix_listK (K := K)) (pv 0) pe_int (fun _ _ => rfl)) pe_int) pe_int)))
  (pss_cons (ps_set (i := 3) sc_law_draw.nd rfl (Or.inl rfl) (pe_op op_mod (pe_op op_add (pv 3) (pe_op op_mulW pe_int (pe_ix (ix_listK (K := K)) (pv 0) pe_int (fun _ _ => rfl)))) (pe_op op_sub (pe_op op_powW pe_int pe_int) pe_int)))
  (pss_one (ps_ret (pe_op op_mod (pe_op op_fdivW (pe_op op_mod (pe_op op_powW (pv 3) pe_int) (pe_op op_add (pe_op op_powW pe_int pe_int) pe_int)) pe_int) (pv 1))))))))), ?_⟩
    refine ⟨fun k σ H' => Keep (∃ ds a, σ = [some (.ref r), some (.int m), none, none] ∧ k = ds.length ∧ RB r d N ds a mix n H' ∧ ∀ b o, b ≠ r → b ≠ d → H b = some o → H' b = some o), ⟨_, ds0, a0, rfl, rfl, ⟨hr0, hd0, ndr, h0, h1, n0, n1⟩, fun _ _ _ _ z => z⟩, fun k σ H' h => ?_⟩
    obtain ⟨ds, a, rfl, rfl, ⟨gr, gd, _⟩, ge⟩ := h.o
    clear h
    have cm : CDivW a m := ⟨hm, hmz⟩
    have p3 : CPowW (n + 1 + 3) 3 := ⟨by decide, by decide, Nat.lt_trans ((show Sm 61 (n + 1 + 3) by unfold Sm; omega).lg (by decide)) (by decide)⟩
    have m3 : CMulW (mix + 7) ((n + 1 + 3) ^ (3 : Int).toNat) := by
      have e1 : Sm 62 (mix + 7) := by unfold Sm; omega
      have e2 : Sm 61 (n + 1 + 3) := by unfold Sm; omega
      have e3 : (n + 1 + 3) ^ (3 : Int).toNat = (n + 1 + 3) * (n + 1 + 3) * (n + 1 + 3) := by
        show (n + 1 + 3) ^ 3 = _
        rw [Int.pow_succ, Int.pow_succ, Int.pow_succ, Int.pow_zero, Int.one_mul]
      rw [e3]
      exact e1.wide ((e2.mul e2).mul e2) (by decide) (by decide) (by decide)
    have m4 : CMulW 1000081 (n + 1) := Sm.wide (a := 20) (b := 61) (by unfold Sm; decide) (by unfold Sm; omega) (by decide) (by decide) (by decide)
    have e61 : (2 : Int) ^ (61 : Int).toNat - 1 = 2305843009213693951 := by decide
    have p5 : CPowW (((mix + 7) * (n + 1 + 3) ^ (3 : Int).toNat + 1000081 * (n + 1)) % (2 ^ (61 : Int).toNat - 1)) 5 := by
      rw [e61]
      generalize (mix + 7) * (n + 1 + 3) ^ (3 : Int).toNat + 1000081 * (n + 1) = y
      exact ⟨by decide, by decide, Nat.lt_trans ((show Sm 61 (y % 2305843009213693951) by unfold Sm; omega).lg (by decide)) (by decide)⟩
    walk_at "sq go"
    refine ifD (fun c => ?_) (fun c => ?_)
    · walk_at "sq go"
      intro e ne
      refine r_neI (xs := ds) (ys := []) (by walk_at "sq sql") (by walk_at "sq sql") ?_
      walk_at "sq go"
      have ge2 : ∀ b o, b ≠ r → b ≠ d → H b = some o → upd H' e (.lst []) b = some o := fun b o h1 h2 z => upd_keep ne (ge b o h1 h2 z)
      have gr2 := upd_keep (o := .lst []) ne gr
      have gd2 := upd_keep (o := .lst []) ne gd
      generalize upd H' e (.lst []) = H2 at ge2 gr2 gd2
      clear ge gr gd ne
      refine ifN (fun c2 => ?_) (fun c2 => ?_)
      · obtain ⟨x, rest, rfl⟩ : ∃ x rest, ds = x :: rest := by
          cases ds with
          | nil => exact absurd rfl c2
          | cons x rest => exact ⟨x, rest, rfl⟩
        refine ⟨fun σ' H3 => Keep (σ' = [some (.ref r), some (.int m), none, none] ∧ RB r d N rest x mix n H3 ∧ ∀ b o, b ≠ r → b ≠ d → H b = some o → H3 b = some o), fun σ' H3 h3 => ?_, ?_⟩
        · obtain ⟨e1, e2, e3⟩ := h3.o
          exact ⟨rest.length, by rw [List.length_cons]; omega, rest, x, e1, rfl, e2, e3⟩
        · walk_at "sq go"
          refine ⟨seqIx0 (by simp), ?_⟩
          walk_at "sq go"
          exact ⟨rfl, ⟨upd_same, by rw [upd_ne ndr, upd_same]; rfl, ndr, h0, h1, n0, n1⟩, fun b o k1 k2 z => upd_off k1 (upd_off k2 (ge2 b o k1 k2 z))⟩
      · have gd := gd2
        have gr := gr2
        have ge := ge2
        walk_at "sq go"
        refine ifD (fun c4 => ?_) (fun c4 => ?_)
        · walk_at "sq go"
          have v0 := Int.emod_nonneg a (show m ≠ 0 by omega)
          have v1 := Int.emod_lt_of_pos a hm
          refine q _ _ v0 v1 (SepB.redo hS (fun b o k1 k2 z => upd_off k1 (ge b o k1 k2 z)) ⟨ds, a / m, mix, n, upd_same, ?_, ndr, h0, h1, n0, by omega⟩)
          rw [upd_ne ndr]
          exact gd
        · walk_at "sq go"
          have v0 : ∀ y : Int, 0 ≤ y % m := fun y => Int.emod_nonneg y (show m ≠ 0 by omega)
          have v1 : ∀ y : Int, y % m < m := fun y => Int.emod_lt_of_pos y hm
          refine q _ _ (v0 _) (v1 _) ?_
          refine SepB.redo hS (fun b o k1 k2 z => upd_off k1 (ge b o k1 k2 z)) ⟨ds, a, mix, n + 1, upd_same, ?_, ndr, h0, h1, by omega, by omega⟩
          rw [upd_ne ndr]
          exact gd
    · skip
      walk_at "sq go"
      refine ifD (fun c4 => ?_) (fun c4 => ?_)
      · walk_at "sq go"
        have v0 := Int.emod_nonneg a (show m ≠ 0 by omega)
        have v1 := Int.emod_lt_of_pos a hm
        refine q _ _ v0 v1 (SepB.redo hS (fun b o k1 k2 z => upd_off k1 (ge b o k1 k2 z)) ⟨ds, a / m, mix, n, upd_same, ?_, ndr, h0, h1, n0, by omega⟩)
        rw [upd_ne ndr]
        exact gd
      · walk_at "sq go"
        have v0 : ∀ y : Int, 0 ≤ y % m := fun y => Int.emod_nonneg y (show m ≠ 0 by omega)
        have v1 : ∀ y : Int, y % m < m := fun y => Int.emod_lt_of_pos y hm
        refine q _ _ (v0 _) (v1 _) ?_
        refine SepB.redo hS (fun b o k1 k2 z => upd_off k1 (ge b o k1 k2 z)) ⟨ds, a, mix, n + 1, upd_same, ?_, ndr, h0, h1, by omega, by omega⟩
        rw [upd_ne ndr]
        exact gd

abbrev s_law_row : Stmt := topS 35
theorem sc_law_row : FnScope ["source", "many", "wide", "way", "again", "found", "time", "some"] ["source", "many", "wide"] (defScope s_law_row) := ⟨rfl, rfl, rfl, by decide +kernel, rfl, by decide +kernel, by decide +kernel⟩

/-- replacements from 2 to wide -/
def Row (ns : List Int) (wide : Int) : Prop := ∀ k ∈ ns, (2 : Int) ≤ k ∧ k ≤ wide
def spRow : Sp := fun vs H Q _ => ∃ (r d : Addr) (many wide N : Int) (G : Hp), vs = [.ref r, .int many, .int wide] ∧ Sep (rgB r d N) G H ∧ Keep (0 ≤ many ∧ many ≤ 100 ∧ 2 ≤ wide ∧ wide < 2 ^ 100 ∧ N < 2 ^ 59) ∧
  ∀ p ns H', G p = none → ns.length ≤ many.toNat → Row ns wide → Sep (rgB r d (N + 203)) (upd G p (.lst (iv ns))) H' → Q (.ref p) H'
theorem cal_row (D : DefAt K mg "_law_row" s_law_row ["source", "many", "wide"]) (B : Bt mg) (c_law_draw : Cal P w K mg base 1 "_law_draw" spDraw []) : Cal P w K mg base 2 "_law_row" spRow [] := by
  refine D.cal sc_law_row (fun vs H Q E h => ?_) (fun f cdv A outer s H vs Q E hr h => ?_)
  · obtain ⟨r, d, many, wide, N, G, rfl, _⟩ := h
    rfl
  · obtain ⟨r, d, many, wide, N, G, rfl, hS, ⟨m0, m1, w2, wb, hN⟩, q⟩ := h
    refine ⟨_, (pss_cons (ps_par (i := 3) (j := 4) rfl sc_law_row.nd rfl rfl (by decide) rfl rfl (pa_cons (pe_c c_law_draw hr (by first | decide | omega) (by rfl) (pa_cons (pv 0) (pa_cons pe_int pa_nil))) (pa_cons (pe_op op_add pe_int (pe_c c_law_draw hr (by first | decide | omega) (by rfl) (pa_cons (pv 0) (pa_cons (pe_op op_sub (pv 2) pe_int) pa_nil)))) pa_nil)) (by rfl))
  (pss_cons (ps_set (i := 5) sc_law_row.nd rfl (Or.inl rfl) (pe_lst pa_nil))
  (pss_cons (ps_for PassesOwn.never rfl (pi_range1 (by rfl) B.range (pa_cons (pe_c c_law_draw hr (by first | decide | omega) (by rfl) (pa_cons (pv 0) (pa_cons (pe_op op_add (pv 1) pe_int) pa_nil))) pa_nil)) (pg_name (i := 6) sc_law_row.nd rfl (Or.inl rfl))
   (pss_cons (ps_set (i := 7) sc_law_row.nd rfl (Or.inl rfl) (pe_lst (pa_cons (pe_op op_add pe_int (pe_c c_law_draw hr (by first | decide | omega) (by rfl) (pa_cons (pv 0) (pa_cons (pe_op op_sub (pv 2) pe_int) pa_nil)))) (pa_cons (pe_op op_add pe_int (pe_c c_law_draw hr (by first | decide | omega) (by rfl) (pa_cons (pv 0) (pa_cons (pe_callB (call_min2 rfl) (by rfl) B.min (by decide +kernel) (pa_cons pe_int (pa_cons (pe_op op_sub (pv 2) pe_int) pa_nil))) pa_nil)))) (pa_cons (pv 4) pa_nil)))))
  (pss_one (ps_expr (pe_bm PySem.F.plainAttrs_list PySem.F.slot_list_append PySem.F.type_list_append mt_append (pv 5) (pa_cons (pe_ix (ix_listK (K := K)) (pv 7) (pv 3) (fun _ _ => rfl)) pa_nil))))))
  (pss_one (ps_ret (pv 5)))))), ?_⟩
    walk_at "sq go"
    refine ⟨⟨by omega, by omega, by omega⟩, fun way H1 y0 y1 hS1 => ?_⟩
    walk_at "sq go"
    refine ⟨⟨by omega, by omega, by omega⟩, fun ag H2 a0 a1 hS2 => ?_⟩
    walk_at "sq go"
    intro p np
    have gp : G p = none := hS2.free np
    have hS3 := hS2.new np (.lst [])
    walk_at "sq go"
    refine ⟨⟨by omega, by omega, by omega⟩, fun tn H3 t0 t1 hS4 => ?_⟩
    walk_at "sq go"
    refine for_range (lo := 0) (n := tn.toNat) (fun i σ H' => Keep (∃ ns x y, σ = [some (.ref r), some (.int many), some (.int wide), some (.int way), some (.int (2 + ag)), some (.ref p), x, y] ∧ Sep (rgB r d (N + 3 + 2 * i)) (upd G p (.lst (iv ns))) H' ∧ ns.length = i ∧ Row ns wide))
      ⟨[], none, none, rfl, SepB.mono hS4 (by omega), rfl, fun _ z => nomatch z⟩ (fun i σ H' hi h => ?_) (fun σ H' h => ?_)
    · obtain ⟨ns, x, y, rfl, hs, hl, hrow⟩ := h.o
      walk_at "sq go"
      refine ⟨⟨by omega, by omega, by omega⟩, fun b1 K1 b10 b11 hs1 => ?_⟩
      walk_at "sq go"
      refine ⟨⟨by split <;> omega, by split <;> omega, by omega⟩, fun b2 K2 b20 b21 hs2 => ?_⟩
      walk_at "sq go"
      intro e ne
      have hs3 := hs2.on (same_new (o := .lst [.int (2 + b1), .int (2 + b2), .int (2 + ag)]) ne)
      have hb2 : 2 + b2 ≤ wide := by
        split at b21 <;> omega
      have pick : ∃ v, atI [V.int (2 + b1), V.int (2 + b2), V.int (2 + ag)] way = some (.int v) ∧ 2 ≤ v ∧ v ≤ wide := by
        rcases (show way = 0 ∨ way = 1 ∨ way = 2 by omega) with z | z | z <;> rw [z]
        · exact ⟨_, atI_nat (j := 0) rfl, by omega, by omega⟩
        · exact ⟨_, atI_nat (j := 1) rfl, by omega, by omega⟩
        · exact ⟨_, atI_nat (j := 2) rfl, by omega, by omega⟩
      obtain ⟨v, ev, v2, vw⟩ := pick
      have hp : upd K2 e (.lst [.int (2 + b1), .int (2 + b2), .int (2 + ag)]) p = some (.lst (iv ns)) := hs3.get upd_same
      have hs4 := hs3.put upd_same (.lst (iv ns ++ [.int v]))
      rw [upd_upd, iv_app] at hs4
      walk_at "sq go"
      refine ⟨ns ++ [v], _, _, rfl, ?_, by simp [hl], fun k hk => ?_⟩
      · rw [iv_app]
        exact SepB.mono hs4 (by omega)
      · rcases List.mem_append.mp hk with z | z
        · exact hrow k z
        · rw [List.mem_singleton.mp z]
          exact ⟨v2, vw⟩
    · obtain ⟨ns, x, y, rfl, hs, hl, hrow⟩ := h.o
      walk_at "sq go"
      exact q p ns H' gp (by omega) hrow (SepB.mono hs (by omega))

abbrev s_law_same : Stmt := topS 34
theorem sc_law_same : FnScope ["found", "wanted", "k"] ["found", "wanted"] (defScope s_law_same) := ⟨rfl, rfl, rfl, by decide +kernel, rfl, by decide +kernel, by decide +kernel⟩

mutual
def plain : PyData → Bool
  | .none => true
  | .bool _ => true
  | .int _ => true
  | .str x => PyData.canLay0 (.str x)
  | .list xs => decide (xs.length ≤ 1000000) && plainAll xs
  | .tuple _ => false
  | .dict _ => false
def plainAll : List PyData → Bool
  | [] => true
  | x :: xs => plain x && plainAll xs
end
theorem plain_get : ∀ (ds : List PyData) (i : Nat) (d : PyData), plainAll ds = true → ds[i]? = some d → plain d = true
  | [], _, _, _, e => by simp at e
  | x :: r, i, d, h, e => by
    simp only [plainAll, Bool.and_eq_true] at h
    cases i with
    | zero =>
      have z : x = d := by simpa using e
      rw [← z]
      exact h.1
    | succ i => exact plain_get r i d h.2 (by simpa using e)
theorem depth_get : ∀ (ds : List PyData) (i : Nat) (d : PyData), ds[i]? = some d → d.depth ≤ PyData.depthAll ds
  | [], _, _, e => by simp at e
  | x :: r, i, d, e => by
    simp only [PyData.depthAll]
    cases i with
    | zero =>
      have z : x = d := by simpa using e
      rw [← z]
      exact Nat.le_max_left _ _
    | succ i => exact Nat.le_trans (depth_get r i d (by simpa using e)) (Nat.le_max_right _ _)
/-- x and y hold the same data d, of depth n at most -/
def Alike (K : PySem.W.Frag) (H : Hp) (n : Nat) (x y : V) : Prop := ∃ d, Dp K H x d ∧ Dp K H y d ∧ plain d = true ∧ d.depth ≤ n
def spSame (K : PySem.W.Frag) (n : Nat) : Sp := fun vs H Q _ => ∃ x y, vs = [x, y] ∧ Keep (Alike K H n x y) ∧ ∀ H', Same H H' → Q (.bl true) H'
theorem cal_same0 (D : DefAt K mg "_law_same" s_law_same ["found", "wanted"]) : Cal P w K mg base 1 "_law_same" (fun _ _ _ _ => False) [] := by
  refine D.cal sc_law_same (fun vs H Q E h => ?_) (fun f cdv A outer s H vs Q E hr h => ?_)
  · exact h.elim
  · exact h.elim
theorem cal_same1 (D : DefAt K mg "_law_same" s_law_same ["found", "wanted"]) (B : Bt mg) {k n : Nat} {sp : Sp} (c_law_same : Cal P w K mg base k "_law_same" sp [])
    (hsp : ∀ (x y : V) (H : Hp) (Q : VK) (E : XK) (m : Nat), Alike K H m x y → m < n → (∀ H', Same H H' → Q (.bl true) H') → sp [x, y] H Q E) : Cal P w K mg base (k + 1) "_law_same" (spSame K n) [] := by
  refine D.cal sc_law_same (fun vs H Q E h => ?_) (fun f cdv A outer s H vs Q E hr h => ?_)
  · obtain ⟨x, y, rfl, _⟩ := h
    rfl
  · obtain ⟨x, y, rfl, ⟨d, hx, hy, hc, hd⟩, q⟩ := h
    refine ⟨_, (pss_cons (ps_if (pt_cmpR op_isN (pv 1) pe_non (nomark _)) (pss_one (ps_ret (pe_cmpR op_isN (pv 0) pe_non (nomark _)))) pss_nil)
  (pss_cons (ps_if (pt_val (pe_callB (isiK (K := K)) (by rfl) B.isinstance (by decide +kernel) (pa_cons (pv 1) (pa_cons (pe_bltn (v := .ty "bool") (by rfl) B.bool (by decide +kernel) rfl) pa_nil)))) (pss_one (ps_ret (pe_and (pe_callB (isiK (K := K)) (by rfl) B.isinstance (by decide +kernel) (pa_cons (pv 0) (pa_cons (pe_bltn (v := .ty "bool") (by rfl) B.bool (by decide +kernel) rfl) pa_nil))) (pe_one (pe_cmpR (op_eqDK (K := K) hr.units) (pv 0) (pv 1) (nomark _)))))) pss_nil)
  (pss_cons (ps_if (pt_val (pe_callB (isiK (K := K)) (by rfl) B.isinstance (by decide +kernel) (pa_cons (pv 1) (pa_cons (pe_bltn (v := .ty "int") (by rfl) B.int (by decide +kernel) rfl) pa_nil)))) (pss_one (ps_ret (pe_and (pe_callB (isiK (K := K)) (by rfl) B.isinstance (by decide +kernel) (pa_cons (pv 0) (pa_cons (pe_bltn (v := .ty "int") (by rfl) B.int (by decide +kernel) rfl) pa_nil))) (pe_and (pe_not (pe_callB (isiK (K := K)) (by rfl) B.isinstance (by decide +kernel) (pa_cons (pv 0) (pa_cons (pe_bltn (v := .ty "bool") (by rfl) B.bool (by decide +kernel) rfl) pa_nil)))) (pe_one (pe_cmpR (op_eqDK (K := K) hr.units) (pv 0) (pv 1) (nomark _))))))) pss_nil)
  (pss_cons (ps_if (pt_val (pe_callB (isiK (K := K)) (by rfl) B.isinstance (by decide +kernel) (pa_cons (pv 1) (pa_cons (pe_bltn (v := .ty "str") (by rfl) B.str (by decide +kernel) rfl) pa_nil)))) (pss_one (ps_ret (pe_and (pe_callB (isiK (K := K)) (by rfl) B.isinstance (by decide +kernel) (pa_cons (pv 0) (pa_cons (pe_bltn (v := .ty "str") (by rfl) B.str (by decide +kernel) rfl) pa_nil))) (pe_one (pe_cmpR (op_eqDK (K := K) hr.units) (pv 0) (pv 1) (nomark _)))))) pss_nil)
  (pss_cons (ps_if (pt_cmpR op_ne (pe_callB (isiK (K := K)) (by rfl) B.isinstance (by decide +kernel) (pa_cons (pv 0) (pa_cons (pe_bltn (v := .ty "list") (by rfl) B.list (by decide +kernel) rfl) pa_nil))) (pe_callB (isiK (K := K)) (by rfl) B.isinstance (by decide +kernel) (pa_cons (pv 1) (pa_cons (pe_bltn (v := .ty "list") (by rfl) B.list (by decide +kernel) rfl) pa_nil))) (nomark _)) (pss_one (ps_ret pe_bl)) pss_nil)
  (pss_cons (ps_if (PW.pt (pw_or (pt_cmpR op_ne (pe_callB (isiK (K := K)) (by rfl) B.isinstance (by decide +kernel) (pa_cons (pv 0) (pa_cons (pe_bltn (v := .ty "tuple") (by rfl) B.tuple (by decide +kernel) rfl) pa_nil))) (pe_callB (isiK (K := K)) (by rfl) B.isinstance (by decide +kernel) (pa_cons (pv 1) (pa_cons (pe_bltn (v := .ty "tuple") (by rfl) B.tuple (by decide +kernel) rfl) pa_nil))) (nomark _)) (pw_or1 (pt_cmpR op_ne (pe_callB (len_seqK (K := K)) (by rfl) B.len boot_len (pa_cons (pv 0) pa_nil)) (pe_callB (len_seqK (K := K)) (by rfl) B.len boot_len (pa_cons (pv 1) pa_nil)) (nomark _))))) (pss_one (ps_ret pe_bl)) pss_nil)
  (pss_one (ps_ret (pe_cmpR (op_eqDK (K := K) hr.units) (pe_lc (own := [("k", 2)]) (g := gName 2) (by rfl) sc_law_same.nd (pi_range1 (by rfl) B.range (pa_cons (pe_callB (len_seqK (K := K)) (by rfl) B.len boot_len (pa_cons (pv 1) pa_nil)) pa_nil)) (blkOk_by (own := [("k", 2)]) (N := ["found", "wanted", "k"]) (sc := defScope s_law_same) (by decide +kernel)) (fun _ _ _ _ _ => (pg_name (i := 2) sc_law_same.nd rfl (Or.inl rfl))) (fun _ _ _ _ _ => (pts_one (pt_not (pt_val (pe_c c_law_same hr (by first | decide | omega) (by rfl) (pa_cons (pe_ix (ix_listK (K := K)) (pv 0) (pv 2) (fun _ _ => rfl)) (pa_cons (pe_ix (ix_listK (K := K)) (pv 1) (pv 2) (fun _ _ => rfl)) pa_nil))))))) (fun _ _ _ _ _ => (pv 2))) (pe_lst pa_nil) (nomark _)))))))))), ?_⟩
    cases d with
    | none =>
      cases hx; cases hy
      walk_at "sq go"
      exact q H (.refl H)
    | bool v =>
      cases hx; cases hy
      walk_at "sq go"
      refine rEqQ_of ⟨_, _, .bl v, .bl v, by simp [SeqAt.shaped, PyData.canLay0, PyData.depth], by simp [SeqAt.shaped, PyData.canLay0, PyData.depth], ?_⟩
      have e : PyData.eqv (.bool v) (.bool v) = true := by simp [PyData.eqv]
      rw [e]
      exact q H (.refl H)
    | int v =>
      cases hx; cases hy
      walk_at "sq go"
      refine rEqQ_of ⟨_, _, .int v, .int v, by simp [SeqAt.shaped, PyData.canLay0, PyData.depth], by simp [SeqAt.shaped, PyData.canLay0, PyData.depth], ?_⟩
      have e : PyData.eqv (.int v) (.int v) = true := by simp [PyData.eqv]
      rw [e]
      exact q H (.refl H)
    | str v =>
      cases hx; cases hy
      walk_at "sq go"
      have sh : SeqAt.shaped (.str v) = true := by
        simp only [plain, PyData.canLay0] at hc
        simp [SeqAt.shaped, PyData.canLay0, PyData.depth, hc]
      refine rEqQ_of ⟨_, _, .str v, .str v, sh, sh, ?_⟩
      have e : PyData.eqv (.str v) (.str v) = true := by simp [PyData.eqv]
      rw [e]
      exact q H (.refl H)
    | list ds =>
      cases hx with
      | @lst a xs _ ha hxs =>
      cases hy with
      | @lst b ys _ hb hys =>
      have lx := dpall_len _ _ hxs
      have ly := dpall_len _ _ hys
      simp only [plain, Bool.and_eq_true, decide_eq_true_eq] at hc
      simp only [PyData.depth] at hd
      obtain ⟨hlen, hc⟩ := hc
      walk_at "sq go"
      refine ifIN (fun c => absurd (by rw [lx, ly]) c) (fun _ => ?_)
      walk_at "sq go"
      intro D nD
      refine lc_range (lo := 0) (n := ((ys.length : Nat) : Int).toNat) (fun i H' => Keep (Same H H' ∧ H' D = some (.lst []))) ⟨same_new nD, upd_same⟩ (fun i H' hi h => ?_) (fun H' h => ?_)
      · obtain ⟨s1, eD⟩ := h.o
        have hi2 : i < ds.length := by omega
        obtain ⟨x, ex, dx⟩ := dpall_get _ _ hxs i _ (List.getElem?_eq_getElem hi2)
        obtain ⟨y, ey, dy⟩ := dpall_get _ _ hys i _ (List.getElem?_eq_getElem hi2)
        have ax : atI xs (0 + (i : Int)) = some x := by rw [Int.zero_add]; exact atI_nat ex
        have ay : atI ys (0 + (i : Int)) = some y := by rw [Int.zero_add]; exact atI_nat ey
        have ha' := s1.seq ha
        have hb' := s1.seq hb
        walk_at "sq go"
        refine hsp x y H' _ _ _ ⟨_, dp_same s1 _ _ dx, dp_same s1 _ _ dy, plain_get _ i _ hc (List.getElem?_eq_getElem hi2), depth_get _ i _ (List.getElem?_eq_getElem hi2)⟩ (by omega) (fun H2 s2 => ?_)
        walk_at "sq go"
        exact ⟨s1.trans s2, s2 _ _ eD⟩
      · obtain ⟨s1, eD⟩ := h.o
        walk_at "sq go"
        intro e ne
        have s2 := s1.trans (same_new (o := .lst []) ne)
        refine r_eqI (xs := []) (ys := []) (seqL_of (upd_keep ne eD)) (seqL_of upd_same) ?_
        exact q _ s2
    | tuple ds => simp [plain] at hc
    | dict kvs => nomatch hx
theorem Alike.mono {K : PySem.W.Frag} {H : Hp} {m n : Nat} {x y : V} (h : Alike K H m x y) (hm : m ≤ n) : Alike K H n x y := by
  obtain ⟨d, h1, h2, h3, h4⟩ := h
  exact ⟨d, h1, h2, h3, by omega⟩
theorem cal_same (D : DefAt K mg "_law_same" s_law_same ["found", "wanted"]) (B : Bt mg) : ∀ n : Nat, Cal P w K mg base (n + 2) "_law_same" (spSame K n) []
  | 0 => cal_same1 D B (cal_same0 D) fun x y H Q E m h lt q => absurd lt (by omega)
  | n + 1 => cal_same1 D B (cal_same D B n) fun x y H Q E m h lt q => ⟨x, y, rfl, ⟨h.mono (by omega)⟩, q⟩
theorem alike_ints {K : PySem.W.Frag} {H : Hp} {a b : Addr} {ns : List Int} {n : Nat} (h1 : SqL K H a (iv ns)) (h2 : SqL K H b (iv ns)) (hl : ns.length ≤ 1000000) (hn : 1 ≤ n) : Alike K H n (.ref a) (.ref b) := by
  have pl : ∀ ns : List Int, plainAll (ns.map .int) = true := by
    intro ns
    induction ns with
    | nil => simp [plainAll]
    | cons x r ih => simp [plainAll, plain, ih]
  refine ⟨dI ns, dp_iv h1, dp_iv h2, ?_, ?_⟩
  · unfold dI
    simp only [plain, pl, List.length_map, decide_eq_true hl, Bool.and_self]
  · unfold dI
    simp only [PyData.depth, dep_ints]
    omega
theorem alike_int {K : PySem.W.Frag} {H : Hp} {i : Int} {n : Nat} : Alike K H n (.int i) (.int i) := ⟨.int i, .int i, .int i, by simp [plain], by simp [PyData.depth]⟩

/-! ### what an exception tells, while it is handled -/
structure KndE (K : PySem.W.Frag) (CL CN CC CU CR CS C : Addr) (b1 b2 b3 b4 b5 : Bool) : Prop where
  ec : ExcC K C
  xf : XfC K C
  nv : PySem.W.findIn K (.ref C) "value" = some none
  k1 : PySem.W.kitOne K (.ref C) (.ref CL) = some b1
  k2 : PySem.W.kitOne K (.ref C) (.ref CN) = some b2
  k3 : PySem.W.kitOne K (.ref C) (.ref CC) = some b3
  k4 : PySem.W.kitOne K (.ref C) (.ref CU) = some b4
  k5 : PySem.W.kitOne K (.ref C) (.ref CR) = some b5
  kS : PySem.W.kitOne K (.ref C) (.ref CS) = some true
  kV : PySem.W.kitOne K (.ref C) (.type "ValueError") = some true
  ex : PySem.W.exmOne K (.ref C) (.ref CS) = some true
theorem knd_mk {h : Heap} {CL CN CC CU CR CS C : Addr} {b1 b2 b3 b4 b5 : Bool} {y y1 y2 y3 y4 y5 y6 : Str} (_ : K.In h) (_ : mg y = some (.ref C)) (_ : mg y1 = some (.ref CL)) (_ : mg y2 = some (.ref CN)) (_ : mg y3 = some (.ref CC)) (_ : mg y4 = some (.ref CU)) (_ : mg y5 = some (.ref CR)) (_ : mg y6 = some (.ref CS))
    (hg : PySem.W.findIn K (.ref C) "__getattribute__" = some (some (.builtin "BaseException.__getattribute__"))) (hk : PySem.W.findIn K (.ref C) "__getattr__" = some none) (hs : PySem.W.subIn K (.ref C) (.type "BaseException") = some true) (hd : PySem.W.hasDictIn K C = true)
    (ha : PySem.W.findIn K (.ref C) "__class__" = some (some (.builtin "object.__class__"))) (hn : PySem.W.specialIn K (.builtin "object.__class__") "__get__" = some (some (.builtin "getset_descriptor.__get__"))) (ht : PySem.W.takesIn K (.builtin "object.__class__") = some true) (hm : PySem.W.mroIn K C (.type "object") = some true)
    (nv : PySem.W.findIn K (.ref C) "value" = some none) (k1 : PySem.W.kitOne K (.ref C) (.ref CL) = some b1) (k2 : PySem.W.kitOne K (.ref C) (.ref CN) = some b2) (k3 : PySem.W.kitOne K (.ref C) (.ref CC) = some b3) (k4 : PySem.W.kitOne K (.ref C) (.ref CU) = some b4) (k5 : PySem.W.kitOne K (.ref C) (.ref CR) = some b5)
    (kS : PySem.W.kitOne K (.ref C) (.ref CS) = some true) (kV : PySem.W.kitOne K (.ref C) (.type "ValueError") = some true) (x1 : PySem.W.subIn K (.ref CS) (.type "BaseException") = some true) (x2 : PySem.W.isClsIn K CS = true) (x3 : PySem.W.typeIn K (.ref CS) = some (.type "type")) (x4 : PySem.W.subIn K (.ref C) (.ref CS) = some true) : KndE K CL CN CC CU CR CS C b1 b2 b3 b4 b5 :=
  ⟨⟨hg, hk, hs, hd, ha, hn, ht, hm⟩, ⟨hg, hk, hs, hd⟩, nv, k1, k2, k3, k4, k5, kS, kV, exm_mk x1 x2 x3 x4⟩
structure Cls6 (mg : Str → Option Value) (CL CN CC CU CR CS : Addr) : Prop where
  l : mg "InvalidList" = some (.ref CL)
  n : mg "InvalidNumber" = some (.ref CN)
  c : mg "InvalidCharacter" = some (.ref CC)
  u : mg "NothingToUndo" = some (.ref CU)
  r : mg "Unreadable" = some (.ref CR)
  s : mg "SqueezeError" = some (.ref CS)
/-- the names of the classes -/
def nmE (b1 b2 b3 b4 b5 : Bool) : List V := (([(V.str "InvalidList", b1), (.str "InvalidNumber", b2), (.str "InvalidCharacter", b3), (.str "NothingToUndo", b4), (.str "Unreadable", b5)]).filter (·.2)).map (·.1)
/-- five pairs of a name and an answer -/
theorem five_get {H : Hp} {t1 t2 t3 t4 t5 : Addr} {ps : List (V × Bool)} {n1 n2 n3 n4 n5 : V} {b1 b2 b3 b4 b5 : Bool} (hp : ps = [(n1, b1), (n2, b2), (n3, b3), (n4, b4), (n5, b5)]) (h1 : H t1 = some (.tup [n1, .bl b1])) (h2 : H t2 = some (.tup [n2, .bl b2])) (h3 : H t3 = some (.tup [n3, .bl b3])) (h4 : H t4 = some (.tup [n4, .bl b4])) (h5 : H t5 = some (.tup [n5, .bl b5])) :
    ∀ (i : Nat) (x : V), ([V.ref t1, .ref t2] ++ [.ref t3] ++ [.ref t4, .ref t5])[i]? = some x → ∃ t n b, x = .ref t ∧ ps[i]? = some (n, b) ∧ H t = some (.tup [n, .bl b])
  | 0, x, e => ⟨t1, n1, b1, (Option.some.inj e).symm, by rw [hp]; rfl, h1⟩
  | 1, x, e => ⟨t2, n2, b2, (Option.some.inj e).symm, by rw [hp]; rfl, h2⟩
  | 2, x, e => ⟨t3, n3, b3, (Option.some.inj e).symm, by rw [hp]; rfl, h3⟩
  | 3, x, e => ⟨t4, n4, b4, (Option.some.inj e).symm, by rw [hp]; rfl, h4⟩
  | 4, x, e => ⟨t5, n5, b5, (Option.some.inj e).symm, by rw [hp]; rfl, h5⟩
  | i + 5, x, e => by cases e
theorem nm_take {ps : List (V × Bool)} {i : Nat} {n : V} {b : Bool} (h : ps[i]? = some (n, b)) : ((ps.take (i + 1)).filter (·.2)).map (·.1) = ((ps.take i).filter (·.2)).map (·.1) ++ (if b = true then [n] else []) := by
  rw [List.take_add_one, h]
  cases b <;> simp
local macro_rules | `(tactic| walk_at "sq side") => `(tactic| first
  | ((with_reducible show ExcC _ _); assumption)
  | ((with_reducible show XfC _ _); assumption)
  | ((with_reducible show KeptN _ _ _ _); assumption)
  | ((with_reducible show HotN _ _); assumption)
  | ((with_reducible show PySem.W.kitOne _ _ _ = some _); assumption)
  | ((with_reducible show PySem.W.findIn _ _ _ = some _); assumption)
  | ((with_reducible show _[_]? = some _); assumption))
abbrev s_law_error : Stmt := topS 37
theorem sc_law_error : FnScope ["e", "held", "names", "name", "is_one"] ["e"] (defScope s_law_error) := ⟨rfl, rfl, rfl, by decide +kernel, rfl, by decide +kernel, by decide +kernel⟩

def spErr (K : PySem.W.Frag) (CL CN CC CU CR CS : Addr) (x1 : Addr) : Sp := fun vs H Q _ => ∃ (C : Addr) (v : V) (b1 b2 b3 b4 b5 : Bool), vs = [.ref x1] ∧ KeptN H x1 C [("value", v)] ∧ Keep (KndE K CL CN CC CU CR CS C b1 b2 b3 b4 b5) ∧
  ∀ l H', Same H H' → H l = none → H' l = some (.lst (nmE b1 b2 b3 b4 b5 ++ [v, .bl true])) → Q (.ref l) H'
theorem cal_error {CL CN CC CU CR CS : Addr} (D : DefAt K mg "_law_error" s_law_error ["e"]) (B : Bt mg) (c6 : Cls6 mg CL CN CC CU CR CS) : CalC P w K mg base 1 "_law_error" (spErr K CL CN CC CU CR CS) := by
  refine D.calC sc_law_error (fun x1 vs H Q E h => ?_) (fun f cdv A outer s H vs Q E x1 hh hr h => ?_)
  · obtain ⟨C, v, b1, b2, b3, b4, b5, rfl, _⟩ := h
    rfl
  · obtain ⟨C, v, b1, b2, b3, b4, b5, rfl, ka, ⟨ec, xf, nv, k1, k2, k3, k4, k5, kS, kV, ex⟩, q⟩ := h
    obtain ⟨m_InvalidList, m_InvalidNumber, m_InvalidCharacter, m_NothingToUndo, m_Unreadable, m_SqueezeError⟩ := c6
    refine ⟨_, (pss_cons (ps_set (i := 1) sc_law_error.nd rfl (Or.inl rfl) (pe_lst (pa_cons (pe_tup (pa_cons pe_str (pa_cons (pe_callB (call_isN (K := K)) (by rfl) B.isinstance (by decide +kernel) (pa_cons (pv 0) (pa_cons (pe_glob (v := .ref _) (by rfl) m_InvalidList rfl) pa_nil))) pa_nil))) (pa_cons (pe_tup (pa_cons pe_str (pa_cons (pe_callB (call_isN (K := K)) (by rfl) B.isinstance (by decide +kernel) (pa_cons (pv 0) (pa_cons (pe_glob (v := .ref _) (by rfl) m_InvalidNumber rfl) pa_nil))) pa_nil))) pa_nil))))
  (pss_cons (ps_set (i := 1) sc_law_error.nd rfl (Or.inl rfl) (pe_op op_cat (pv 1) (pe_lst (pa_cons (pe_tup (pa_cons pe_str (pa_cons (pe_callB (call_isN (K := K)) (by rfl) B.isinstance (by decide +kernel) (pa_cons (pv 0) (pa_cons (pe_glob (v := .ref _) (by rfl) m_InvalidCharacter rfl) pa_nil))) pa_nil))) pa_nil))))
  (pss_cons (ps_set (i := 1) sc_law_error.nd rfl (Or.inl rfl) (pe_op op_cat (pv 1) (pe_lst (pa_cons (pe_tup (pa_cons pe_str (pa_cons (pe_callB (call_isN (K := K)) (by rfl) B.isinstance (by decide +kernel) (pa_cons (pv 0) (pa_cons (pe_glob (v := .ref _) (by rfl) m_NothingToUndo rfl) pa_nil))) pa_nil))) (pa_cons (pe_tup (pa_cons pe_str (pa_cons (pe_callB (call_isN (K := K)) (by rfl) B.isinstance (by decide +kernel) (pa_cons (pv 0) (pa_cons (pe_glob (v := .ref _) (by rfl) m_Unreadable rfl) pa_nil))) pa_nil))) pa_nil)))))
  (pss_cons (ps_setLcN (i := 2) (own := [("name", 3), ("is_one", 4)]) hh sc_law_error.nd rfl rfl (sw_true rfl rfl rfl (by decide +kernel)) (pv 1) (blkOk_by (own := [("name", 3), ("is_one", 4)]) (N := ["e", "held", "names", "name", "is_one"]) (sc := defScope s_law_error) (by decide +kernel)) (fun _ _ _ _ _ => (pg_tupN (K := K) (n := 2) hh (pgs_cons (pg_name (i := 3) sc_law_error.nd rfl (Or.inl rfl)) (pgs_cons (pg_name (i := 4) sc_law_error.nd rfl (Or.inl rfl)) pgs_nil)))) (fun _ _ _ _ _ => (pts_one (pt_val (pv 4)))) (fun _ _ _ _ _ => (pv 3)))
  (pss_one (ps_ret (pe_op op_cat (pv 2) (pe_lst (pa_cons (pe_xvN (K := K) (pv 0)) (pa_cons (pe_and (pe_callB (call_isN (K := K)) (by rfl) B.isinstance (by decide +kernel) (pa_cons (pv 0) (pa_cons (pe_glob (v := .ref _) (by rfl) m_SqueezeError rfl) pa_nil))) (pe_one (pe_callB (call_isN (K := K)) (by rfl) B.isinstance (by decide +kernel) (pa_cons (pv 0) (pa_cons (pe_bltn (v := .ty "ValueError") (by rfl) B.ValueError (by decide +kernel) rfl) pa_nil))))) pa_nil)))))))))), ?_⟩
    walk_at "sq go"
    intro t1 n1
    have s1 := same_new (o := .tup [V.str "InvalidList", .bl b1]) n1
    have ka1 := ka.same s1
    walk_at "sq go"
    intro t2 n2
    have s2 := same_new (o := .tup [V.str "InvalidNumber", .bl b2]) n2
    have ka2 := ka1.same s2
    walk_at "sq go"
    intro l1 m1
    have s3 := same_new (o := .lst [.ref t1, .ref t2]) m1
    have ka3 := ka2.same s3
    walk_at "sq go"
    intro t3 n3
    have s4 := same_new (o := .tup [V.str "InvalidCharacter", .bl b3]) n3
    have ka4 := ka3.same s4
    walk_at "sq go"
    intro l2 m2
    have s5 := same_new (o := .lst [.ref t3]) m2
    have ka5 := ka4.same s5
    have gl1 := (s4.trans s5) l1 _ upd_same
    walk_at "sq go"
    intro l3 m3
    have s6 := same_new (o := .lst ([.ref t1, .ref t2] ++ [.ref t3])) m3
    have ka6 := ka5.same s6
    walk_at "sq go"
    intro t4 n4
    have s7 := same_new (o := .tup [V.str "NothingToUndo", .bl b4]) n4
    have ka7 := ka6.same s7
    walk_at "sq go"
    intro t5 n5
    have s8 := same_new (o := .tup [V.str "Unreadable", .bl b5]) n5
    have ka8 := ka7.same s8
    walk_at "sq go"
    intro l4 m4
    have s9 := same_new (o := .lst [.ref t4, .ref t5]) m4
    have ka9 := ka8.same s9
    have gl3 := (s7.trans (s8.trans s9)) l3 _ upd_same
    walk_at "sq go"
    intro l5 m5
    have s10 := same_new (o := .lst ([.ref t1, .ref t2] ++ [.ref t3] ++ [.ref t4, .ref t5])) m5
    have ka10 := ka9.same s10
    have five := five_get (H := upd (upd (upd (upd (upd (upd (upd (upd (upd (upd H t1 (.tup [V.str "InvalidList", .bl b1])) t2 (.tup [V.str "InvalidNumber", .bl b2])) l1 (.lst [.ref t1, .ref t2])) t3 (.tup [V.str "InvalidCharacter", .bl b3])) l2 (.lst [.ref t3])) l3 (.lst ([.ref t1, .ref t2] ++ [.ref t3]))) t4 (.tup [V.str "NothingToUndo", .bl b4])) t5 (.tup [V.str "Unreadable", .bl b5])) l4 (.lst [.ref t4, .ref t5])) l5 (.lst ([.ref t1, .ref t2] ++ [.ref t3] ++ [.ref t4, .ref t5])))
      (ps := [(V.str "InvalidList", b1), (.str "InvalidNumber", b2), (.str "InvalidCharacter", b3), (.str "NothingToUndo", b4), (.str "Unreadable", b5)]) rfl
      ((s2.trans (s3.trans (s4.trans (s5.trans (s6.trans (s7.trans (s8.trans (s9.trans s10)))))))) _ _ upd_same) ((s3.trans (s4.trans (s5.trans (s6.trans (s7.trans (s8.trans (s9.trans s10))))))) _ _ upd_same) ((s5.trans (s6.trans (s7.trans (s8.trans (s9.trans s10))))) _ _ upd_same) ((s8.trans (s9.trans s10)) _ _ upd_same) ((s9.trans s10) _ _ upd_same)
    have sA := s1.trans (s2.trans (s3.trans (s4.trans (s5.trans (s6.trans (s7.trans (s8.trans (s9.trans s10))))))))
    have gl5 : upd (upd (upd (upd (upd (upd (upd (upd (upd (upd H t1 (.tup [V.str "InvalidList", .bl b1])) t2 (.tup [V.str "InvalidNumber", .bl b2])) l1 (.lst [.ref t1, .ref t2])) t3 (.tup [V.str "InvalidCharacter", .bl b3])) l2 (.lst [.ref t3])) l3 (.lst ([.ref t1, .ref t2] ++ [.ref t3]))) t4 (.tup [V.str "NothingToUndo", .bl b4])) t5 (.tup [V.str "Unreadable", .bl b5])) l4 (.lst [.ref t4, .ref t5])) l5 (.lst ([.ref t1, .ref t2] ++ [.ref t3] ++ [.ref t4, .ref t5])) l5 = some (.lst ([.ref t1, .ref t2] ++ [.ref t3] ++ [.ref t4, .ref t5])) := upd_same
    generalize upd (upd (upd (upd (upd (upd (upd (upd (upd (upd H t1 (.tup [V.str "InvalidList", .bl b1])) t2 (.tup [V.str "InvalidNumber", .bl b2])) l1 (.lst [.ref t1, .ref t2])) t3 (.tup [V.str "InvalidCharacter", .bl b3])) l2 (.lst [.ref t3])) l3 (.lst ([.ref t1, .ref t2] ++ [.ref t3]))) t4 (.tup [V.str "NothingToUndo", .bl b4])) t5 (.tup [V.str "Unreadable", .bl b5])) l4 (.lst [.ref t4, .ref t5])) l5 (.lst ([.ref t1, .ref t2] ++ [.ref t3] ++ [.ref t4, .ref t5])) = HA at five sA gl5 ka10 ⊢
    clear s1 s2 s3 s4 s5 s6 s7 s8 s9 s10 ka1 ka2 ka3 ka4 ka5 ka6 ka7 ka8 ka9 gl1 gl3
    walk_at "sq go"
    intro D nD
    have sD := same_new (o := .lst []) nD
    refine lc_listN (K := K) (a := l5) (xs := [.ref t1, .ref t2] ++ [.ref t3] ++ [.ref t4, .ref t5]) (fun i H' => Keep (But D (upd HA D (.lst [])) H' ∧ H' D = some (.lst ((([(V.str "InvalidList", b1), (.str "InvalidNumber", b2), (.str "InvalidCharacter", b3), (.str "NothingToUndo", b4), (.str "Unreadable", b5)].take i).filter (·.2)).map (·.1))))) ⟨.refl _ _, upd_same⟩ (fun i H' _ h => ?_) (fun i x H' hx h => ?_) (fun H' h => ?_)
    · obtain ⟨bt, _⟩ := h.o
      exact (bt.same sD nD).seq (seqL_of gl5)
    · obtain ⟨bt, gD⟩ := h.o
      obtain ⟨t, n, b, rfl, e, ht⟩ := five i x hx
      have sm := bt.same sD nD
      have ht2 := sm _ _ ht
      have hot := (ka10.same sm).hot
      have li := (List.getElem?_eq_some_iff.mp hx).1
      have e2 := nm_take e
      have sz : ((([(V.str "InvalidList", b1), (.str "InvalidNumber", b2), (.str "InvalidCharacter", b3), (.str "NothingToUndo", b4), (.str "Unreadable", b5)].take i).filter (·.2)).map (·.1)).length < sizeLine := by
        rw [List.length_map, sizeLine_eq]
        refine Nat.lt_of_le_of_lt (List.length_filter_le _ _) ?_
        rw [List.length_take]
        have li5 : i < 5 := li
        omega
      walk_at "sq go"
      cases b with
      | false =>
        show Keep _
        exact ⟨bt, by rw [e2]; simpa using gD⟩
      | true =>
        walk_at "sq go"
        exact ⟨bt.trans .put, by rw [upd_same, e2]; rfl⟩
    · obtain ⟨bt, gD⟩ := h.o
      have sm := bt.same sD nD
      have kb := ka10.same sm
      refine ⟨kb.hot, ?_⟩
      walk_at "sq go"
      intro m nm
      have gD2 : upd H' m (.lst [v, .bl true]) D = some (.lst (nmE b1 b2 b3 b4 b5)) := upd_keep nm gD
      have sz : (nmE b1 b2 b3 b4 b5).length + ([v, .bl true] : List V).length ≤ sizeLine := by
        unfold nmE
        rw [List.length_map, sizeLine_eq]
        have := List.length_filter_le (fun x => x.2) [(V.str "InvalidList", b1), (.str "InvalidNumber", b2), (.str "InvalidCharacter", b3), (.str "NothingToUndo", b4), (.str "Unreadable", b5)]
        simp only [List.length_cons, List.length_nil] at *
        omega
      walk_at "sq go"
      intro l nl
      refine q l _ (sA.trans (sm.trans ((same_new nm).trans (same_new nl)))) ?_ upd_same
      exact sA.free (sm.free ((same_new nm).free nl))

/-! ### lists with bad numbers -/
theorem bad_ins (ns : List Int) (j : Nat) {v : Int} (hv : v < 2) : bad (ns.take j ++ [v] ++ ns.drop j) ≠ none := fun e => by
  have := bad_none.mp e v (by simp)
  omega
theorem iv_ins (ns : List Int) (j : Nat) (v : Int) : (iv ns).take j ++ [V.int v] ++ (iv ns).drop j = iv (ns.take j ++ [v] ++ ns.drop j) := by simp
theorem same_upd {G G' : Hp} {p : Addr} {u : HO} (h : Same G G') : Same (upd G p u) (upd G' p u) := fun b x e => by
  by_cases hb : b = p
  · rw [hb, upd_same] at e ⊢
    exact e
  · rw [upd_ne hb] at e ⊢
    exact h b x e
/-- what the places below 2 say of the first of them -/
def Lows (ns : List Int) (i : Nat) (acc : List Int) : Prop := acc.length ≤ i ∧ (∀ j, bad ns = some j → (i ≤ j → acc = []) ∧ (j < i → ∃ r, acc = (j : Int) :: r))
theorem bad_lt {ns : List Int} {j : Nat} (h : bad ns = some j) : j < ns.length ∧ (∀ k, ns[j]? = some k → k < 2) ∧ ∀ i : Nat, i < j → ∀ k, ns[i]? = some k → 2 ≤ k := by
  unfold bad at h
  rw [List.findIdx?_eq_some_iff_getElem] at h
  obtain ⟨lt, e, no⟩ := h
  refine ⟨lt, fun k hk => ?_, fun i hi k hk => ?_⟩
  · rw [List.getElem?_eq_getElem lt] at hk
    cases hk
    simpa using e
  · have z := no i hi
    rw [List.getElem?_eq_getElem (by omega)] at hk
    cases hk
    simpa using z
theorem Lows.zero (ns : List Int) : Lows ns 0 [] := ⟨Nat.le_refl _, fun j _ => ⟨fun _ => rfl, fun h => absurd h (by omega)⟩⟩
theorem Lows.hit {ns : List Int} {i : Nat} {acc : List Int} {k : Int} (h : Lows ns i acc) (hk : ns[i]? = some k) (c : k < 2) : Lows ns (i + 1) (acc ++ [(i : Int)]) := by
  refine ⟨by rw [List.length_append, List.length_singleton]; exact Nat.succ_le_succ h.1, fun j e => ?_⟩
  obtain ⟨a, b⟩ := h.2 j e
  obtain ⟨lt, at_, no⟩ := bad_lt e
  constructor
  · intro hj
    have := no i (by omega) k hk
    omega
  · intro hj
    by_cases z : j < i
    · obtain ⟨r, rfl⟩ := b z
      exact ⟨r ++ [(i : Int)], rfl⟩
    · have e2 : j = i := by omega
      rw [a (by omega), e2]
      exact ⟨[], rfl⟩
theorem Lows.miss {ns : List Int} {i : Nat} {acc : List Int} {k : Int} (h : Lows ns i acc) (hk : ns[i]? = some k) (c : ¬ k < 2) : Lows ns (i + 1) acc := by
  refine ⟨Nat.le_succ_of_le h.1, fun j e => ?_⟩
  obtain ⟨a, b⟩ := h.2 j e
  obtain ⟨lt, at_, no⟩ := bad_lt e
  have ne : j ≠ i := fun z => by
    subst z
    exact c (at_ k hk)
  exact ⟨fun hj => a (by omega), fun hj => b (by omega)⟩

/-! ### lists that may be bad; the first bad number -/
theorem low4 {a : Int} (a0 : 0 ≤ a) (a1 : a < 10 ^ 29) {w : Int} (h0 : 0 ≤ w) (h1 : w < 4) : ∃ v, atI [V.int 1, V.int 0, V.int (-1), V.int (0 - a)] w = some (.int v) ∧ v ≤ 1 ∧ -(10 ^ 29) ≤ v := by
  rcases (show w = 0 ∨ w = 1 ∨ w = 2 ∨ w = 3 by omega) with z | z | z | z <;> rw [z]
  · exact ⟨_, atI_nat (j := 0) rfl, by omega, by decide⟩
  · exact ⟨_, atI_nat (j := 1) rfl, by omega, by decide⟩
  · exact ⟨_, atI_nat (j := 2) rfl, by omega, by decide⟩
  · exact ⟨_, atI_nat (j := 3) rfl, by omega, by omega⟩
theorem few4 {w : Int} (h0 : 0 ≤ w) (h1 : w < 4) : ∃ v : Int, atI [V.int 0, V.int 0, V.int 1, V.int 2] w = some (.int v) ∧ 0 ≤ v ∧ v ≤ 2 := by
  rcases (show w = 0 ∨ w = 1 ∨ w = 2 ∨ w = 3 by omega) with z | z | z | z <;> rw [z]
  · exact ⟨_, atI_nat (j := 0) rfl, by decide, by decide⟩
  · exact ⟨_, atI_nat (j := 1) rfl, by decide, by decide⟩
  · exact ⟨_, atI_nat (j := 2) rfl, by decide, by decide⟩
  · exact ⟨_, atI_nat (j := 3) rfl, by decide, by decide⟩
/-- a list of numbers within bounds -/
def Bd1 (n : Nat) (ns : List Int) : Prop := ns.length ≤ n ∧ ∀ k ∈ ns, k ≤ 10 ^ 6 ∧ -(10 ^ 29) ≤ k
theorem Bd1.bd0 {n : Nat} {ns : List Int} (h : Bd1 n ns) (hn : n ≤ 200) : Bd0 ns := ⟨fun k hk => (h.2 k hk).1, Nat.le_trans h.1 hn⟩
theorem Bd1.lg {n : Nat} {ns : List Int} (h : Bd1 n ns) : ∀ k ∈ ns, k.natAbs.log2 < 1920 := fun k hk => by
  have := h.2 k hk
  exact Nat.lt_trans ((show Sm 100 k by unfold Sm; omega).lg (by decide)) (by decide)
abbrev s_law_spoilt : Stmt := topS 38
theorem sc_law_spoilt : FnScope ["source", "row", "found", "time", "low"] ["source", "row"] (defScope s_law_spoilt) := ⟨rfl, rfl, rfl, by decide +kernel, rfl, by decide +kernel, by decide +kernel⟩

def spSpoilt (K : PySem.W.Frag) : Sp := fun vs H Q _ => ∃ (r d p : Addr) (ns : List Int) (N : Int) (G : Hp), vs = [.ref r, .ref p] ∧ Sep (rgB r d N) G H ∧ SqL K H p (iv ns) ∧ Keep (Bd1 100 ns ∧ N < 2 ^ 59) ∧
  ∀ l ms H', G l = none → (Bd1 (ns.length + 2) ms ∧ (bad ms = none → ms = ns)) → Sep (rgB r d (N + 8)) (upd G l (.lst (iv ms))) H' → Q (.ref l) H'
theorem cal_spoilt (D : DefAt K mg "_law_spoilt" s_law_spoilt ["source", "row"]) (B : Bt mg) (c_law_draw : Cal P w K mg base 1 "_law_draw" spDraw []) : Cal P w K mg base 2 "_law_spoilt" (spSpoilt K) [] := by
  refine D.cal sc_law_spoilt (fun vs H Q E h => ?_) (fun f cdv A outer s H vs Q E hr h => ?_)
  · obtain ⟨r, d, p, ns, N, G, rfl, _⟩ := h
    rfl
  · obtain ⟨r, d, p, ns, N, G, rfl, hS, hp, ⟨bn, hN⟩, q⟩ := h
    refine ⟨_, (pss_cons (ps_set (i := 2) sc_law_spoilt.nd rfl (Or.inl rfl) (pe_callTy (list_ofK (K := K)) (by rfl) B.list (by decide +kernel) (pa_cons (pv 1) pa_nil)))
  (pss_cons (ps_for PassesOwn.never rfl (pi_range1 (by rfl) B.range (pa_cons (pe_ix (ix_listK (K := K)) (pe_lst (pa_cons pe_int (pa_cons pe_int (pa_cons pe_int (pa_cons pe_int pa_nil))))) (pe_c c_law_draw hr (by first | decide | omega) (by rfl) (pa_cons (pv 0) (pa_cons pe_int pa_nil))) (fun _ _ => rfl)) pa_nil)) (pg_name (i := 3) sc_law_spoilt.nd rfl (Or.inl rfl))
   (pss_cons (ps_set (i := 4) sc_law_spoilt.nd rfl (Or.inl rfl) (pe_ix (ix_listK (K := K)) (pe_lst (pa_cons pe_int (pa_cons pe_int (pa_cons (pe_un un_neg pe_int) (pa_cons (pe_op op_sub pe_int (pe_c c_law_draw hr (by first | decide | omega) (by rfl) (pa_cons (pv 0) (pa_cons (pe_op op_powW pe_int pe_int) pa_nil)))) pa_nil))))) (pe_c c_law_draw hr (by first | decide | omega) (by rfl) (pa_cons (pv 0) (pa_cons pe_int pa_nil))) (fun _ _ => rfl)))
  (pss_one (ps_expr (pe_bm PySem.F.plainAttrs_list PySem.F.slot_list_insert PySem.F.type_list_insert mt_insert (pv 2) (pa_cons (pe_c c_law_draw hr (by first | decide | omega) (by rfl) (pa_cons (pv 0) (pa_cons (pe_op op_add (pe_callB (len_seqK (K := K)) (by rfl) B.len boot_len (pa_cons (pv 2) pa_nil)) pe_int) pa_nil))) (pa_cons (pv 4) pa_nil)))))))
  (pss_one (ps_ret (pv 2))))), ?_⟩
    walk_at "sq go"
    intro l nl
    have gl := hS.free nl
    have hS1 := hS.new nl (.lst (iv ns))
    walk_at "sq go"
    intro e0 ne0
    have ge0 := hS1.free ne0
    have hS2 := hS1.new ne0 (.lst [.int 0, .int 0, .int 1, .int 2])
    walk_at "sq go"
    refine ⟨⟨by omega, by omega, by omega⟩, fun tn H2 t0 t1 hS3 => ?_⟩
    have gE : H2 e0 = some (.lst [.int 0, .int 0, .int 1, .int 2]) := hS3.get upd_same
    obtain ⟨many, em, m0, m2⟩ := few4 t0 t1
    have hS4 := hS3.weak (same_new (o := .lst [.int 0, .int 0, .int 1, .int 2]) ge0)
    walk_at "sq go"
    refine for_range (lo := 0) (n := many.toNat) (fun i σ H' => Keep (∃ ms x y, σ = [some (.ref r), some (.ref p), some (.ref l), x, y] ∧ Sep (rgB r d (N + 1 + 3 * i)) (upd G l (.lst (iv ms))) H' ∧ Bd1 (ns.length + i) ms ∧ i ≤ 2 ∧ (ms = ns ∨ ∃ k ∈ ms, k < 2)))
      ⟨ns, none, none, rfl, SepB.mono hS4 (by omega), ⟨Nat.le_refl _, bn.2⟩, by omega, .inl rfl⟩ (fun i σ H' hi h => ?_) (fun σ H' h => ?_)
    · obtain ⟨ms, x, y, rfl, hs, bm, i2, lw⟩ := h.o
      have lm := bm.1
      have ln := bn.1
      walk_at "sq go"
      refine ⟨⟨by decide, by decide, by omega⟩, fun low K1 w0 w1 hs1 => ?_⟩
      walk_at "sq go"
      intro e ne
      have ge := hs1.free ne
      have nle : l ≠ e := fun z => by
        rw [← z, upd_same] at ge
        cases ge
      have hs2 := hs1.new ne (.lst [.int 1, .int 0, .int (-1), .int (0 - low)])
      walk_at "sq go"
      refine ⟨⟨by decide, by decide, by omega⟩, fun wy K2 y0 y1 hs3 => ?_⟩
      have ge3 : K2 e = some (.lst [.int 1, .int 0, .int (-1), .int (0 - low)]) := hs3.get upd_same
      obtain ⟨v, ev, v1, v2⟩ := low4 w0 (show low < 10 ^ 29 from w1) y0 y1
      have hs4 := hs3.weak (same_new (o := .lst [.int 1, .int 0, .int (-1), .int (0 - low)]) ge)
      have gl4 := hs4.get upd_same
      walk_at "sq go"
      have lv : (iv ms).length = ms.length := iv_len _
      refine ⟨⟨by omega, by omega, by omega⟩, fun at_ K3 a0 a1 hs5 => ?_⟩
      have gl5 := hs5.get upd_same
      walk_at "sq go"
      have hs6 := hs5.put upd_same (.lst ((iv ms).take at_.toNat ++ [V.int v] ++ (iv ms).drop at_.toNat))
      rw [upd_upd] at hs6
      rw [iv_ins]
      rw [iv_ins] at hs6
      refine ⟨_, _, _, rfl, SepB.mono hs6 (by omega), ⟨?_, fun k hk => ?_⟩, by omega, .inr ⟨v, by simp, by omega⟩⟩
      · simp only [List.length_append, List.length_take, List.length_drop, List.length_singleton]
        omega
      · rcases List.mem_append.mp hk with z | z
        · rcases List.mem_append.mp z with z | z
          · exact bm.2 k (List.mem_of_mem_take z)
          · rw [List.mem_singleton.mp z]
            omega
        · exact bm.2 k (List.mem_of_mem_drop z)
    · obtain ⟨ms, x, y, rfl, hs, bm, i2, lw⟩ := h.o
      walk_at "sq go"
      exact q l ms H' gl ⟨⟨Nat.le_trans bm.1 (by omega), bm.2⟩, fun e => lw.resolve_right fun ⟨k, hk, lk⟩ => absurd (bad_none.mp e k hk) (by omega)⟩ (SepB.mono hs (by omega))

/-! ### the quiet part grows -/
theorem Sep.box {R : Rg} {G H : Hp} {p : Addr} (s : Sep R G H) (h : H p = none) (o : HO) : ∃ G2 H2, upd H p o = H2 ∧ Same G G2 ∧ G2 p = some o ∧ H2 p = some o ∧ Sep R G2 H2 := ⟨_, _, rfl, same_new (s.free h), upd_same, upd_same, s.new h o⟩
theorem Sep.took {R : Rg} {G H : Hp} {p : Addr} {o : HO} (s : Sep R (upd G p o) H) (h : G p = none) : ∃ G2, Same G G2 ∧ G2 p = some o ∧ H p = some o ∧ Sep R G2 H := ⟨_, same_new h, upd_same, s.get upd_same, s⟩
theorem sep_add {R : Rg} {G H H2 : Hp} {L : Addr} {o : HO} (s : Sep R G H) (sm : Same H H2) (n : H L = none) (e : H2 L = some o) : Sep R (upd G L o) H2 := by
  have s2 := s.on sm
  refine ⟨s2.inv, fun b u hb => ?_, fun a ha => ?_⟩
  · by_cases z : b = L
    · rw [z, upd_same] at hb
      cases hb
      rw [z]
      exact e
    · rw [upd_ne z] at hb
      exact s2.same b u hb
  · have na : a ≠ L := fun z => R.has H a s.inv ha (by rw [z]; exact n)
    rw [upd_ne na]
    exact s2.off a ha
theorem r_repr2 {K : PySem.W.Frag} {H : Hp} {p a b : Addr} {ns ms : List Int} {Q : VK} (h : H p = some (.lst [.ref a, .ref b])) (h1 : SqL K H a (iv ns)) (h2 : SqL K H b (iv ms)) (l1 : ns.length ≤ 500) (l2 : ms.length ≤ 500) (z1 : ∀ n ∈ ns, n.natAbs.log2 < 1920) (z2 : ∀ n ∈ ms, n.natAbs.log2 < 1920)
    (q : Q (.str (PyData.list [dI ns, dI ms]).shown) H) : rReprV K [.ref p] H Q := by
  refine rRepr_ok (k := 2) (b := 2000) (dok_list (k := 1) (b := 500) (fun d hd => ?_) (by simp)) (.lst (seqL_of h) (.cons (dp_iv h1) (.cons (dp_iv h2) .nil))) (by decide) (by decide) q
  rcases List.mem_cons.mp hd with z | z
  · rw [z]
    exact dok_dI z1 l1
  · rw [List.mem_singleton.mp z]
    exact dok_dI z2 l2

/-! ### the first check that fails -/
/-- a list of data compared with [] -/
theorem r_neE {H : Hp} {a b : Addr} {xs : List V} {Q : VK} (h : ∀ v ∈ xs, ∃ d, Dp K H v d ∧ d.canLay0 = true ∧ d.depth ≤ 10) (h1 : H a = some (.lst xs)) (h2 : H b = some (.lst [])) (q : Q (.bl (!decide (xs = []))) H) : rNeQ K (.ref a) (.ref b) H Q := by
  have all : ∃ ds, DpAll K H xs ds ∧ PyData.canLayAll0 ds = true ∧ PyData.depthAll ds ≤ 10 := by
    clear h1 q
    induction xs with
    | nil => exact ⟨[], .nil, rfl, by decide⟩
    | cons v vs ih =>
      obtain ⟨ds, a1, a2, a3⟩ := ih fun u hu => h u (List.mem_cons_of_mem _ hu)
      obtain ⟨d, b1, b2, b3⟩ := h v List.mem_cons_self
      refine ⟨d :: ds, .cons b1 a1, ?_, ?_⟩
      · rw [PyData.canLayAll0, b2, a2]
        rfl
      · rw [PyData.depthAll]
        omega
  obtain ⟨ds, a1, a2, a3⟩ := all
  have sh : SeqAt.shaped (PyData.list ds) = true := by
    unfold SeqAt.shaped
    rw [PyData.canLay0, a2, PyData.depth, Bool.true_and, decide_eq_true_eq]
    omega
  refine rNeQ_of ⟨.list ds, .list [], .lst (seqL_of h1) a1, .lst (seqL_of h2) .nil, sh, by decide, ?_⟩
  have e : PyData.eqv (.list ds) (.list []) = decide (xs = []) := by
    cases a1 with
    | nil => rfl
    | cons _ _ => simp [PyData.eqv, PyData.eqvAll]
  rw [e]
  exact q
/-- a check's name and value -/
def OkC (c : Str × V × Bool) : Prop := (c.1 = "InvalidList" ∨ c.1 = "InvalidNumber") ∧ (c.2.1 = .non ∨ ∃ n, c.2.1 = .int n)
theorem OkC.dp {H : Hp} {c : Str × V × Bool} {x : Addr} (h : OkC c) (g : H x = some (.lst [.str c.1, c.2.1, .bl true])) : ∃ d, Dp K H (.ref x) d ∧ d.canLay0 = true ∧ d.depth ≤ 10 := by
  obtain ⟨h1, h2⟩ := h
  have e1 : (PyData.str c.1).canLay0 = true := by
    rcases h1 with z | z <;> rw [z] <;> decide +kernel
  rcases h2 with z | ⟨n, z⟩
  · rw [z] at g
    exact ⟨.list [.str c.1, .none, .bool true], .lst (seqL_of g) (.cons (.str _) (.cons .non (.cons (.bl _) .nil))), by simp only [PyData.canLay0, PyData.canLayAll0] at *; rw [e1]; rfl, by simp [PyData.depth, PyData.depthAll]⟩
  · rw [z] at g
    exact ⟨.list [.str c.1, .int n, .bool true], .lst (seqL_of g) (.cons (.str _) (.cons (.int _) (.cons (.bl _) .nil))), by simp only [PyData.canLay0, PyData.canLayAll0] at *; rw [e1]; rfl, by simp [PyData.depth, PyData.depthAll]⟩
/-- checks: a name, a value, whether it fails -/
def ChkT (G : Hp) (v : V) (c : Str × V × Bool) : Prop := ∃ t, v = .ref t ∧ G t = some (.tup [.str c.1, c.2.1, .bl c.2.2])
inductive ChkL (G : Hp) : List V → List (Str × V × Bool) → Prop
  | nil : ChkL G [] []
  | cons {v c vs cs} : ChkT G v c → ChkL G vs cs → ChkL G (v :: vs) (c :: cs)
theorem ChkT.same {G H : Hp} {v : V} {c : Str × V × Bool} (h : ChkT G v c) (s : Same G H) : ChkT H v c := by
  obtain ⟨t, e, g⟩ := h
  exact ⟨t, e, s _ _ g⟩
theorem ChkL.same {G H : Hp} {vs : List V} {cs : List (Str × V × Bool)} (h : ChkL G vs cs) (s : Same G H) : ChkL H vs cs := by
  induction h with
  | nil => exact .nil
  | cons a b ih => exact .cons (a.same s) ih
theorem ChkL.get {G : Hp} {vs : List V} {cs : List (Str × V × Bool)} (h : ChkL G vs cs) : ∀ {i : Nat} {x : V}, vs[i]? = some x → ∃ c, cs[i]? = some c ∧ ChkT G x c := by
  induction h with
  | nil => exact fun e => by cases e
  | cons a b ih =>
    intro i x e
    cases i with
    | zero =>
      cases e
      exact ⟨_, rfl, a⟩
    | succ i => exact ih (by simpa using e)
theorem ChkL.len {G : Hp} {vs : List V} {cs : List (Str × V × Bool)} (h : ChkL G vs cs) : vs.length = cs.length := by
  induction h with
  | nil => rfl
  | cons a b ih => simp [ih]
def fstC (cs : List (Str × V × Bool)) : Option (Str × V) := (cs.find? (·.2.2)).map fun c => (c.1, c.2.1)
theorem fst_snoc {cs : List (Str × V × Bool)} {i : Nat} {c : Str × V × Bool} (h : cs[i]? = some c) : fstC (cs.take (i + 1)) = (fstC (cs.take i)).or (if c.2.2 then some (c.1, c.2.1) else none) := by
  unfold fstC
  rw [List.take_add_one, h, List.find?_append]
  cases e : (cs.take i).find? (·.2.2) with
  | some z => simp
  | none =>
    cases e2 : c.2.2 with
    | true => simp [e2]
    | false => simp [e2]
abbrev s_law_due : Stmt := topS 40
theorem sc_law_due : FnScope ["checks", "found", "word", "value", "fails"] ["checks"] (defScope s_law_due) := ⟨rfl, rfl, rfl, by decide +kernel, rfl, by decide +kernel, by decide +kernel⟩

def spDue (K : PySem.W.Frag) : Sp := fun vs H Q _ => ∃ (t : Addr) (xs : List V) (cs : List (Str × V × Bool)), vs = [.ref t] ∧ SqL K H t xs ∧ ChkL H xs cs ∧ Keep (cs.length ≤ 10 ∧ (∀ c ∈ cs, OkC c) ∧ (fstC cs = none → ∀ H', Same H H' → Q .non H') ∧
  ∀ nm v, fstC cs = some (nm, v) → ∀ x H', Same H H' → H x = none → H' x = some (.lst [.str nm, v, .bl true]) → Q (.ref x) H')
local macro_rules | `(tactic| walk_at "sq side") => `(tactic| first
  | ((with_reducible show List.all _ _ = true); assumption)
  | ((with_reducible show _[_]? = some _); assumption))
theorem cal_due (D : DefAt K mg "_law_due" s_law_due ["checks"]) (B : Bt mg) : Cal P w K mg base 1 "_law_due" (spDue K) [] := by
  refine D.cal sc_law_due (fun vs H Q E h => ?_) (fun f cdv A outer s H vs Q E hr h => ?_)
  · obtain ⟨t, xs, cs, rfl, _⟩ := h
    rfl
  · obtain ⟨t, xs, cs, rfl, hS, hc, ⟨lc, okc, q0, q1⟩⟩ := h
    refine ⟨_, (pss_cons (ps_setLc (i := 1) (own := [("word", 2), ("value", 3), ("fails", 4)]) (by rfl) sc_law_due.nd rfl rfl (sw_true rfl rfl rfl (by decide +kernel)) (pi_listK (K := K) (pv 0)) (blkOk_by (own := [("word", 2), ("value", 3), ("fails", 4)]) (N := ["checks", "found", "word", "value", "fails"]) (sc := defScope s_law_due) (by decide +kernel)) (fun _ _ _ _ _ => (pg_tupK (K := K) (n := 3) rfl (pgs_cons (pg_name (i := 2) sc_law_due.nd rfl (Or.inl rfl)) (pgs_cons (pg_name (i := 3) sc_law_due.nd rfl (Or.inl rfl)) (pgs_cons (pg_name (i := 4) sc_law_due.nd rfl (Or.inl rfl)) pgs_nil))))) (fun _ _ _ _ _ => (pts_one (pt_val (pv 4)))) (fun _ _ _ _ _ => (pe_lst (pa_cons (pv 2) (pa_cons (pv 3) (pa_cons pe_bl pa_nil))))))
  (pss_one (ps_ret (pe_ifExp (pt_cmpR (op_neDK (K := K) hr.units) (pv 1) (pe_lst pa_nil) (nomark _)) (pe_ix (ix_listK (K := K)) (pv 1) pe_int (fun _ _ => rfl)) pe_non)))), ?_⟩
    walk_at "sq go"
    intro D nD
    have sD := same_new (o := .lst []) nD
    refine lc_list (K := K) (a := t) (xs := xs) (fun i H' => Keep (∃ acc : List V, But D (upd H D (.lst [])) H' ∧ H' D = some (.lst acc) ∧ acc.length ≤ i ∧ (∀ u ∈ acc, ∃ x c, u = .ref x ∧ x ≠ D ∧ H x = none ∧ H' x = some (.lst [.str (Prod.fst c), (Prod.snd c).1, .bl true]) ∧ OkC c) ∧ (fstC (cs.take i) = none → acc = []) ∧
      ∀ nm v, fstC (cs.take i) = some (nm, v) → ∃ x rest, acc = .ref x :: rest ∧ H' x = some (.lst [.str nm, v, .bl true]))) ⟨[], .refl _ _, upd_same, Nat.le_refl _, fun u hu => (by cases hu), fun _ => rfl, fun nm v e => by cases e⟩ (fun i H' _ h => ?_) (fun i x H' hx h => ?_) (fun H' h => ?_)
    · obtain ⟨_, bt, _⟩ := h.o
      exact (bt.same sD nD).seq hS
    · obtain ⟨acc, bt, gD, la, all, a0, a1⟩ := h.o
      obtain ⟨⟨nm, v, b⟩, ec, t1, rfl, gt⟩ := hc.get hx
      have okv := okc _ (List.mem_of_getElem? ec)
      have sm := bt.same sD nD
      have gt2 : H' t1 = some (.tup [.str nm, v, .bl b]) := sm _ _ gt
      have ef := fst_snoc ec
      have li := (List.getElem?_eq_some_iff.mp ec).1
      have lz : acc.length < sizeLine := small1000 (by omega)
      walk_at "sq go"
      cases b with
      | false =>
        have e2 : fstC (cs.take (i + 1)) = fstC (cs.take i) := by
          rw [ef]
          simp
        exact ⟨acc, bt, gD, by omega, all, by rw [e2]; exact a0, by rw [e2]; exact a1⟩
      | true =>
        walk_at "sq go"
        intro y ny
        have yD : y ≠ D := fun z => by
          rw [z, gD] at ny
          cases ny
        have gy : upd (upd H' y (.lst [.str nm, v, .bl true])) D (.lst (acc ++ [.ref y])) y = some (.lst [.str nm, v, .bl true]) := (upd_ne yD).trans upd_same
        have kp : ∀ {x : Addr} {o : HO}, x ≠ D → H' x = some o → upd (upd H' y (.lst [.str nm, v, .bl true])) D (.lst (acc ++ [.ref y])) x = some o := fun n g => (upd_ne n).trans (upd_keep ny g)
        have ex : ∀ {u : V}, u ∈ acc → ∃ x c, u = .ref x ∧ x ≠ D ∧ H x = none ∧ upd (upd H' y (.lst [.str nm, v, .bl true])) D (.lst (acc ++ [.ref y])) x = some (.lst [.str (Prod.fst c), (Prod.snd c).1, .bl true]) ∧ OkC c := fun hu => by
          obtain ⟨x, c, e, n, nh, g, ok⟩ := all _ hu
          exact ⟨x, c, e, n, nh, kp n g, ok⟩
        refine ⟨acc, upd_keep ny gD, lz, ⟨acc ++ [.ref y], bt.trans ((But.of (same_new ny)).trans .put), upd_same, by rw [List.length_append, List.length_singleton]; omega, fun u hu => ?_, fun e => ?_, fun nm2 v2 e => ?_⟩⟩
        · rcases List.mem_append.mp hu with z | z
          · exact ex z
          · exact ⟨y, _, List.mem_singleton.mp z, yD, sm.free ny, gy, okv⟩
        · rw [ef] at e
          cases eo : fstC (cs.take i) <;> rw [eo] at e <;> simp at e
        · rw [ef] at e
          cases eo : fstC (cs.take i) with
          | none =>
            rw [eo] at e
            have z := a0 eo
            subst z
            cases e
            exact ⟨y, [], rfl, gy⟩
          | some z =>
            rw [eo] at e
            obtain ⟨x, rest, ea, gx⟩ := a1 z.1 z.2 eo
            cases e
            obtain ⟨x2, c2, e2, n2, _⟩ := all (.ref x) (by rw [ea]; exact List.mem_cons_self)
            cases e2
            exact ⟨x, rest ++ [.ref y], by rw [ea]; rfl, kp n2 gx⟩
    · obtain ⟨acc, bt, gD, la, all, a0, a1⟩ := h.o
      have sm := bt.same sD nD
      rw [hc.len, List.take_length] at a0 a1
      walk_at "sq go"
      intro e1 ne1
      have s2 := same_new (o := .lst []) ne1
      refine r_neE (fun u hu => ?_) (s2 _ _ gD) upd_same ?_
      · obtain ⟨x, c, rfl, _, _, g, ok⟩ := all u hu
        exact ok.dp (s2 _ _ g)
      have gD2 := s2 _ _ gD
      cases ef : fstC cs with
      | none =>
        have z := a0 ef
        subst z
        walk_at "sq go"
        exact q0 ef _ (sm.trans s2)
      | some z =>
        obtain ⟨x, rest, ea, gx⟩ := a1 z.1 z.2 ef
        obtain ⟨x2, c2, e2, n2, nx, _⟩ := all (.ref x) (by rw [ea]; exact List.mem_cons_self)
        cases e2
        subst ea
        have at0 : atI (V.ref x :: rest) 0 = some (.ref x) := atI_nat (j := 0) rfl
        rw [show (!decide (V.ref x :: rest = [])) = true by simp]
        walk_at "sq go"
        exact q1 z.1 z.2 ef x _ (sm.trans s2) nx (s2 _ _ gx)

/-! ### what is raised at a door -/
def dL (ms : List Int) : Option (Str × V) := (bad ms).map fun i => (("InvalidList" : Str), V.int (i : Nat))
def dN (b : Bool) (n : Int) : Option (Str × V) := if b then some (("InvalidNumber" : Str), V.int n) else none
def dueR (door : Int) (ms : List Int) (v0 v1 v2 v3 v4 : Int) : Option (Str × V) :=
  if door = 0 then (dL ms).or (dN (decide (v0 < 1)) v0) else if door = 1 then (dN (decide (v1 < 0)) v1).or (dN (decide (v0 < 1)) v0) else if door = 2 then (dN (decide (v2 < 0)) v2).or (dN (decide (v0 < 1)) v0)
  else if door = 3 then (dN (decide (v1 < 0)) v1).or (dN (decide (v0 < 1)) v0) else if door = 4 then (dN (decide (v2 < 0)) v2).or (dL ms) else if door = 5 then (dN (decide (v3 < 0)) v3).or (dL ms)
  else (dN (decide (v2 < 0)) v2).or ((dL ms).or (dN (decide (v4 < 0)) v4))
structure Siz (ms : List Int) (v0 v1 v2 v3 v4 : Int) : Prop where
  row : bad ms = none → ms.length ≤ 3 ∧ ∀ k ∈ ms, 2 ≤ k ∧ k ≤ 20
  h0 : Sm 100 v0
  h1 : v1 ≤ 6
  h2 : Sm 100 v2
  h3 : v3 ≤ 59
  h4 : Sm 100 v4
local macro_rules | `(tactic| walk_at "sq side") => `(tactic| first
  | ((with_reducible show KeptN _ _ _ _); assumption)
  | ((with_reducible show PySem.W.exmOne _ _ _ = some _); assumption))
abbrev s_law_raised : Stmt := topS 39
theorem sc_law_raised : FnScope ["door", "row", "some", "caught", "seen", "one", "e"] ["door", "row", "some"] (defScope s_law_raised) := ⟨rfl, rfl, rfl, by decide +kernel, rfl, by decide +kernel, by decide +kernel⟩

def spRaised (K : PySem.W.Frag) : Sp := fun vs H Q _ => ∃ (door : Int) (p so : Addr) (ms : List Int) (xs : List Int) (v0 v1 v2 v3 v4 : Int), vs = [.int door, .ref p, .ref so] ∧ SqL K H p (iv ms) ∧ SqL K H so (iv xs) ∧ (xs = [v0, v1, v2, v3, v4] ∨ (door = 0 ∧ xs = [v0])) ∧ Keep (0 ≤ door ∧ door < 7 ∧ Siz ms v0 v1 v2 v3 v4 ∧
  (dueR door ms v0 v1 v2 v3 v4 = none → ∀ H', Same H H' → Q .non H') ∧ ∀ nm v, dueR door ms v0 v1 v2 v3 v4 = some (nm, v) → ∀ l H', Same H H' → H l = none → H' l = some (.lst [.str nm, v, .bl true]) → Q (.ref l) H')
theorem cal_raised {CL CN CC CU CR CS : Addr} {dc : Nat} (hdc : dc + 4 ≤ 9) (hd3 : 3 < dc) (D : DefAt K mg "_law_raised" s_law_raised ["door", "row", "some"]) (B : Bt mg) (c6 : Cls6 mg CL CN CC CU CR CS) (knL : KndE K CL CN CC CU CR CS CL true false false false false) (knN : KndE K CL CN CC CU CR CS CN false true false false false)
    (nsL : PySem.W.subIn K (.ref CL) (.type "StopIteration") = some false) (nsN : PySem.W.subIn K (.ref CN) (.type "StopIteration") = some false) (c_law_error : CalC P w K mg base 1 "_law_error" (spErr K CL CN CC CU CR CS))
    (c_reachX : CalXN P w K mg base 4 "reach" (spReachX K CN CL)) (c_best_reachX : CalXN P w K mg base 5 "best_reach" (spBestX CN)) (c_fewest_stepsX : CalXN P w K mg base 4 "fewest_steps" (spFewX CN)) (c_greatest_originX : CalXN P w K mg base 4 "greatest_origin" (spGreatX K CN CL))
    (c_count_originsX : CalXN P w K mg base (dc + 4) "count_origins" (spCountX K CN CL dc)) (c_originsG : CalG1 P w K mg base ["length", "replacements", "origin"] 4 "origins" ["length", "replacements"] (spOrG K CN CL) [])
    (c_best_listsG : CalG1 P w K mg base ["steps", "most", "choices", "reached", "step", "found", "choice", "replacements", "start", "replacement"] 5 "best_lists" ["steps", "most"] (spBlG CN) []) : Cal P w K mg base 10 "_law_raised" (spRaised K) [] := by
  refine D.cal sc_law_raised (fun vs H Q E h => ?_) (fun f cdv A outer s H vs Q E hr h => ?_)
  · obtain ⟨door, p, so, ms, xs, v0, v1, v2, v3, v4, rfl, _⟩ := h
    rfl
  · obtain ⟨door, p, so, ms, xs, v0, v1, v2, v3, v4, rfl, hA, hB, hx5, ⟨d0, d7, sz, q0, q1⟩⟩ := h
    obtain ⟨m_InvalidList, m_InvalidNumber, m_InvalidCharacter, m_NothingToUndo, m_Unreadable, m_SqueezeError⟩ := c6
    have kexL := knL.ex
    have kexN := knN.ex
    refine ⟨_, (pss_cons (ps_par (i := 3) (j := 4) rfl sc_law_raised.nd rfl rfl (by decide) rfl rfl (pa_cons pe_non (pa_cons (pe_lst pa_nil) pa_nil)) (by rfl))
  (pss_cons (ps_try_keepN (i := 6) rfl rfl sc_law_raised.nd rfl rfl rfl ⟨rfl, by decide, .inl m_SqueezeError⟩ takes0N
   (fun W pn xe tk po => (pss_one (ps_if (pt_cmpR op_eq (pv 0) pe_int (nomark _)) (pss_one (ps_expr (pe_cxN c_reachX hr (by first | decide | omega) tk (by rfl) (pa_cons (pv 1) (pa_cons (pe_ix (ix_listK (K := K)) (pv 2) pe_int (fun _ _ => rfl)) pa_nil))))) (pss_one (ps_if (pt_cmpR op_eq (pv 0) pe_int (nomark _)) (pss_one (ps_expr (pe_cxN c_best_reachX hr (by first | decide | omega) tk (by rfl) (pa_cons (pe_ix (ix_listK (K := K)) (pv 2) pe_int (fun _ _ => rfl)) (pa_cons (pe_ix (ix_listK (K := K)) (pv 2) pe_int (fun _ _ => rfl)) pa_nil))))) (pss_one (ps_if (pt_cmpR op_eq (pv 0) pe_int (nomark _)) (pss_one (ps_expr (pe_cxN c_fewest_stepsX hr (by first | decide | omega) tk (by rfl) (pa_cons (pe_ix (ix_listK (K := K)) (pv 2) pe_int (fun _ _ => rfl)) (pa_cons (pe_ix (ix_listK (K := K)) (pv 2) pe_int (fun _ _ => rfl)) pa_nil))))) (pss_one (ps_if (pt_cmpR op_eq (pv 0) pe_int (nomark _)) (pss_one (ps_fgx po tk c_best_listsG hr (by first | decide | omega) (by rfl) (pa_cons (pe_ix (ix_listK (K := K)) (pv 2) pe_int (fun _ _ => rfl)) (pa_cons (pe_ix (ix_listK (K := K)) (pv 2) pe_int (fun _ _ => rfl)) pa_nil)) (pg_name (i := 5) sc_law_raised.nd rfl (Or.inl rfl))
   (pss_cons (ps_expr (pe_bmK (K' := K) PySem.F.plainAttrs_list PySem.F.slot_list_append PySem.F.type_list_append mt_append (pv 4) (pa_cons (pv 5) pa_nil)))
  (pss_one (ps_if (pt_cmpR op_eq (pe_callB (len_seqK (K := K)) (by rfl) B.len boot_len (pa_cons (pv 4) pa_nil)) pe_int (nomark _)) (pss_one ps_break) pss_nil))))) (pss_one (ps_if (pt_cmpR op_eq (pv 0) pe_int (nomark _)) (pss_one (ps_expr (pe_cxN c_greatest_originX hr (by first | decide | omega) tk (by rfl) (pa_cons (pe_ix (ix_listK (K := K)) (pv 2) pe_int (fun _ _ => rfl)) (pa_cons (pv 1) pa_nil))))) (pss_one (ps_if (pt_cmpR op_eq (pv 0) pe_int (nomark _)) (pss_one (ps_fgx po tk c_originsG hr (by first | decide | omega) (by rfl) (pa_cons (pe_ix (ix_listK (K := K)) (pv 2) pe_int (fun _ _ => rfl)) (pa_cons (pv 1) pa_nil)) (pg_name (i := 5) sc_law_raised.nd rfl (Or.inl rfl))
   (pss_cons (ps_expr (pe_bmK (K' := K) PySem.F.plainAttrs_list PySem.F.slot_list_append PySem.F.type_list_append mt_append (pv 4) (pa_cons (pv 5) pa_nil)))
  (pss_one (ps_if (pt_cmpR op_eq (pe_callB (len_seqK (K := K)) (by rfl) B.len boot_len (pa_cons (pv 4) pa_nil)) pe_int (nomark _)) (pss_one ps_break) pss_nil))))) (pss_one (ps_expr (pe_cxN c_count_originsX hr (by first | decide | omega) tk (by rfl) (pa_cons (pe_ix (ix_listK (K := K)) (pv 2) pe_int (fun _ _ => rfl)) (pa_cons (pv 1) (pa_cons (pe_ix (ix_listK (K := K)) (pv 2) pe_int (fun _ _ => rfl)) pa_nil)))))))))))))))))))
   (fun a cls d pn => (pss_one (ps_set (i := 3) sc_law_raised.nd rfl (Or.inl rfl) (pe_op op_cat (pe_calC c_law_error (roomS hr _) (by first | decide | omega) rfl (by rfl) (pa_cons (pv 6) pa_nil)) (pv 4))))))
  (pss_one (ps_ret (pv 3))))), ?_⟩
    walk_at "sq go"
    intro se nse
    have sS := same_new (o := .lst []) nse
    have gse : upd H se (.lst []) se = some (.lst []) := upd_same
    have hA1 := sS.seq hA
    have hB1 := sS.seq hB
    generalize upd H se (.lst []) = H1 at *
    walk_at "sq go"
    have non : ∀ {n : Int}, 0 ≤ n → ¬ n < 0 := fun h => by omega
    have non1 : ∀ {n : Int}, 1 ≤ n → ¬ n < 1 := fun h => by omega
    have smr : (∀ k ∈ ms, 2 ≤ k ∧ k ≤ 20) → ∀ k ∈ ms, Sm 10 k := fun h k hk => by
      have := h k hk
      unfold Sm
      omega
    refine ifI (fun e => ?_) (fun n0 => ?_)
    · have a0 : atI (iv xs) 0 = some (.int v0) := by
        rcases hx5 with z | ⟨_, z⟩ <;> (rw [z]; exact atI_nat (j := 0) rfl)
      have ed : dueR door ms v0 v1 v2 v3 v4 = (dL ms).or (dN (decide (v0 < 1)) v0) := by
        unfold dueR
        rw [if_pos e]
      walk_at "sq go"
      refine ⟨⟨fun eb h1 => ⟨?_, fun v H' s1 => ?_⟩, fun i eb d H' s1 hd => ?_, fun eb c d H' s1 hd => ?_⟩⟩
      · obtain ⟨l3, b20⟩ := sz.row eb
        exact ⟨10, 100, smr b20, sz.h0, by decide, by decide, by omega⟩
      · walk_at "sq go"
        exact q0 (by rw [ed]; simp [dL, dN, eb, non1 h1]) _ (sS.trans s1)
      · have dd : dueR door ms v0 v1 v2 v3 v4 = some (("InvalidList" : Str), V.int i) := by rw [ed]; simp [dL, dN, eb]
        refine ⟨true, kexL, fun _ x nx => ?_, fun z => by cases z⟩
        have ka : KeptN (upd H' x (Xn x (.ref CL) (some d))) x CL [("value", .int i)] := ⟨d, upd_same, by rw [upd_ne (ne_of_none hd nx)]; exact hd⟩
        have gs : upd H' x (Xn x (.ref CL) (some d)) se = some (.lst []) := upd_keep nx (s1 _ _ gse)
        walk_at "sq go"
        refine ⟨⟨knL⟩, fun l H2 s2 nl gl => ?_⟩
        have gs2 := s2 _ _ gs
        walk_at "sq go"
        intro l2 nl2
        walk_at "sq go"
        exact q1 _ _ dd l2 _ (sS.trans (s1.trans ((same_new nx).trans (s2.trans (same_new nl2))))) (sS.free (s1.free ((same_new nx).free (s2.free nl2)))) upd_same
      · have dd : dueR door ms v0 v1 v2 v3 v4 = some (("InvalidNumber" : Str), V.int v0) := by rw [ed]; simp [dL, dN, eb, c]
        let nv := v0
        refine ⟨true, kexN, fun _ x nx => ?_, fun z => by cases z⟩
        have ka : KeptN (upd H' x (Xn x (.ref CN) (some d))) x CN [("value", .int nv)] := ⟨d, upd_same, by rw [upd_ne (ne_of_none hd nx)]; exact hd⟩
        have gs : upd H' x (Xn x (.ref CN) (some d)) se = some (.lst []) := upd_keep nx (s1 _ _ gse)
        walk_at "sq go"
        refine ⟨⟨knN⟩, fun l H2 s2 nl gl => ?_⟩
        have gs2 := s2 _ _ gs
        walk_at "sq go"
        intro l2 nl2
        walk_at "sq go"
        exact q1 _ _ dd l2 _ (sS.trans (s1.trans ((same_new nx).trans (s2.trans (same_new nl2))))) (sS.free (s1.free ((same_new nx).free (s2.free nl2)))) upd_same
    · obtain rfl : xs = [v0, v1, v2, v3, v4] := hx5.resolve_right fun z => n0 z.1
      walk_at "sq go"
      refine ifI (fun e => ?_) (fun n1 => ?_)
      · have ed : dueR door ms v0 v1 v2 v3 v4 = (dN (decide (v1 < 0)) v1).or (dN (decide (v0 < 1)) v0) := by
          unfold dueR
          rw [if_neg n0, if_pos e]
        walk_at "sq go"
        have := sz.h1
        refine ⟨⟨by omega, sz.h0, fun k0 k1 v H' s1 => ?_, fun c d H' s1 hd => ?_, fun k0 c d H' s1 hd => ?_⟩⟩
        · walk_at "sq go"
          exact q0 (by rw [ed]; simp [dN, non k0, non1 k1]) _ (sS.trans s1)
        · have dd : dueR door ms v0 v1 v2 v3 v4 = some (("InvalidNumber" : Str), V.int v1) := by rw [ed]; simp [dL, dN, c]
          let nv := v1
          refine ⟨true, kexN, fun _ x nx => ?_, fun z => by cases z⟩
          have ka : KeptN (upd H' x (Xn x (.ref CN) (some d))) x CN [("value", .int nv)] := ⟨d, upd_same, by rw [upd_ne (ne_of_none hd nx)]; exact hd⟩
          have gs : upd H' x (Xn x (.ref CN) (some d)) se = some (.lst []) := upd_keep nx (s1 _ _ gse)
          walk_at "sq go"
          refine ⟨⟨knN⟩, fun l H2 s2 nl gl => ?_⟩
          have gs2 := s2 _ _ gs
          walk_at "sq go"
          intro l2 nl2
          walk_at "sq go"
          exact q1 _ _ dd l2 _ (sS.trans (s1.trans ((same_new nx).trans (s2.trans (same_new nl2))))) (sS.free (s1.free ((same_new nx).free (s2.free nl2)))) upd_same
        · have dd : dueR door ms v0 v1 v2 v3 v4 = some (("InvalidNumber" : Str), V.int v0) := by rw [ed]; simp [dL, dN, c, non k0]
          let nv := v0
          refine ⟨true, kexN, fun _ x nx => ?_, fun z => by cases z⟩
          have ka : KeptN (upd H' x (Xn x (.ref CN) (some d))) x CN [("value", .int nv)] := ⟨d, upd_same, by rw [upd_ne (ne_of_none hd nx)]; exact hd⟩
          have gs : upd H' x (Xn x (.ref CN) (some d)) se = some (.lst []) := upd_keep nx (s1 _ _ gse)
          walk_at "sq go"
          refine ⟨⟨knN⟩, fun l H2 s2 nl gl => ?_⟩
          have gs2 := s2 _ _ gs
          walk_at "sq go"
          intro l2 nl2
          walk_at "sq go"
          exact q1 _ _ dd l2 _ (sS.trans (s1.trans ((same_new nx).trans (s2.trans (same_new nl2))))) (sS.free (s1.free ((same_new nx).free (s2.free nl2)))) upd_same
      · walk_at "sq go"
        refine ifI (fun e => ?_) (fun n2 => ?_)
        · have ed : dueR door ms v0 v1 v2 v3 v4 = (dN (decide (v2 < 0)) v2).or (dN (decide (v0 < 1)) v0) := by
            unfold dueR
            rw [if_neg n0, if_neg n1, if_pos e]
          walk_at "sq go"
          refine ⟨⟨sz.h2, sz.h0, fun k0 k1 v H' s1 => ?_, fun c d H' s1 hd => ?_, fun k0 c d H' s1 hd => ?_⟩⟩
          · walk_at "sq go"
            exact q0 (by rw [ed]; simp [dN, non k0, non1 k1]) _ (sS.trans s1)
          · have dd : dueR door ms v0 v1 v2 v3 v4 = some (("InvalidNumber" : Str), V.int v2) := by rw [ed]; simp [dL, dN, c]
            let nv := v2
            refine ⟨true, kexN, fun _ x nx => ?_, fun z => by cases z⟩
            have ka : KeptN (upd H' x (Xn x (.ref CN) (some d))) x CN [("value", .int nv)] := ⟨d, upd_same, by rw [upd_ne (ne_of_none hd nx)]; exact hd⟩
            have gs : upd H' x (Xn x (.ref CN) (some d)) se = some (.lst []) := upd_keep nx (s1 _ _ gse)
            walk_at "sq go"
            refine ⟨⟨knN⟩, fun l H2 s2 nl gl => ?_⟩
            have gs2 := s2 _ _ gs
            walk_at "sq go"
            intro l2 nl2
            walk_at "sq go"
            exact q1 _ _ dd l2 _ (sS.trans (s1.trans ((same_new nx).trans (s2.trans (same_new nl2))))) (sS.free (s1.free ((same_new nx).free (s2.free nl2)))) upd_same
          · have dd : dueR door ms v0 v1 v2 v3 v4 = some (("InvalidNumber" : Str), V.int v0) := by rw [ed]; simp [dL, dN, c, non k0]
            let nv := v0
            refine ⟨true, kexN, fun _ x nx => ?_, fun z => by cases z⟩
            have ka : KeptN (upd H' x (Xn x (.ref CN) (some d))) x CN [("value", .int nv)] := ⟨d, upd_same, by rw [upd_ne (ne_of_none hd nx)]; exact hd⟩
            have gs : upd H' x (Xn x (.ref CN) (some d)) se = some (.lst []) := upd_keep nx (s1 _ _ gse)
            walk_at "sq go"
            refine ⟨⟨knN⟩, fun l H2 s2 nl gl => ?_⟩
            have gs2 := s2 _ _ gs
            walk_at "sq go"
            intro l2 nl2
            walk_at "sq go"
            exact q1 _ _ dd l2 _ (sS.trans (s1.trans ((same_new nx).trans (s2.trans (same_new nl2))))) (sS.free (s1.free ((same_new nx).free (s2.free nl2)))) upd_same
        · walk_at "sq go"
          refine ifI (fun e => ?_) (fun n3 => ?_)
          · have ed : dueR door ms v0 v1 v2 v3 v4 = (dN (decide (v1 < 0)) v1).or (dN (decide (v0 < 1)) v0) := by
              unfold dueR
              rw [if_neg n0, if_neg n1, if_neg n2, if_pos e]
            walk_at "sq go"
            show Gc (spBlG CN) [V.int v1, V.int v0] _ H1
            refine ⟨⟨_, _, ⟨v1, v0, rfl, rfl, rfl, sz.h1, sz.h0⟩, ⟨fun cls d H' hx => ?_, fun zs hz => ⟨fun m σ G => ∃ v, σ = [some (.int door), some (.ref p), some (.ref so), some .non, some (.ref se), some v, none] ∧ (0 ≤ v1 ∧ 1 ≤ v0) ∧ Same H G ∧ G se = some (.lst [v]) ∧ CzP zs G, trivial, fun G hG => ?_, fun m x G e1 hG cz => ?_, fun m σ G hW => ?_⟩⟩⟩⟩
            · obtain ⟨d, rfl, s1, h⟩ := hx
              rcases h with ⟨c, rfl, hd⟩ | ⟨k0, c, rfl, hd⟩
              · refine ⟨nsN, ?_⟩
                have dd : dueR door ms v0 v1 v2 v3 v4 = some (("InvalidNumber" : Str), V.int v1) := by rw [ed]; simp [dN, c]
                let nv := v1
                refine ⟨true, kexN, fun _ x nx => ?_, fun z => by cases z⟩
                have ka : KeptN (upd H' x (Xn x (.ref CN) (some d))) x CN [("value", .int nv)] := ⟨d, upd_same, by rw [upd_ne (ne_of_none hd nx)]; exact hd⟩
                have gs : upd H' x (Xn x (.ref CN) (some d)) se = some (.lst []) := upd_keep nx (s1 _ _ gse)
                walk_at "sq go"
                refine ⟨⟨knN⟩, fun l H2 s2 nl gl => ?_⟩
                have gs2 := s2 _ _ gs
                walk_at "sq go"
                intro l2 nl2
                walk_at "sq go"
                exact q1 _ _ dd l2 _ (sS.trans (s1.trans ((same_new nx).trans (s2.trans (same_new nl2))))) (sS.free (s1.free ((same_new nx).free (s2.free nl2)))) upd_same
              · refine ⟨nsN, ?_⟩
                have dd : dueR door ms v0 v1 v2 v3 v4 = some (("InvalidNumber" : Str), V.int v0) := by rw [ed]; simp [dN, c, non k0]
                let nv := v0
                refine ⟨true, kexN, fun _ x nx => ?_, fun z => by cases z⟩
                have ka : KeptN (upd H' x (Xn x (.ref CN) (some d))) x CN [("value", .int nv)] := ⟨d, upd_same, by rw [upd_ne (ne_of_none hd nx)]; exact hd⟩
                have gs : upd H' x (Xn x (.ref CN) (some d)) se = some (.lst []) := upd_keep nx (s1 _ _ gse)
                walk_at "sq go"
                refine ⟨⟨knN⟩, fun l H2 s2 nl gl => ?_⟩
                have gs2 := s2 _ _ gs
                walk_at "sq go"
                intro l2 nl2
                walk_at "sq go"
                exact q1 _ _ dd l2 _ (sS.trans (s1.trans ((same_new nx).trans (s2.trans (same_new nl2))))) (sS.free (s1.free ((same_new nx).free (s2.free nl2)))) upd_same
            · obtain ⟨⟨k0, k1⟩, s1⟩ := hG
              walk_at "sq go"
              exact q0 (by rw [ed]; simp [dN, non k0, non1 k1]) _ (sS.trans s1)
            · obtain ⟨⟨k0, k1⟩, s1, l, rfl⟩ := hG
              have gs := s1 _ _ gse
              walk_at "sq go"
              exact ⟨same_put (sS.trans s1) nse, upd_same, cz.put gs fun z => nomatch z⟩
            · obtain ⟨v, rfl, ⟨k0, k1⟩, s1, gs, cz⟩ := hW
              refine ⟨trivial, cz, fun G2 hG => ?_, fun m2 x G2 e1 hG cz2 => ?_⟩
              · walk_at "sq go"
                exact q0 (by rw [ed]; simp [dN, non k0, non1 k1]) _ (s1.trans hG.2)
              · obtain ⟨_, s2, l, rfl⟩ := hG
                have gs2 := s2 _ _ gs
                walk_at "sq go"
                exact q0 (by rw [ed]; simp [dN, non k0, non1 k1]) _ (same_put (s1.trans s2) nse)
          · walk_at "sq go"
            refine ifI (fun e => ?_) (fun n4 => ?_)
            · have ed : dueR door ms v0 v1 v2 v3 v4 = (dN (decide (v2 < 0)) v2).or (dL ms) := by
                unfold dueR
                rw [if_neg n0, if_neg n1, if_neg n2, if_neg n3, if_pos e]
              walk_at "sq go"
              refine ⟨⟨fun k0 eb => ⟨?_, fun v H' s1 => ?_⟩, fun c d H' s1 hd => ?_, fun i k0 eb d H' s1 hd => ?_⟩⟩
              · obtain ⟨l3, b20⟩ := sz.row eb
                exact ⟨10, 100, smr b20, sz.h2, by decide, by decide, by omega⟩
              · walk_at "sq go"
                exact q0 (by rw [ed]; simp [dL, dN, eb, non k0]) _ (sS.trans s1)
              · have dd : dueR door ms v0 v1 v2 v3 v4 = some (("InvalidNumber" : Str), V.int v2) := by rw [ed]; simp [dL, dN, c]
                let nv := v2
                refine ⟨true, kexN, fun _ x nx => ?_, fun z => by cases z⟩
                have ka : KeptN (upd H' x (Xn x (.ref CN) (some d))) x CN [("value", .int nv)] := ⟨d, upd_same, by rw [upd_ne (ne_of_none hd nx)]; exact hd⟩
                have gs : upd H' x (Xn x (.ref CN) (some d)) se = some (.lst []) := upd_keep nx (s1 _ _ gse)
                walk_at "sq go"
                refine ⟨⟨knN⟩, fun l H2 s2 nl gl => ?_⟩
                have gs2 := s2 _ _ gs
                walk_at "sq go"
                intro l2 nl2
                walk_at "sq go"
                exact q1 _ _ dd l2 _ (sS.trans (s1.trans ((same_new nx).trans (s2.trans (same_new nl2))))) (sS.free (s1.free ((same_new nx).free (s2.free nl2)))) upd_same
              · have dd : dueR door ms v0 v1 v2 v3 v4 = some (("InvalidList" : Str), V.int i) := by rw [ed]; simp [dL, dN, eb, non k0]
                refine ⟨true, kexL, fun _ x nx => ?_, fun z => by cases z⟩
                have ka : KeptN (upd H' x (Xn x (.ref CL) (some d))) x CL [("value", .int i)] := ⟨d, upd_same, by rw [upd_ne (ne_of_none hd nx)]; exact hd⟩
                have gs : upd H' x (Xn x (.ref CL) (some d)) se = some (.lst []) := upd_keep nx (s1 _ _ gse)
                walk_at "sq go"
                refine ⟨⟨knL⟩, fun l H2 s2 nl gl => ?_⟩
                have gs2 := s2 _ _ gs
                walk_at "sq go"
                intro l2 nl2
                walk_at "sq go"
                exact q1 _ _ dd l2 _ (sS.trans (s1.trans ((same_new nx).trans (s2.trans (same_new nl2))))) (sS.free (s1.free ((same_new nx).free (s2.free nl2)))) upd_same
            · walk_at "sq go"
              refine ifI (fun e => ?_) (fun n5 => ?_)
              · have ed : dueR door ms v0 v1 v2 v3 v4 = (dN (decide (v3 < 0)) v3).or (dL ms) := by
                  unfold dueR
                  rw [if_neg n0, if_neg n1, if_neg n2, if_neg n3, if_neg n4, if_pos e]
                walk_at "sq go"
                show Gc (spOrG K CN CL) [V.int v3, V.ref p] _ H1
                have := sz.h3
                refine ⟨⟨_, _, ⟨v3, p, ms, rfl, rfl, rfl, fun k0 eb => ?_⟩, ⟨fun cls d H' hx => ?_, fun zs hz => ⟨fun m σ G => ∃ v, σ = [some (.int door), some (.ref p), some (.ref so), some .non, some (.ref se), some v, none] ∧ (0 ≤ v3 ∧ bad ms = none) ∧ Same H G ∧ G se = some (.lst [v]) ∧ CzP zs G, hA1, fun G hG => ?_, fun m x G e1 hG cz => ?_, fun m σ G hW => ?_⟩⟩⟩⟩
                · obtain ⟨l3, b20⟩ := sz.row eb
                  have two : Two ms := fun k hk => (b20 k hk).1
                  exact ⟨by omega, fun k hk => (by have := b20 k hk; omega), Int.le_trans (prodL_le (g := 20) (n := 3) two (fun k hk => (b20 k hk).2) l3 (by decide)) (by decide)⟩
                · obtain ⟨d, rfl, s1, h⟩ := hx
                  rcases h with ⟨c, rfl, hd⟩ | ⟨k0, i, eb, rfl, hd⟩
                  · refine ⟨nsN, ?_⟩
                    have dd : dueR door ms v0 v1 v2 v3 v4 = some (("InvalidNumber" : Str), V.int v3) := by rw [ed]; simp [dN, c]
                    let nv := v3
                    refine ⟨true, kexN, fun _ x nx => ?_, fun z => by cases z⟩
                    have ka : KeptN (upd H' x (Xn x (.ref CN) (some d))) x CN [("value", .int nv)] := ⟨d, upd_same, by rw [upd_ne (ne_of_none hd nx)]; exact hd⟩
                    have gs : upd H' x (Xn x (.ref CN) (some d)) se = some (.lst []) := upd_keep nx (s1 _ _ gse)
                    walk_at "sq go"
                    refine ⟨⟨knN⟩, fun l H2 s2 nl gl => ?_⟩
                    have gs2 := s2 _ _ gs
                    walk_at "sq go"
                    intro l2 nl2
                    walk_at "sq go"
                    exact q1 _ _ dd l2 _ (sS.trans (s1.trans ((same_new nx).trans (s2.trans (same_new nl2))))) (sS.free (s1.free ((same_new nx).free (s2.free nl2)))) upd_same
                  · refine ⟨nsL, ?_⟩
                    have dd : dueR door ms v0 v1 v2 v3 v4 = some (("InvalidList" : Str), V.int i) := by rw [ed]; simp [dL, dN, eb, non k0]
                    refine ⟨true, kexL, fun _ x nx => ?_, fun z => by cases z⟩
                    have ka : KeptN (upd H' x (Xn x (.ref CL) (some d))) x CL [("value", .int i)] := ⟨d, upd_same, by rw [upd_ne (ne_of_none hd nx)]; exact hd⟩
                    have gs : upd H' x (Xn x (.ref CL) (some d)) se = some (.lst []) := upd_keep nx (s1 _ _ gse)
                    walk_at "sq go"
                    refine ⟨⟨knL⟩, fun l H2 s2 nl gl => ?_⟩
                    have gs2 := s2 _ _ gs
                    walk_at "sq go"
                    intro l2 nl2
                    walk_at "sq go"
                    exact q1 _ _ dd l2 _ (sS.trans (s1.trans ((same_new nx).trans (s2.trans (same_new nl2))))) (sS.free (s1.free ((same_new nx).free (s2.free nl2)))) upd_same
                · obtain ⟨⟨k0, eb⟩, s1⟩ := hG
                  walk_at "sq go"
                  exact q0 (by rw [ed]; simp [dL, dN, eb, non k0]) _ (sS.trans s1)
                · obtain ⟨⟨k0, eb⟩, s1, l, rfl⟩ := hG
                  have gs := s1 _ _ gse
                  walk_at "sq go"
                  exact ⟨⟨k0, eb⟩, same_put (sS.trans s1) nse, upd_same, cz.put gs fun z => nomatch z⟩
                · obtain ⟨v, rfl, ⟨k0, eb⟩, s1, gs, cz⟩ := hW
                  refine ⟨s1.seq hA, cz, fun G2 hG => ?_, fun m2 x G2 e1 hG cz2 => ?_⟩
                  · walk_at "sq go"
                    exact q0 (by rw [ed]; simp [dL, dN, eb, non k0]) _ (s1.trans hG.2)
                  · obtain ⟨_, s2, l, rfl⟩ := hG
                    have gs2 := s2 _ _ gs
                    walk_at "sq go"
                    exact q0 (by rw [ed]; simp [dL, dN, eb, non k0]) _ (same_put (s1.trans s2) nse)
              · have ed : dueR door ms v0 v1 v2 v3 v4 = (dN (decide (v2 < 0)) v2).or ((dL ms).or (dN (decide (v4 < 0)) v4)) := by
                  unfold dueR
                  rw [if_neg n0, if_neg n1, if_neg n2, if_neg n3, if_neg n4, if_neg n5]
                walk_at "sq go"
                refine ⟨⟨fun k0 eb k4 => ⟨?_, fun v H' s1 => ?_⟩, fun c d H' s1 hd => ?_, fun i k0 eb d H' s1 hd => ?_, fun k0 eb c d H' s1 hd => ?_⟩⟩
                · obtain ⟨l3, b20⟩ := sz.row eb
                  exact ⟨by omega, fun k hk => by have := b20 k hk; omega, by omega, sz.h4.mono (by decide)⟩
                · walk_at "sq go"
                  exact q0 (by rw [ed]; simp [dL, dN, eb, non k0, non k4]) _ (sS.trans s1)
                · have dd : dueR door ms v0 v1 v2 v3 v4 = some (("InvalidNumber" : Str), V.int v2) := by rw [ed]; simp [dL, dN, c]
                  let nv := v2
                  refine ⟨true, kexN, fun _ x nx => ?_, fun z => by cases z⟩
                  have ka : KeptN (upd H' x (Xn x (.ref CN) (some d))) x CN [("value", .int nv)] := ⟨d, upd_same, by rw [upd_ne (ne_of_none hd nx)]; exact hd⟩
                  have gs : upd H' x (Xn x (.ref CN) (some d)) se = some (.lst []) := upd_keep nx (s1 _ _ gse)
                  walk_at "sq go"
                  refine ⟨⟨knN⟩, fun l H2 s2 nl gl => ?_⟩
                  have gs2 := s2 _ _ gs
                  walk_at "sq go"
                  intro l2 nl2
                  walk_at "sq go"
                  exact q1 _ _ dd l2 _ (sS.trans (s1.trans ((same_new nx).trans (s2.trans (same_new nl2))))) (sS.free (s1.free ((same_new nx).free (s2.free nl2)))) upd_same
                · have dd : dueR door ms v0 v1 v2 v3 v4 = some (("InvalidList" : Str), V.int i) := by rw [ed]; simp [dL, dN, eb, non k0]
                  refine ⟨true, kexL, fun _ x nx => ?_, fun z => by cases z⟩
                  have ka : KeptN (upd H' x (Xn x (.ref CL) (some d))) x CL [("value", .int i)] := ⟨d, upd_same, by rw [upd_ne (ne_of_none hd nx)]; exact hd⟩
                  have gs : upd H' x (Xn x (.ref CL) (some d)) se = some (.lst []) := upd_keep nx (s1 _ _ gse)
                  walk_at "sq go"
                  refine ⟨⟨knL⟩, fun l H2 s2 nl gl => ?_⟩
                  have gs2 := s2 _ _ gs
                  walk_at "sq go"
                  intro l2 nl2
                  walk_at "sq go"
                  exact q1 _ _ dd l2 _ (sS.trans (s1.trans ((same_new nx).trans (s2.trans (same_new nl2))))) (sS.free (s1.free ((same_new nx).free (s2.free nl2)))) upd_same
                · have dd : dueR door ms v0 v1 v2 v3 v4 = some (("InvalidNumber" : Str), V.int v4) := by rw [ed]; simp [dL, dN, c, eb, non k0]
                  let nv := v4
                  refine ⟨true, kexN, fun _ x nx => ?_, fun z => by cases z⟩
                  have ka : KeptN (upd H' x (Xn x (.ref CN) (some d))) x CN [("value", .int nv)] := ⟨d, upd_same, by rw [upd_ne (ne_of_none hd nx)]; exact hd⟩
                  have gs : upd H' x (Xn x (.ref CN) (some d)) se = some (.lst []) := upd_keep nx (s1 _ _ gse)
                  walk_at "sq go"
                  refine ⟨⟨knN⟩, fun l H2 s2 nl gl => ?_⟩
                  have gs2 := s2 _ _ gs
                  walk_at "sq go"
                  intro l2 nl2
                  walk_at "sq go"
                  exact q1 _ _ dd l2 _ (sS.trans (s1.trans ((same_new nx).trans (s2.trans (same_new nl2))))) (sS.free (s1.free ((same_new nx).free (s2.free nl2)))) upd_same

/-! ### the errors that are due -/
local macro_rules | `(tactic| walk_at "sq side") => `(tactic| first
  | ((with_reducible show List.all _ _ = true); assumption)
  | ((with_reducible show _[_]? = some _); assumption))
/-- an error's list, or None -/
def ErrW (H : Hp) (x : V) : Option (Str × V) → Prop
  | none => x = .non
  | some c => ∃ l, x = .ref l ∧ H l = some (.lst [.str c.1, c.2, .bl true])
theorem ErrW.same {H H' : Hp} {x : V} {o : Option (Str × V)} (h : ErrW H x o) (s : Same H H') : ErrW H' x o := by
  cases o with
  | none => exact h
  | some i =>
    obtain ⟨l, e, g⟩ := h
    exact ⟨l, e, s _ _ g⟩
theorem pickA {a : Int} (a0 : 0 ≤ a) (a1 : a < 10 ^ 29) {w : Int} (h0 : 0 ≤ w) (h1 : w < 4) : ∃ v, atI [V.int 1, V.int 0, V.int (-1), V.int (1 + a)] w = some (.int v) ∧ Sm 100 v := by
  rcases (show w = 0 ∨ w = 1 ∨ w = 2 ∨ w = 3 by omega) with z | z | z | z <;> rw [z]
  · exact ⟨_, atI_nat (j := 0) rfl, by unfold Sm; decide⟩
  · exact ⟨_, atI_nat (j := 1) rfl, by unfold Sm; decide⟩
  · exact ⟨_, atI_nat (j := 2) rfl, by unfold Sm; decide⟩
  · exact ⟨_, atI_nat (j := 3) rfl, by unfold Sm; omega⟩
theorem pickB {a : Int} (a0 : 0 ≤ a) (a1 : a < 10 ^ 29) {w : Int} (h0 : 0 ≤ w) (h1 : w < 4) : ∃ v, atI [V.int a, V.int 0, V.int (-1), V.int (-2)] w = some (.int v) ∧ Sm 100 v := by
  rcases (show w = 0 ∨ w = 1 ∨ w = 2 ∨ w = 3 by omega) with z | z | z | z <;> rw [z]
  · exact ⟨_, atI_nat (j := 0) rfl, by unfold Sm; omega⟩
  · exact ⟨_, atI_nat (j := 1) rfl, by unfold Sm; decide⟩
  · exact ⟨_, atI_nat (j := 2) rfl, by unfold Sm; decide⟩
  · exact ⟨_, atI_nat (j := 3) rfl, by unfold Sm; decide⟩
theorem pickC {a : Int} (a0 : 0 ≤ a) (a1 : a < 60) {w : Int} (h0 : 0 ≤ w) (h1 : w < 2) : ∃ v, atI [V.int a, V.int (-1)] w = some (.int v) ∧ v ≤ 59 := by
  rcases (show w = 0 ∨ w = 1 by omega) with z | z <;> rw [z]
  · exact ⟨_, atI_nat (j := 0) rfl, by omega⟩
  · exact ⟨_, atI_nat (j := 1) rfl, by decide⟩
theorem pickD {w : Int} (h0 : 0 ≤ w) (h1 : w < 4) : ∃ v, atI [V.int 0, V.int 5, V.int (-1), V.int (-9)] w = some (.int v) ∧ Sm 100 v := by
  rcases (show w = 0 ∨ w = 1 ∨ w = 2 ∨ w = 3 by omega) with z | z | z | z <;> rw [z]
  · exact ⟨_, atI_nat (j := 0) rfl, by unfold Sm; decide⟩
  · exact ⟨_, atI_nat (j := 1) rfl, by unfold Sm; decide⟩
  · exact ⟨_, atI_nat (j := 2) rfl, by unfold Sm; decide⟩
  · exact ⟨_, atI_nat (j := 3) rfl, by unfold Sm; decide⟩
/-- the list's check -/
def lowV (ms : List Int) : V := match bad ms with | some i => .int (i : Nat) | none => .non
def cL (ms : List Int) : Str × V × Bool := ("InvalidList", lowV ms, decide (bad ms ≠ none))
def cN (n : Int) (b : Bool) : Str × V × Bool := ("InvalidNumber", .int n, b)
def tupC (c : Str × V × Bool) : HO := .tup [.str c.1, c.2.1, .bl c.2.2]
def dV : V → PyData
  | .int n => .int n
  | _ => .none
def dErr : Option (Str × V) → PyData
  | none => .none
  | some c => .list [.str c.1, dV c.2, .bool true]
def OkD (o : Option (Str × V)) : Prop := ∀ c, o = some c → OkC (c.1, c.2, true)
theorem OkD.or {a b : Option (Str × V)} (h : OkD a) (g : OkD b) : OkD (a.or b) := fun c e => by
  cases a with
  | none => exact g c (by simpa using e)
  | some z => exact h c (by simpa using e)
theorem okd_L (ms : List Int) : OkD (dL ms) := fun c e => by
  unfold dL at e
  cases eb : bad ms with
  | none =>
    rw [eb] at e
    cases e
  | some i =>
    rw [eb] at e
    cases e
    exact ⟨.inl rfl, .inr ⟨_, rfl⟩⟩
theorem okd_N (b : Bool) (n : Int) : OkD (dN b n) := fun c e => by
  unfold dN at e
  cases b with
  | false => cases e
  | true =>
    cases e
    exact ⟨.inr rfl, .inr ⟨_, rfl⟩⟩
theorem okd_due (door : Int) (ms : List Int) (v0 v1 v2 v3 v4 : Int) : OkD (dueR door ms v0 v1 v2 v3 v4) := by
  unfold dueR
  repeat' split
  all_goals first | exact (okd_L _).or (okd_N _ _) | exact (okd_N _ _).or (okd_N _ _) | exact (okd_N _ _).or (okd_L _) | exact (okd_N _ _).or ((okd_L _).or (okd_N _ _))
theorem ErrW.dp {H : Hp} {x : V} {o : Option (Str × V)} (h : ErrW H x o) (ok : OkD o) : Dp K H x (dErr o) ∧ plain (dErr o) = true ∧ (dErr o).depth ≤ 1 := by
  cases o with
  | none =>
    obtain rfl : x = .non := h
    exact ⟨.non, rfl, by decide⟩
  | some c =>
    obtain ⟨l, rfl, g⟩ := h
    obtain ⟨nm, v⟩ := c
    obtain ⟨h1, h2⟩ := ok _ rfl
    have e : (PyData.str nm).canLay0 = true := by
      rcases h1 with z | z <;> (rw [show nm = _ from z]; decide +kernel)
    have d : Dp K H v (dV v) ∧ plain (dV v) = true ∧ (dV v).depth = 0 := by
      rcases h2 with z | ⟨n, z⟩ <;> (rw [show v = _ from z])
      · exact ⟨.non, rfl, rfl⟩
      · exact ⟨.int n, rfl, rfl⟩
    refine ⟨.lst (seqL_of g) (.cons (.str _) (.cons d.1 (.cons (.bl _) .nil))), ?_, ?_⟩
    · simp [dErr, plain, plainAll, e, d.2.1]
    · simp [dErr, PyData.depth, PyData.depthAll, d.2.2]
theorem errs_dp {H : Hp} {due : Nat → Option (Str × V)} (ok : ∀ m, OkD (due m)) : ∀ {us : List V} {k : Nat}, (∀ m u, us[m]? = some u → ErrW H u (due (k + m))) → DpAll K H us ((List.range' k us.length).map fun m => dErr (due m)) ∧
    plainAll ((List.range' k us.length).map fun m => dErr (due m)) = true ∧ PyData.depthAll ((List.range' k us.length).map fun m => dErr (due m)) ≤ 1
  | [], k, _ => ⟨.nil, rfl, by simp [PyData.depthAll]⟩
  | u :: us, k, h => by
    obtain ⟨a1, a2, a3⟩ := errs_dp (H := H) ok (us := us) (k := k + 1) fun m x e => by
      have := h (m + 1) x (by simpa using e)
      rw [show k + 1 + m = k + (m + 1) by omega]
      exact this
    obtain ⟨b1, b2, b3⟩ := (h 0 u rfl).dp (K := K) (ok _)
    rw [List.length_cons, List.range'_succ, List.map_cons]
    refine ⟨.cons b1 a1, ?_, ?_⟩
    · simp only [plainAll, a2, Bool.and_true]
      exact b2
    · rw [PyData.depthAll]
      have : (dErr (due (k + 0))).depth ≤ 1 := b3
      rw [Nat.add_zero] at this
      omega
theorem alike_errs {H : Hp} {a b : Addr} {us ws : List V} {due : Nat → Option (Str × V)} (ok : ∀ m, OkD (due m)) (ha : H a = some (.lst us)) (hb : H b = some (.lst ws)) (hl : us.length = ws.length) (h7 : us.length ≤ 1000) (h1 : ∀ m u, us[m]? = some u → ErrW H u (due m)) (h2 : ∀ m u, ws[m]? = some u → ErrW H u (due m)) : Alike K H 2 (.ref a) (.ref b) := by
  obtain ⟨a1, a2, a3⟩ := errs_dp (K := K) ok (us := us) (k := 0) fun m u e => by rw [Nat.zero_add]; exact h1 m u e
  obtain ⟨b1, _, _⟩ := errs_dp (K := K) ok (us := ws) (k := 0) fun m u e => by rw [Nat.zero_add]; exact h2 m u e
  refine ⟨.list ((List.range' 0 us.length).map fun m => dErr (due m)), .lst (seqL_of ha) a1, .lst (seqL_of hb) (by rw [hl]; exact b1), ?_, ?_⟩
  · simp only [plain, a2, Bool.and_true, decide_eq_true_eq, List.length_map, List.length_range']
    omega
  · rw [PyData.depth]
    omega
theorem errs_snoc {K6 : Hp} {D : Addr} {us : List V} {x : V} {t : Nat} {due : Nat → Option (Str × V)} (lu : us.length = t) (ok : ∀ (m : Nat) u, us[m]? = some u → ErrW K6 u (due m)) (hx : ErrW K6 x (due t)) (gD : K6 D = some (.lst us)) (okd : ∀ m, OkD (due m)) :
    ∀ (m : Nat) u, (us ++ [x])[m]? = some u → ErrW (upd K6 D (.lst (us ++ [x]))) u (due m) := fun m u e => by
  -- a told list is not the list itself: its first item is a text
  have txt : ∀ (m : Nat) u, us[m]? = some u → u = .non ∨ ∃ l, u = .ref l := fun m u e => by
    have z := ok m u e
    cases eo : due m with
    | none =>
      rw [eo] at z
      exact .inl z
    | some c =>
      rw [eo] at z
      obtain ⟨l, e, _⟩ := z
      exact .inr ⟨l, e⟩
  have up : ∀ {u : V} {m : Nat}, ErrW K6 u (due m) → ErrW (upd K6 D (.lst (us ++ [x]))) u (due m) := fun {u m} h => by
    cases eo : due m with
    | none =>
      rw [eo] at h
      exact h
    | some c =>
      rw [eo] at h
      obtain ⟨l, rfl, g⟩ := h
      refine ⟨l, rfl, ?_⟩
      rw [upd_ne]
      · exact g
      · intro z
        rw [z, gD] at g
        have e := HO.lst.inj (Option.some.inj g)
        rcases txt 0 (.str c.1) (by rw [e]; rfl) with y | ⟨l, y⟩ <;> cases y
  by_cases hm : m < us.length
  · rw [List.getElem?_append_left hm] at e
    exact up (ok m u e)
  · have : m = t := by
      have := (List.getElem?_eq_some_iff.mp e).1
      rw [List.length_append, List.length_singleton] at this
      omega
    subst this
    rw [List.getElem?_append_right (by omega), lu, Nat.sub_self] at e
    cases e
    exact up hx
/-- the checks of a door -/
def chk (ms : List Int) (v0 v1 v2 v3 v4 : Int) : Nat → List (Str × V × Bool)
  | 0 => [cL ms, cN v0 (decide (v0 < 1))]
  | 1 => [cN v1 (decide (v1 < 0)), cN v0 (decide (v0 < 1))]
  | 2 => [cN v2 (decide (v2 < 0)), cN v0 (decide (v0 < 1))]
  | 3 => [cN v1 (decide (v1 < 0)), cN v0 (decide (v0 < 1))]
  | 4 => [cN v2 (decide (v2 < 0)), cL ms]
  | 5 => [cN v3 (decide (v3 < 0)), cL ms]
  | _ => [cN v2 (decide (v2 < 0)), cL ms, cN v4 (decide (v4 < 0))]
theorem fst_chk (ms : List Int) (v0 v1 v2 v3 v4 : Int) {i : Nat} (hi : i < 7) : fstC (chk ms v0 v1 v2 v3 v4 i) = dueR i ms v0 v1 v2 v3 v4 := by
  have eL : ∀ b : Option Nat, bad ms = b → lowV ms = (match b with | some i => V.int (i : Nat) | none => .non) := fun b e => by
    unfold lowV
    rw [e]
  have eD : ∀ b : Option Nat, bad ms = b → dL ms = b.map fun i => (("InvalidList" : Str), V.int (i : Nat)) := fun b e => by
    unfold dL
    rw [e]
  rcases (show i = 0 ∨ i = 1 ∨ i = 2 ∨ i = 3 ∨ i = 4 ∨ i = 5 ∨ i = 6 by omega) with z | z | z | z | z | z | z <;> rw [z] <;>
    (cases eb : bad ms <;> by_cases c0 : v0 < 1 <;> by_cases c1 : v1 < 0 <;> by_cases c2 : v2 < 0 <;> by_cases c3 : v3 < 0 <;> by_cases c4 : v4 < 0 <;> simp [fstC, chk, cL, cN, dueR, dN, eD _ eb, eL _ eb, eb, c0, c1, c2, c3, c4])
theorem ok_chk (ms : List Int) (v0 v1 v2 v3 v4 : Int) {i : Nat} (hi : i < 7) : (∀ c ∈ chk ms v0 v1 v2 v3 v4 i, OkC c) ∧ (chk ms v0 v1 v2 v3 v4 i).length ≤ 10 := by
  have oL : OkC (cL ms) := by
    have z : lowV ms = .non ∨ ∃ n, lowV ms = .int n := by
      unfold lowV
      cases bad ms with
      | none => exact .inl rfl
      | some i => exact .inr ⟨_, rfl⟩
    exact ⟨.inl rfl, z⟩
  have oN : ∀ n b, OkC (cN n b) := fun n b => ⟨.inr rfl, .inr ⟨_, rfl⟩⟩
  rcases (show i = 0 ∨ i = 1 ∨ i = 2 ∨ i = 3 ∨ i = 4 ∨ i = 5 ∨ i = 6 by omega) with z | z | z | z | z | z | z <;> rw [z] <;>
    (simp only [chk, List.mem_cons, List.not_mem_nil, or_false, List.length_cons, List.length_nil]; refine ⟨fun c hc => ?_, by decide⟩; rcases hc with rfl | rfl | rfl <;> first | exact oL | exact oN _ _)
abbrev s_law : Stmt := topS 41
theorem sc_law : FnScope ["script", "source", "k", "turn", "row", "low", "listed", "some", "most_low", "steps_low", "long_low", "far_low", "last_low", "dues", "saved", "told", "spot", "one", "door", "checks"] ["script"] (defScope s_law) := ⟨rfl, rfl, rfl, by decide +kernel, rfl, by decide +kernel, by decide +kernel⟩

def spLaw (K : PySem.W.Frag) : Sp := fun vs H Q _ => ∃ (a : Addr) (ns : List Int), vs = [.ref a] ∧ SqL K H a (iv ns) ∧ ns.length ≤ 63 ∧ ∀ H', Q (.bl true) H'
theorem ok_law {f : Addr} {fd : FuncData} (F : Fun K "law" "law" s_law f fd) (B : Bt mg) (c_law_source : Cal P w K mg base 1 "_law_source" (spSource K) []) (c_law_draw : Cal P w K mg base 1 "_law_draw" spDraw []) (c_law_row : Cal P w K mg base 2 "_law_row" spRow []) (c_law_spoilt : Cal P w K mg base 2 "_law_spoilt" (spSpoilt K) [])
    (c_law_due : Cal P w K mg base 1 "_law_due" (spDue K) []) (c_law_raised : Cal P w K mg base 10 "_law_raised" (spRaised K) []) (c_law_same : Cal P w K mg base 5 "_law_same" (spSame K 3) []) : FnG P w K mg base CX0 12 f fd ["script"] (spLaw K) := by
  refine okG F sc_law (fun vs H Q E h => ?_) (fun cdv A outer s H vs Q E hG hr h => ?_)
  · obtain ⟨a, ns, rfl, _⟩ := h
    rfl
  · obtain ⟨p0, ns0, rfl, hP, hl, q⟩ := h
    refine ⟨_, (pss_cons (ps_set (i := 1) sc_law.nd rfl (Or.inl rfl) (pe_c c_law_source hr (by first | decide | omega) (by rfl) (pa_cons (pv 0) pa_nil)))
  (pss_cons (ps_for PassesOwn.never rfl (pi_range1 (by rfl) B.range (pa_cons (pe_op op_add pe_int (pe_callB (call_min2 rfl) (by rfl) B.min (by decide +kernel) (pa_cons pe_int (pa_cons (pe_callB (len_seqK (K := K)) (by rfl) B.len boot_len (pa_cons (pv 0) pa_nil)) pa_nil)))) pa_nil)) (pg_name (i := 2) sc_law.nd rfl (Or.inl rfl))
   (pss_one (ps_for PassesOwn.never rfl (pi_range1 (by rfl) B.range (pa_cons pe_int pa_nil)) (pg_name (i := 3) sc_law.nd rfl (Or.inl rfl))
   (pss_cons (ps_set (i := 4) sc_law.nd rfl (Or.inr rfl) (pe_c c_law_spoilt hr (by first | decide | omega) (by rfl) (pa_cons (pv 1) (pa_cons (pe_c c_law_row hr (by first | decide | omega) (by rfl) (pa_cons (pv 1) (pa_cons pe_int (pa_cons pe_int pa_nil)))) pa_nil))))
  (pss_cons (ps_setLc (i := 5) (own := [("spot", 16), ("one", 17)]) (by rfl) sc_law.nd rfl rfl (sw_true rfl rfl rfl (by decide +kernel)) (pi_enumK (K := K) (by rfl) B.enumerate (pa_cons (pv 4) pa_nil)) (blkOk_by (own := [("spot", 16), ("one", 17)]) (N := ["script", "source", "k", "turn", "row", "low", "listed", "some", "most_low", "steps_low", "long_low", "far_low", "last_low", "dues", "saved", "told", "spot", "one", "door", "checks"]) (sc := defScope s_law) (by decide +kernel)) (fun _ _ _ _ _ => (pg_tupK (K := K) (n := 2) rfl (pgs_cons (pg_name (i := 16) sc_law.nd rfl (Or.inl rfl)) (pgs_cons (pg_name (i := 17) sc_law.nd rfl (Or.inl rfl)) pgs_nil)))) (fun _ _ _ _ _ => (pts_one (pt_cmpR op_lt (pv 17) pe_int (nomark _)))) (fun _ _ _ _ _ => (pv 16)))
  (pss_cut (ps_set (i := 6) sc_law.nd rfl (Or.inl rfl) (pe_tup (pa_cons pe_str (pa_cons (pe_ifExp (pt_cmpR (op_neDK (K := K) hr.units) (pv 5) (pe_lst pa_nil) (nomark _)) (pe_ix (ix_listK (K := K)) (pv 5) pe_int (fun _ _ => rfl)) pe_non) (pa_cons (pe_cmpR (op_neDK (K := K) hr.units) (pv 5) (pe_lst pa_nil) (nomark _)) pa_nil)))))
  (pss_cons (ps_set (i := 7) sc_law.nd rfl (Or.inr rfl) (pe_lst (pa_cons (pe_ix (ix_listK (K := K)) (pe_lst (pa_cons pe_int (pa_cons pe_int (pa_cons (pe_un un_neg pe_int) (pa_cons (pe_op op_add pe_int (pe_c c_law_draw hr (by first | decide | omega) (by rfl) (pa_cons (pv 1) (pa_cons (pe_op op_powW pe_int pe_int) pa_nil)))) pa_nil))))) (pe_c c_law_draw hr (by first | decide | omega) (by rfl) (pa_cons (pv 1) (pa_cons pe_int pa_nil))) (fun _ _ => rfl)) (pa_cons (pe_op op_sub (pe_c c_law_draw hr (by first | decide | omega) (by rfl) (pa_cons (pv 1) (pa_cons pe_int pa_nil))) pe_int) pa_nil))))
  (pss_cons (ps_set (i := 7) sc_law.nd rfl (Or.inr rfl) (pe_op op_cat (pv 7) (pe_lst (pa_cons (pe_ix (ix_listK (K := K)) (pe_lst (pa_cons (pe_c c_law_draw hr (by first | decide | omega) (by rfl) (pa_cons (pv 1) (pa_cons (pe_op op_powW pe_int pe_int) pa_nil))) (pa_cons pe_int (pa_cons (pe_un un_neg pe_int) (pa_cons (pe_un un_neg pe_int) pa_nil))))) (pe_c c_law_draw hr (by first | decide | omega) (by rfl) (pa_cons (pv 1) (pa_cons pe_int pa_nil))) (fun _ _ => rfl)) pa_nil))))
  (pss_cut (ps_set (i := 7) sc_law.nd rfl (Or.inr rfl) (pe_op op_cat (pv 7) (pe_lst (pa_cons (pe_ix (ix_listK (K := K)) (pe_lst (pa_cons (pe_c c_law_draw hr (by first | decide | omega) (by rfl) (pa_cons (pv 1) (pa_cons pe_int pa_nil))) (pa_cons (pe_un un_neg pe_int) pa_nil))) (pe_c c_law_draw hr (by first | decide | omega) (by rfl) (pa_cons (pv 1) (pa_cons pe_int pa_nil))) (fun _ _ => rfl)) (pa_cons (pe_ix (ix_listK (K := K)) (pe_lst (pa_cons pe_int (pa_cons pe_int (pa_cons (pe_un un_neg pe_int) (pa_cons (pe_un un_neg pe_int) pa_nil))))) (pe_c c_law_draw hr (by first | decide | omega) (by rfl) (pa_cons (pv 1) (pa_cons pe_int pa_nil))) (fun _ _ => rfl)) pa_nil)))))
  (pss_cons (ps_par (i := 8) (j := 9) rfl sc_law.nd rfl rfl (by decide) rfl rfl (pa_cons (pe_tup (pa_cons pe_str (pa_cons (pe_ix (ix_listK (K := K)) (pv 7) pe_int (fun _ _ => rfl)) (pa_cons (pe_cmpR op_lt (pe_ix (ix_listK (K := K)) (pv 7) pe_int (fun _ _ => rfl)) pe_int (nomark _)) pa_nil)))) (pa_cons (pe_tup (pa_cons pe_str (pa_cons (pe_ix (ix_listK (K := K)) (pv 7) pe_int (fun _ _ => rfl)) (pa_cons (pe_cmpR op_lt (pe_ix (ix_listK (K := K)) (pv 7) pe_int (fun _ _ => rfl)) pe_int (nomark _)) pa_nil)))) pa_nil)) (by rfl))
  (pss_cons (ps_par (i := 10) (j := 11) rfl sc_law.nd rfl rfl (by decide) rfl rfl (pa_cons (pe_tup (pa_cons pe_str (pa_cons (pe_ix (ix_listK (K := K)) (pv 7) pe_int (fun _ _ => rfl)) (pa_cons (pe_cmpR op_lt (pe_ix (ix_listK (K := K)) (pv 7) pe_int (fun _ _ => rfl)) pe_int (nomark _)) pa_nil)))) (pa_cons (pe_tup (pa_cons pe_str (pa_cons (pe_ix (ix_listK (K := K)) (pv 7) pe_int (fun _ _ => rfl)) (pa_cons (pe_cmpR op_lt (pe_ix (ix_listK (K := K)) (pv 7) pe_int (fun _ _ => rfl)) pe_int (nomark _)) pa_nil)))) pa_nil)) (by rfl))
  (pss_cut (ps_set (i := 12) sc_law.nd rfl (Or.inl rfl) (pe_tup (pa_cons pe_str (pa_cons (pe_ix (ix_listK (K := K)) (pv 7) pe_int (fun _ _ => rfl)) (pa_cons (pe_cmpR op_lt (pe_ix (ix_listK (K := K)) (pv 7) pe_int (fun _ _ => rfl)) pe_int (nomark _)) pa_nil)))))
  (pss_cons (ps_set (i := 13) sc_law.nd rfl (Or.inl rfl) (pe_lst (pa_cons (pe_lst (pa_cons (pv 6) (pa_cons (pv 8) pa_nil))) (pa_cons (pe_lst (pa_cons (pv 9) (pa_cons (pv 8) pa_nil))) (pa_cons (pe_lst (pa_cons (pv 10) (pa_cons (pv 8) pa_nil))) (pa_cons (pe_lst (pa_cons (pv 9) (pa_cons (pv 8) pa_nil))) pa_nil))))))
  (pss_cut (ps_set (i := 13) sc_law.nd rfl (Or.inl rfl) (pe_op op_cat (pv 13) (pe_lst (pa_cons (pe_lst (pa_cons (pv 10) (pa_cons (pv 6) pa_nil))) (pa_cons (pe_lst (pa_cons (pv 11) (pa_cons (pv 6) pa_nil))) (pa_cons (pe_lst (pa_cons (pv 10) (pa_cons (pv 6) (pa_cons (pv 12) pa_nil)))) pa_nil))))))
  (pss_cons (ps_set (i := 14) sc_law.nd rfl (Or.inl rfl) (pe_callB (call_reprVK (K := K) hG hr.units) (by rfl) B.repr (by decide +kernel) (pa_cons (pv 4) pa_nil)))
  (pss_cons (ps_setLc (i := 15) (own := [("door", 18)]) (g := gName 18) (by rfl) sc_law.nd rfl rfl (sw_true rfl rfl rfl (by decide +kernel)) (pi_range1 (by rfl) B.range (pa_cons pe_int pa_nil)) (blkOk_by (own := [("door", 18)]) (N := ["script", "source", "k", "turn", "row", "low", "listed", "some", "most_low", "steps_low", "long_low", "far_low", "last_low", "dues", "saved", "told", "spot", "one", "door", "checks"]) (sc := defScope s_law) (by decide +kernel)) (fun _ _ _ _ _ => (pg_name (i := 18) sc_law.nd rfl (Or.inl rfl))) (fun _ _ _ _ _ => pts_nil) (fun _ _ _ _ _ => (pe_c c_law_raised hr (by first | decide | omega) (by rfl) (pa_cons (pv 18) (pa_cons (pv 4) (pa_cons (pv 7) pa_nil))))))
  (pss_one (ps_if (PW.pt (pw_or (pt_not (pt_val (pe_c c_law_same hr (by first | decide | omega) (by rfl) (pa_cons (pv 15) (pa_cons (pe_lc (own := [("checks", 19)]) (g := gName 19) (by rfl) sc_law.nd (pi_listK (K := K) (pv 13)) (blkOk_by (own := [("checks", 19)]) (N := ["script", "source", "k", "turn", "row", "low", "listed", "some", "most_low", "steps_low", "long_low", "far_low", "last_low", "dues", "saved", "told", "spot", "one", "door", "checks"]) (sc := defScope s_law) (by decide +kernel)) (fun _ _ _ _ _ => (pg_name (i := 19) sc_law.nd rfl (Or.inl rfl))) (fun _ _ _ _ _ => pts_nil) (fun _ _ _ _ _ => (pe_c c_law_due hr (by first | decide | omega) (by rfl) (pa_cons (pv 19) pa_nil)))) pa_nil))))) (pw_or1 (pt_cmpR op_ne (pe_callB (call_reprVK (K := K) hG hr.units) (by rfl) B.repr (by decide +kernel) (pa_cons (pv 4) pa_nil)) (pv 14) (nomark _))))) (pss_one (ps_ret pe_bl)) pss_nil))))))))))))))))))
  (pss_one (ps_ret (pe_c c_law_same hr (by first | decide | omega) (by rfl) (pa_cons (pe_c c_law_raised hr (by first | decide | omega) (by rfl) (pa_cons pe_int (pa_cons (pe_lst (pa_cons pe_int (pa_cons pe_int pa_nil))) (pa_cons (pe_lst (pa_cons pe_int pa_nil)) pa_nil)))) (pa_cons (pe_lst (pa_cons pe_str (pa_cons pe_int (pa_cons pe_bl pa_nil)))) pa_nil))))))), ?_⟩
    walk_at "sq go"
    intro r d H1 s1 hS1
    have hP1 := s1.seq hP
    walk_at "sq go"
    refine for_range (lo := 0) (n := _) (fun i σ H' => Keep (∃ x2 x3 x4 x5 x6 x7 x8 x9 x10 x11 x12 x13 x14 x15 x16 x17 x18 x19, σ = [some (.ref p0), some (.ref r), x2, x3, x4, x5, x6, x7, x8, x9, x10, x11, x12, x13, x14, x15, x16, x17, x18, x19] ∧ Sep (rgB r d (4000 * i)) H H' ∧ i ≤ 11)) ⟨_, _, _, _, _, _, _, _, _, _, _, _, _, _, _, _, _, _, rfl, SepB.mono hS1 (by omega), by omega⟩ (fun i σ H' hi h => ?_) (fun σ H' h => ?_)
    · obtain ⟨x2, x3, x4, x5, x6, x7, x8, x9, x10, x11, x12, x13, x14, x15, x16, x17, x18, x19, rfl, hs, hi11⟩ := h.o
      have hi12 : i + 1 ≤ 11 := by
        (repeat' split at hi) <;> omega
      walk_at "sq go"
      refine for_range (lo := 0) (n := 8) (fun j σ H' => Keep (∃ x2 x3 x4 x5 x6 x7 x8 x9 x10 x11 x12 x13 x14 x15 x16 x17 x18 x19, σ = [some (.ref p0), some (.ref r), x2, x3, x4, x5, x6, x7, x8, x9, x10, x11, x12, x13, x14, x15, x16, x17, x18, x19] ∧ Sep (rgB r d (4000 * i + 450 * j)) H H')) ⟨_, _, _, _, _, _, _, _, _, _, _, _, _, _, _, _, _, _, rfl, SepB.mono hs (by omega)⟩ (fun j σ H' hj h => ?_) (fun σ H' h => ?_)
      · obtain ⟨x2, x3, x4, x5, x6, x7, x8, x9, x10, x11, x12, x13, x14, x15, x16, x17, x18, x19, rfl, hs1⟩ := h.o
        walk_at "sq go"
        refine ⟨⟨by decide, by decide, by decide, by decide, by omega⟩, fun p ns H2 gp ln row hs2 => ?_⟩
        obtain ⟨G1, t1, g1, h1, hs2⟩ := hs2.took gp
        have hp := seqL_of (K := K) h1
        have b1 : Bd1 100 ns := ⟨Nat.le_trans ln (by decide), fun k hk => ⟨Int.le_trans (row k hk).2 (by decide), Int.le_trans (by decide) (row k hk).1⟩⟩
        walk_at "sq go"
        refine ⟨⟨b1, by omega⟩, fun a ms H3 ga ⟨bm, hms⟩ hs3 => ?_⟩
        obtain ⟨G2, t2, g2, h2, hs3⟩ := hs3.took ga
        have rowm : bad ms = none → ms.length ≤ 3 ∧ ∀ k ∈ ms, 2 ≤ k ∧ k ≤ 20 := fun e => by
          rw [hms e]
          exact ⟨ln, row⟩
        have lnm : ms.length ≤ 100 := Nat.le_trans bm.1 (by have : ns.length ≤ 3 := ln; omega)
        have tG : Same H G2 := t1.trans t2
        have hA := seqL_of (K := K) h2
        have lgm := bm.lg
        clear hs2 h1 hp g1 t1 t2 b1 hms
        walk_at "sq go"
        intro D1 nD
        have sD := same_new (o := .lst []) nD
        refine lc_enum (K := K) (a := a) (xs := iv ms) (fun i H4 => Keep (∃ acc, But D1 (upd H3 D1 (.lst [])) H4 ∧ H4 D1 = some (.lst (iv acc)) ∧ Lows ms i acc ∧ (bad ms = none → acc = []))) ⟨[], .refl _ _, upd_same, Lows.zero _, fun _ => rfl⟩ (fun i H4 h => ?_) (fun i x T H4 hx h nT => ?_) (fun H4 h => ?_)
        · obtain ⟨acc, bt, _⟩ := h.o
          exact (bt.same sD nD).seq hA
        · obtain ⟨acc, bt, gD, lo, e0⟩ := h.o
          obtain ⟨k, hk, rfl⟩ := iv_get hx
          have sT := same_new (o := .tup [.int (i : Nat), .int k]) nT
          have gD2 := sT _ _ gD
          have bt2 := bt.trans (.of sT)
          walk_at "sq go"
          refine ifD (fun c => ?_) (fun c => ?_)
          · walk_at "sq go"
            have lt := (List.getElem?_eq_some_iff.mp hk).1
            have le := lo.1
            refine ⟨by walk_at "sq len", ⟨acc ++ [(i : Int)], bt2.trans .put, by rw [upd_same, iv_app], lo.hit hk c, fun e => absurd (bad_none.mp e k (List.mem_of_getElem? hk)) (by omega)⟩⟩
          · exact ⟨acc, bt2, gD2, lo.miss hk c, e0⟩
        · obtain ⟨acc, bt, gD, lo, e0⟩ := h.o
          have sm := bt.same sD nD
          walk_at "sq go"
          refine cut_at (fun σ' H' => ∃ (G3 : Hp) (tl : Addr), σ' = [some (.ref p0), some (.ref r), x2, some (.int (0 + ((j : Nat) : Int))), some (.ref a), some (.ref D1), some (.ref tl), x7, x8, x9, x10, x11, x12, x13, x14, x15, x16, x17, x18, x19] ∧ Same G2 G3 ∧ G3 tl = some (tupC (cL ms)) ∧ Sep (rgB r d (4000 * i + 450 * j + 211)) G3 H') (fun N hN => ?_) (fun σ1 K1 hd => ?_)
          · walk_at "sq go"
            intro m nm
            have gD2 := upd_keep (o := .lst []) nm gD
            have sm2 := sm.trans (same_new (o := .lst []) nm)
            refine r_neI (xs := acc) (ys := []) (seqL_of gD2) (seqL_of upd_same) ?_
            cases eb : bad ms with
            | none =>
              have z := e0 eb
              subst z
              walk_at "sq go"
              intro m2 nm2
              refine r_neI (xs := []) (ys := []) (seqL_of (upd_keep nm2 gD2)) (seqL_of upd_same) ?_
              have sm3 := sm2.trans (same_new (o := .lst []) nm2)
              walk_at "sq go"
              intro tl ntl
              walk_at "sq go"
              have nl3 : H3 tl = none := sm3.free ntl
              refine hN _ _ ⟨upd G2 tl (tupC (cL ms)), tl, rfl, same_new (hs3.free nl3), upd_same, sep_add hs3 (sm3.trans (same_new ntl)) nl3 ?_⟩
              rw [upd_same]
              unfold tupC cL lowV
              rw [eb]
              rfl
            | some jj =>
              obtain ⟨rest, rfl⟩ := (lo.2 jj eb).2 (by rw [iv_len]; exact (bad_lt eb).1)
              rw [show (!decide ((jj : Int) :: rest = [])) = true by simp]
              have at0 : atI (iv ((jj : Int) :: rest)) 0 = some (.int (jj : Nat)) := atI_nat (j := 0) rfl
              walk_at "sq go"
              intro m2 nm2
              refine r_neI (xs := (jj : Int) :: rest) (ys := []) (seqL_of (upd_keep nm2 gD2)) (seqL_of upd_same) ?_
              rw [show (!decide ((jj : Int) :: rest = [])) = true by simp]
              have sm3 := sm2.trans (same_new (o := .lst []) nm2)
              walk_at "sq go"
              intro tl ntl
              walk_at "sq go"
              have nl3 : H3 tl = none := sm3.free ntl
              refine hN _ _ ⟨upd G2 tl (tupC (cL ms)), tl, rfl, same_new (hs3.free nl3), upd_same, sep_add hs3 (sm3.trans (same_new ntl)) nl3 ?_⟩
              rw [upd_same]
              unfold tupC cL lowV
              rw [eb]
              rfl
          · obtain ⟨G3, tl, rfl, t3, g3, hs4⟩ := hd
            have ga3 := t3 _ _ g2
            have t3' := tG.trans t3
            clear hs3 hA sD nD bt gD lo e0 sm g2 t3 tG hs1 hs h2
            walk_at "sq go"
            refine ⟨⟨by decide, by decide, by omega⟩, fun w1 H5 a0 a1 hs5 => ?_⟩
            walk_at "sq go"
            intro e1 ne1
            obtain ⟨G4, H6, eq6, t4, g4, h4, hs6⟩ := hs5.box ne1 (.lst [.int 1, .int 0, .int (-1), .int (1 + w1)])
            rw [show upd H5 e1 _ = H6 from eq6]
            walk_at "sq go"
            refine ⟨⟨by decide, by decide, by omega⟩, fun w2 H7 b0 b1 hs7 => ?_⟩
            have h4' := hs7.get g4
            obtain ⟨v0, ev0, z0⟩ := pickA a0 (show w1 < 10 ^ 29 from a1) b0 b1
            walk_at "sq go"
            refine ⟨⟨by decide, by decide, by omega⟩, fun w3 H8 c0 c1 hs8 => ?_⟩
            walk_at "sq go"
            intro e2 ne2
            obtain ⟨G5, H9, eq9, t5, g5, h5, hs9⟩ := hs8.box ne2 (.lst [.int v0, .int (w3 - 2)])
            rw [show upd H8 e2 _ = H9 from eq9]
            clear hs8 hs7 hs6 hs5 h4' g4 h4 ev0 eq6 eq9
            walk_at "sq go"
            refine ⟨⟨by decide, by decide, by omega⟩, fun w4 H10 d0 d1 hs10 => ?_⟩
            walk_at "sq go"
            intro e3 ne3
            obtain ⟨G6, H11, eq11, t6, g6, h6, hs11⟩ := hs10.box ne3 (.lst [.int w4, .int 0, .int (-1), .int (-2)])
            rw [show upd H10 e3 _ = H11 from eq11]
            walk_at "sq go"
            refine ⟨⟨by decide, by decide, by omega⟩, fun w5 H12 f0 f1 hs12 => ?_⟩
            have h6' := hs12.get g6
            obtain ⟨v2, ev2, z2⟩ := pickB d0 (show w4 < 10 ^ 29 from d1) f0 f1
            walk_at "sq go"
            intro e4 ne4
            obtain ⟨G7, H13, eq13, t7, g7, h7, hs13⟩ := hs12.box ne4 (.lst [.int v2])
            rw [show upd H12 e4 _ = H13 from eq13]
            have h5' := hs13.get (t7 _ _ (t6 _ _ g5))
            walk_at "sq go"
            intro e5 ne5
            obtain ⟨G8, H14, eq14, t8, g8, h8, hs14⟩ := hs13.box ne5 (.lst [.int v0, .int (w3 - 2), .int v2])
            rw [show ([V.int v0, V.int (w3 - 2)] ++ [V.int v2] : List V) = [V.int v0, V.int (w3 - 2), V.int v2] from rfl, show upd H13 e5 _ = H14 from eq14]
            have T8 : Same G3 G8 := t4.trans (t5.trans (t6.trans (t7.trans t8)))
            clear hs9 hs10 hs11 hs12 hs13 h6' g6 h6 ev2 eq11 eq13 eq14 h5' g5 h5 g7 h7 t4 t5 t6 t7 t8
            walk_at "sq go"
            refine cut_at (fun σ' H' => ∃ (GZ : Hp) (so : Addr) (v0 v1 v2 v3 v4 : Int), σ' = [some (.ref p0), some (.ref r), x2, some (.int (0 + ((j : Nat) : Int))), some (.ref a), some (.ref D1), some (.ref tl), some (.ref so), x8, x9, x10, x11, x12, x13, x14, x15, x16, x17, x18, x19] ∧ Same G3 GZ ∧ GZ so = some (.lst (iv [v0, v1, v2, v3, v4])) ∧ Sm 100 v0 ∧ v1 ≤ 6 ∧ Sm 100 v2 ∧ v3 ≤ 59 ∧ Sm 100 v4 ∧ Sep (rgB r d (4000 * i + 450 * j + 230)) GZ H') (fun N hN => ?_) (fun σ2 K2 hd => ?_)
            · walk_at "sq go"
              refine ⟨⟨by decide, by decide, by omega⟩, fun w6 H15 i0 i1 hs15 => ?_⟩
              walk_at "sq go"
              intro e6 ne6
              obtain ⟨G9, H16, eq16, t9, g9, h9, hs16⟩ := hs15.box ne6 (.lst [.int w6, .int (-1)])
              rw [show upd H15 e6 _ = H16 from eq16]
              walk_at "sq go"
              refine ⟨⟨by decide, by decide, by omega⟩, fun w7 H17 j0 j1 hs17 => ?_⟩
              have h9' := hs17.get g9
              obtain ⟨v3, ev3, z3⟩ := pickC i0 i1 j0 j1
              walk_at "sq go"
              intro e7 ne7
              obtain ⟨G10, H18, eq18, t10, g10, h10, hs18⟩ := hs17.box ne7 (.lst [.int 0, .int 5, .int (-1), .int (-9)])
              rw [show upd H17 e7 _ = H18 from eq18]
              walk_at "sq go"
              refine ⟨⟨by decide, by decide, by omega⟩, fun w8 H19 k0 k1 hs19 => ?_⟩
              have h10' := hs19.get g10
              obtain ⟨v4, ev4, z4⟩ := pickD k0 k1
              walk_at "sq go"
              intro e8 ne8
              obtain ⟨G11, H20, eq20, t11, g11, h11, hs20⟩ := hs19.box ne8 (.lst [.int v3, .int v4])
              rw [show upd H19 e8 _ = H20 from eq20]
              have h8' := hs20.get (t11 _ _ (t10 _ _ (t9 _ _ g8)))
              walk_at "sq go"
              intro so nso
              obtain ⟨G12, H21, eq21, t12, gso, hso, hs21⟩ := hs20.box nso (.lst (iv [v0, w3 - 2, v2, v3, v4]))
              rw [show ([V.int v0, V.int (w3 - 2), V.int v2] ++ [V.int v3, V.int v4] : List V) = iv [v0, w3 - 2, v2, v3, v4] from rfl, show upd H20 so _ = H21 from eq21]
              have T12 : Same G3 G12 := T8.trans (t9.trans (t10.trans (t11.trans t12)))
              clear hs14 hs15 hs16 hs17 hs18 hs19 hs20 h9' g9 h9 ev3 eq16 eq18 eq20 eq21 h10' g10 h10 ev4 h8' g11 h11 t9 t10 t11 t12 T8 g8 h8
              walk_at "sq go"
              exact hN _ _ ⟨G12, so, v0, w3 - 2, v2, v3, v4, rfl, T12, gso, z0, by omega, z2, z3, z4, SepB.mono hs21 (by omega)⟩
            obtain ⟨G12, so, v0, v1, v2, v3, v4, rfl, T12, gso, z0, z1, z2, z3, z4, hs21⟩ := hd
            clear hs14 g8 h8 T8
            have hB := seqL_of (K := K) (hs21.get gso)
            walk_at "sq go"
            intro ta nta
            obtain ⟨G13, H22, eq22, t13, gta, hta, hs22⟩ := hs21.box nta (.tup [.str "InvalidNumber", .int v0, .bl (decide (v0 < 1))])
            rw [show upd _ ta _ = H22 from eq22]
            clear eq22 hs21
            have hB0 := seqL_of (K := K) (hs22.get (t13 _ _ gso))
            walk_at "sq go"
            intro tb ntb
            obtain ⟨G14, H23, eq23, t14, gtb, htb, hs23⟩ := hs22.box ntb (.tup [.str "InvalidNumber", .int v1, .bl (decide (v1 < 0))])
            rw [show upd _ tb _ = H23 from eq23]
            clear eq23 hs22
            have hB1 := seqL_of (K := K) (hs23.get (t14 _ _ (t13 _ _ gso)))
            walk_at "sq go"
            intro tc ntc
            obtain ⟨G15, H24, eq24, t15, gtc, htc, hs24⟩ := hs23.box ntc (.tup [.str "InvalidNumber", .int v2, .bl (decide (v2 < 0))])
            rw [show upd _ tc _ = H24 from eq24]
            clear eq24 hs23
            have hB2 := seqL_of (K := K) (hs24.get (t15 _ _ (t14 _ _ (t13 _ _ gso))))
            walk_at "sq go"
            intro td ntd
            obtain ⟨G16, H25, eq25, t16, gtd, htd, hs25⟩ := hs24.box ntd (.tup [.str "InvalidNumber", .int v3, .bl (decide (v3 < 0))])
            rw [show upd _ td _ = H25 from eq25]
            clear eq25 hs24
            have hB3 := seqL_of (K := K) (hs25.get (t16 _ _ (t15 _ _ (t14 _ _ (t13 _ _ gso)))))
            walk_at "sq go"
            refine cut_at (fun σ' H' => ∃ (GZ : Hp) (ta tb tc td te : Addr), σ' = [some (.ref p0), some (.ref r), x2, some (.int (0 + ((j : Nat) : Int))), some (.ref a), some (.ref D1), some (.ref tl), some (.ref so), some (.ref ta), some (.ref tb), some (.ref tc), some (.ref td), some (.ref te), x13, x14, x15, x16, x17, x18, x19] ∧ Same G12 GZ ∧ GZ ta = some (tupC (cN v0 (decide (v0 < 1)))) ∧ GZ tb = some (tupC (cN v1 (decide (v1 < 0)))) ∧ GZ tc = some (tupC (cN v2 (decide (v2 < 0)))) ∧ GZ td = some (tupC (cN v3 (decide (v3 < 0)))) ∧ GZ te = some (tupC (cN v4 (decide (v4 < 0)))) ∧ Sep (rgB r d (4000 * i + 450 * j + 230)) GZ H') (fun N hN => ?_) (fun σ3 K3 hd => ?_)
            · walk_at "sq go"
              intro te nte
              obtain ⟨G17, H26, eq26, t17, gte, hte, hs26⟩ := hs25.box nte (.tup [.str "InvalidNumber", .int v4, .bl (decide (v4 < 0))])
              rw [show upd _ te _ = H26 from eq26]
              clear eq26 hs25
              walk_at "sq go"
              exact hN _ _ ⟨G17, ta, tb, tc, td, te, rfl, (t13.trans (t14.trans (t15.trans (t16.trans t17)))), (t17 _ _ (t16 _ _ (t15 _ _ (t14 _ _ gta)))), (t17 _ _ (t16 _ _ (t15 _ _ gtb))), (t17 _ _ (t16 _ _ gtc)), (t17 _ _ gtd), gte, hs26⟩
            clear hB hB0 hB1 hB2 hB3 t13 t14 t15 t16 gta gtb gtc gtd hta htb htc htd hs25
            obtain ⟨G20, ta, tb, tc, td, te, rfl, t20, gta, gtb, gtc, gtd, gte, hs40⟩ := hd
            have fso := t20 _ _ gso
            have fa := t20 _ _ (T12 _ _ ga3)
            have ftl := t20 _ _ (T12 _ _ g3)
            have T20 : Same H G20 := t3'.trans (T12.trans t20)
            clear t20 T12 t3' gso g3 ga3
            walk_at "sq go"
            intro la nla
            obtain ⟨G21, H41, eq41, t21, gla, hla, hs41⟩ := hs40.box nla (.lst [.ref tl, .ref ta])
            rw [show upd _ la _ = H41 from eq41]
            clear eq41 hs40
            walk_at "sq go"
            intro lb nlb
            obtain ⟨G22, H42, eq42, t22, glb, hlb, hs42⟩ := hs41.box nlb (.lst [.ref tb, .ref ta])
            rw [show upd _ lb _ = H42 from eq42]
            clear eq42 hs41
            walk_at "sq go"
            intro lc nlc
            obtain ⟨G23, H43, eq43, t23, glc, hlc, hs43⟩ := hs42.box nlc (.lst [.ref tc, .ref ta])
            rw [show upd _ lc _ = H43 from eq43]
            clear eq43 hs42
            walk_at "sq go"
            intro ld nld
            obtain ⟨G24, H44, eq44, t24, gld, hld, hs44⟩ := hs43.box nld (.lst [.ref tb, .ref ta])
            rw [show upd _ ld _ = H44 from eq44]
            clear eq44 hs43
            walk_at "sq go"
            intro da nda
            obtain ⟨G25, H45, eq45, t25, gda, hda, hs45⟩ := hs44.box nda (.lst [.ref la, .ref lb, .ref lc, .ref ld])
            rw [show upd _ da _ = H45 from eq45]
            clear eq45 hs44
            walk_at "sq go"
            refine cut_at (fun σ' H' => ∃ (GZ : Hp) (du la lb lc ld le lf lg : Addr), σ' = [some (.ref p0), some (.ref r), x2, some (.int (0 + ((j : Nat) : Int))), some (.ref a), some (.ref D1), some (.ref tl), some (.ref so), some (.ref ta), some (.ref tb), some (.ref tc), some (.ref td), some (.ref te), some (.ref du), x14, x15, x16, x17, x18, x19] ∧ Same G20 GZ ∧ GZ du = some (.lst [.ref la, .ref lb, .ref lc, .ref ld, .ref le, .ref lf, .ref lg]) ∧ GZ la = some (.lst [.ref tl, .ref ta]) ∧ GZ lb = some (.lst [.ref tb, .ref ta]) ∧ GZ lc = some (.lst [.ref tc, .ref ta]) ∧ GZ ld = some (.lst [.ref tb, .ref ta]) ∧ GZ le = some (.lst [.ref tc, .ref tl]) ∧ GZ lf = some (.lst [.ref td, .ref tl]) ∧ GZ lg = some (.lst [.ref tc, .ref tl, .ref te]) ∧ Sep (rgB r d (4000 * i + 450 * j + 230)) GZ H') (fun N hN => ?_) (fun σ4 K4 hd => ?_)
            · walk_at "sq go"
              intro le nle
              obtain ⟨G26, H46, eq46, t26, gle, hle, hs46⟩ := hs45.box nle (.lst [.ref tc, .ref tl])
              rw [show upd _ le _ = H46 from eq46]
              clear eq46 hs45
              walk_at "sq go"
              intro lf nlf
              obtain ⟨G27, H47, eq47, t27, glf, hlf, hs47⟩ := hs46.box nlf (.lst [.ref td, .ref tl])
              rw [show upd _ lf _ = H47 from eq47]
              clear eq47 hs46
              walk_at "sq go"
              intro lg nlg
              obtain ⟨G28, H48, eq48, t28, glg, hlg, hs48⟩ := hs47.box nlg (.lst [.ref tc, .ref tl, .ref te])
              rw [show upd _ lg _ = H48 from eq48]
              clear eq48 hs47
              walk_at "sq go"
              intro db ndb
              obtain ⟨G29, H49, eq49, t29, gdb, hdb, hs49⟩ := hs48.box ndb (.lst [.ref le, .ref lf, .ref lg])
              rw [show upd _ db _ = H49 from eq49]
              clear eq49 hs48
              have hda' := hs49.get (t29 _ _ (t28 _ _ (t27 _ _ (t26 _ _ gda))))
              walk_at "sq go"
              intro du ndu
              obtain ⟨G30, H50, eq50, t30, gdu, hdu, hs50⟩ := hs49.box ndu (.lst [.ref la, .ref lb, .ref lc, .ref ld, .ref le, .ref lf, .ref lg])
              rw [show ([V.ref la, .ref lb, .ref lc, .ref ld] ++ [V.ref le, .ref lf, .ref lg] : List V) = [V.ref la, .ref lb, .ref lc, .ref ld, .ref le, .ref lf, .ref lg] from rfl, show upd _ du _ = H50 from eq50]
              clear eq50 hs49
              walk_at "sq go"
              exact hN _ _ ⟨G30, du, la, lb, lc, ld, le, lf, lg, rfl, (t21.trans (t22.trans (t23.trans (t24.trans (t25.trans (t26.trans (t27.trans (t28.trans (t29.trans t30))))))))), gdu, (t30 _ _ (t29 _ _ (t28 _ _ (t27 _ _ (t26 _ _ (t25 _ _ (t24 _ _ (t23 _ _ (t22 _ _ gla))))))))), (t30 _ _ (t29 _ _ (t28 _ _ (t27 _ _ (t26 _ _ (t25 _ _ (t24 _ _ (t23 _ _ glb)))))))), (t30 _ _ (t29 _ _ (t28 _ _ (t27 _ _ (t26 _ _ (t25 _ _ (t24 _ _ glc))))))), (t30 _ _ (t29 _ _ (t28 _ _ (t27 _ _ (t26 _ _ (t25 _ _ gld)))))), (t30 _ _ (t29 _ _ (t28 _ _ (t27 _ _ gle)))), (t30 _ _ (t29 _ _ (t28 _ _ glf))), (t30 _ _ (t29 _ _ glg)), hs50⟩
            clear hs45 t21 t22 t23 t24 t25 gla glb glc gld gda hla hlb hlc hld hda
            obtain ⟨GZ, du, la, lb, lc, ld, le, lf, lg, rfl, tZ, gdu, gla, glb, glc, gld, gle, glf, glg, hsZ⟩ := hd
            have fso := tZ _ _ fso
            have fa := tZ _ _ fa
            have TG : Same H GZ := T20.trans tZ
            have k0 : ChkT GZ (.ref tl) (cL ms) := ⟨tl, rfl, tZ _ _ ftl⟩
            have k1 : ChkT GZ (.ref ta) (cN v0 (decide (v0 < 1))) := ⟨ta, rfl, tZ _ _ gta⟩
            have k2 : ChkT GZ (.ref tb) (cN v1 (decide (v1 < 0))) := ⟨tb, rfl, tZ _ _ gtb⟩
            have k3 : ChkT GZ (.ref tc) (cN v2 (decide (v2 < 0))) := ⟨tc, rfl, tZ _ _ gtc⟩
            have k4 : ChkT GZ (.ref td) (cN v3 (decide (v3 < 0))) := ⟨td, rfl, tZ _ _ gtd⟩
            have k5 : ChkT GZ (.ref te) (cN v4 (decide (v4 < 0))) := ⟨te, rfl, tZ _ _ gte⟩
            clear tZ ftl gta gtb gtc gtd gte T20
            have hA := seqL_of (K := K) (hsZ.get fa)
            walk_at "sq go"
            have len5 : ms.length ≤ 500 := by omega
            refine rRepr_ok (dok_dI lgm len5) (dp_iv hA) (by decide) (by decide) ?_
            walk_at "sq go"
            intro D2 nD2
            have sD2 := same_new (o := .lst []) nD2
            have okd : ∀ m : Nat, OkD (dueR (m : Nat) ms v0 v1 v2 v3 v4) := fun m => okd_due _ _ _ _ _ _ _
            have siz : Siz ms v0 v1 v2 v3 v4 := ⟨rowm, z0, z1, z2, z3, z4⟩
            have gso' := hsZ.get fso
            refine lc_range (lo := 0) (n := 7) (fun t K5 => Keep (∃ us : List V, But D2 (upd K4 D2 (.lst [])) K5 ∧ K5 D2 = some (.lst us) ∧ us.length = t ∧ ∀ (m : Nat) u, us[m]? = some u → ErrW K5 u (dueR (m : Nat) ms v0 v1 v2 v3 v4))) ⟨[], .refl _ _, upd_same, rfl, fun m u e => by cases e⟩ (fun t K5 ht h => ?_) (fun K5 h => ?_)
            · obtain ⟨us, bt, gD, lu, ok⟩ := h.o
              have sm := bt.same sD2 nD2
              have hA5 := sm.seq hA
              have hB5 := seqL_of (K := K) (sm _ _ gso')
              have lz : us.length < sizeLine := small1000 (by omega)
              have fin : ∀ (x : V) (K6 : Hp), Same K5 K6 → ErrW K6 x (dueR (t : Nat) ms v0 v1 v2 v3 v4) → Keep (∃ us2 : List V, But D2 (upd K4 D2 (.lst [])) (upd K6 D2 (.lst (us ++ [x]))) ∧ upd K6 D2 (.lst (us ++ [x])) D2 = some (.lst us2) ∧ us2.length = t + 1 ∧ ∀ (m : Nat) u, us2[m]? = some u → ErrW (upd K6 D2 (.lst (us ++ [x]))) u (dueR (m : Nat) ms v0 v1 v2 v3 v4)) := fun x K6 s6 hx => by
                exact ⟨us ++ [x], bt.trans ((But.of s6).trans .put), upd_same, by simp [lu], errs_snoc lu (fun m u e => (ok m u e).same s6) hx (s6 _ _ gD) (fun m => okd m)⟩
              have gDs : ∀ {K6 : Hp}, Same K5 K6 → K6 D2 = some (.lst us) := fun s6 => s6 _ _ gD
              walk_at "sq go"
              refine ⟨.inl rfl, ⟨by omega, by omega, siz, fun e K6 s6 => ?_, fun nm v e l K6 s6 nl gl => ?_⟩⟩
              · have gD6 := gDs s6
                rw [Int.zero_add] at e
                walk_at "sq go"
                exact fin _ _ s6 (by rw [e]; rfl)
              · have gD6 := gDs s6
                rw [Int.zero_add] at e
                walk_at "sq go"
                exact fin _ _ s6 (by rw [e]; exact ⟨l, rfl, gl⟩)
            · obtain ⟨us, bt, gD, lu, ok⟩ := h.o
              have sm := bt.same sD2 nD2
              walk_at "sq go"
              intro D3 nD3
              have sD3 := same_new (o := .lst []) nD3
              have gdu5 := sm _ _ (hsZ.get gdu)
              have chks : ∀ (m : Nat) (x : V), ([V.ref la, .ref lb, .ref lc, .ref ld, .ref le, .ref lf, .ref lg] : List V)[m]? = some x → m < 7 ∧ ∃ l refs, x = .ref l ∧ K5 l = some (.lst refs) ∧ ChkL K5 refs (chk ms v0 v1 v2 v3 v4 m) := fun m x e => by
                have sK : ∀ {l : Addr} {o : HO}, GZ l = some o → K5 l = some o := fun g => sm _ _ (hsZ.get g)
                have c : ∀ {v : V} {cc : Str × V × Bool}, ChkT GZ v cc → ChkT K5 v cc := fun h => by
                  obtain ⟨t, e, g⟩ := h
                  exact ⟨t, e, sK g⟩
                match m, e with
                | 0, e => cases e; exact ⟨by decide, _, _, rfl, sK gla, .cons (c k0) (.cons (c k1) .nil)⟩
                | 1, e => cases e; exact ⟨by decide, _, _, rfl, sK glb, .cons (c k2) (.cons (c k1) .nil)⟩
                | 2, e => cases e; exact ⟨by decide, _, _, rfl, sK glc, .cons (c k3) (.cons (c k1) .nil)⟩
                | 3, e => cases e; exact ⟨by decide, _, _, rfl, sK gld, .cons (c k2) (.cons (c k1) .nil)⟩
                | 4, e => cases e; exact ⟨by decide, _, _, rfl, sK gle, .cons (c k3) (.cons (c k0) .nil)⟩
                | 5, e => cases e; exact ⟨by decide, _, _, rfl, sK glf, .cons (c k4) (.cons (c k0) .nil)⟩
                | 6, e => cases e; exact ⟨by decide, _, _, rfl, sK glg, .cons (c k3) (.cons (c k0) (.cons (c k5) .nil))⟩
                | m + 7, e => cases e
              refine lc_list (K := K) (a := du) (xs := [V.ref la, .ref lb, .ref lc, .ref ld, .ref le, .ref lf, .ref lg]) (fun t K6 => Keep (∃ ws : List V, But D3 (upd K5 D3 (.lst [])) K6 ∧ K6 D3 = some (.lst ws) ∧ ws.length = t ∧ ∀ (m : Nat) u, ws[m]? = some u → ErrW K6 u (dueR (m : Nat) ms v0 v1 v2 v3 v4))) ⟨[], .refl _ _, upd_same, rfl, fun m u e => by cases e⟩ (fun t K6 _ h => ?_) (fun t x K6 hx h => ?_) (fun K6 h => ?_)
              · obtain ⟨ws, bt3, _⟩ := h.o
                exact seqL_of ((bt3.same sD3 nD3) _ _ gdu5)
              · obtain ⟨ws, bt3, gD3, lw, ok3⟩ := h.o
                obtain ⟨t7, l, refs, rfl, gl, cl⟩ := chks t x hx
                have sm3 := bt3.same sD3 nD3
                have hl6 := seqL_of (K := K) (sm3 _ _ gl)
                have cl6 := cl.same sm3
                have lz : ws.length < sizeLine := small1000 (by omega)
                have fin : ∀ (x : V) (K7 : Hp), Same K6 K7 → ErrW K7 x (dueR (t : Nat) ms v0 v1 v2 v3 v4) → Keep (∃ us2 : List V, But D3 (upd K5 D3 (.lst [])) (upd K7 D3 (.lst (ws ++ [x]))) ∧ upd K7 D3 (.lst (ws ++ [x])) D3 = some (.lst us2) ∧ us2.length = t + 1 ∧ ∀ (m : Nat) u, us2[m]? = some u → ErrW (upd K7 D3 (.lst (ws ++ [x]))) u (dueR (m : Nat) ms v0 v1 v2 v3 v4)) := fun x K7 s7 hx => by
                  exact ⟨ws ++ [x], bt3.trans ((But.of s7).trans .put), upd_same, by simp [lw], errs_snoc lw (fun m u e => (ok3 m u e).same s7) hx (s7 _ _ gD3) (fun m => okd m)⟩
                have gDs : ∀ {K7 : Hp}, Same K6 K7 → K7 D3 = some (.lst ws) := fun s7 => s7 _ _ gD3
                have fc := fst_chk ms v0 v1 v2 v3 v4 t7
                obtain ⟨oc, lc⟩ := ok_chk ms v0 v1 v2 v3 v4 t7
                walk_at "sq go"
                refine ⟨⟨lc, oc, fun e K7 s7 => ?_, fun nm v e y K7 s7 ny gy => ?_⟩⟩
                · have gD7 := gDs s7
                  rw [fc] at e
                  walk_at "sq go"
                  exact fin _ _ s7 (by rw [e]; rfl)
                · have gD7 := gDs s7
                  rw [fc] at e
                  walk_at "sq go"
                  exact fin _ _ s7 (by rw [e]; exact ⟨y, rfl, gy⟩)
              · obtain ⟨ws, bt3, gD3, lw, ok3⟩ := h.o
                have sm3 := bt3.same sD3 nD3
                have l7 : ws.length = 7 := lw
                walk_at "sq go"
                refine ⟨⟨(alike_errs (due := fun m => dueR (m : Nat) ms v0 v1 v2 v3 v4) okd (sm3 _ _ gD) gD3 (lu.trans l7.symm) (by omega) (fun m u e => (ok m u e).same sm3) ok3).mono (by decide)⟩, fun K7 s7 => ?_⟩
                have s17 := sm.trans (sm3.trans s7)
                have hA7 := s17.seq hA
                walk_at "sq go"
                refine rRepr_ok (dok_dI lgm len5) (dp_iv hA7) (by decide) (by decide) ?_
                walk_at "sq go"
                refine ifN (fun c => absurd rfl c) (fun _ => ?_)
                walk_at "sq go"
                exact ⟨_, _, _, _, _, _, _, _, _, _, _, _, _, _, _, _, _, _, rfl, SepB.mono ((hsZ.on s17).weak TG) (by omega)⟩
      · obtain ⟨x2, x3, x4, x5, x6, x7, x8, x9, x10, x11, x12, x13, x14, x15, x16, x17, x18, x19, rfl, hs1⟩ := h.o
        exact ⟨_, _, _, _, _, _, _, _, _, _, _, _, _, _, _, _, _, _, rfl, SepB.mono hs1 (by omega), hi12⟩
    · obtain ⟨x2, x3, x4, x5, x6, x7, x8, x9, x10, x11, x12, x13, x14, x15, x16, x17, x18, x19, rfl, hs, hi11⟩ := h.o
      walk_at "sq go"
      intro a1 na1
      walk_at "sq go"
      intro a2 na2
      have g1 : upd (upd H' a1 (.lst [.int 3, .int 1])) a2 (.lst [.int 0]) a1 = some (.lst (iv [3, 1])) := upd_keep na2 upd_same
      have g2 : upd (upd H' a1 (.lst [.int 3, .int 1])) a2 (.lst [.int 0]) a2 = some (.lst (iv [0])) := upd_same
      have e31 : bad [3, 1] = some 1 := by decide
      walk_at "sq go"
      refine ⟨.inr ⟨rfl, rfl⟩, ⟨by decide, by decide, ⟨fun e => absurd (e31.symm.trans e) (by decide), by unfold Sm; decide, (by decide : (0 : Int) ≤ 6), (by unfold Sm; decide : Sm 100 0), (by decide : (0 : Int) ≤ 59), (by unfold Sm; decide : Sm 100 0)⟩, fun e => absurd e (by decide), fun nm v e l K4 s4 nl gl => ?_⟩⟩
      cases (show some (("InvalidList" : Str), V.int (1 : Nat)) = some (nm, v) from e)
      walk_at "sq go"
      intro a3 na3
      walk_at "sq go"
      refine ⟨⟨?_⟩, fun K5 s5 => q K5⟩
      refine ⟨dErr (some (("InvalidList" : Str), V.int (1 : Nat))), ?_, ?_, ?_, ?_⟩
      · exact .lst (seqL_of (upd_keep na3 gl)) (.cons (.str _) (.cons (.int _) (.cons (.bl _) .nil)))
      · exact .lst (seqL_of upd_same) (.cons (.str _) (.cons (.int _) (.cons (.bl _) .nil)))
      · simp [dErr, dV, plain, plainAll, show (PyData.str "InvalidList").canLay0 = true by decide +kernel]
      · simp [dErr, dV, PyData.depth, PyData.depthAll]

/-! ### a class that does not end an iterator -/
theorem nst_mk {h : Heap} {C : Addr} {y : Str} (_ : K.In h) (_ : mg y = some (.ref C)) (x : PySem.W.subIn K (.ref C) (.type "StopIteration") = some false) : PySem.W.subIn K (.ref C) (.type "StopIteration") = some false := x
end
end Sq
open PySem PySem.W PyProof.Rows in
set_option maxRecDepth 100000 in
set_option maxHeartbeats 0 in
theorem PySem.Challenge.cw_squeezelists_k11_errors_of_reaches_and_o_holds : PySem.Challenge.rw_squeezelists_k11_errors_of_reaches_and_o.Holds := by
  w_on; o_law; k_head; (case hw => w_witness2)
  k_fill
  refine Sq.walk_ofG (l := PySem.Challenge.rw_squeezelists_k11_errors_of_reaches_and_o) (n := 63) (k := 12) (x := "script") (sp := Sq.spLaw) rfl (by decide) rfl ⟨rfl, by decide, by decide⟩ (fun w h Y => PySem.W.kIn_of Y) ?F (fun K H a ns hl hS => ⟨a, ns, rfl, hS, hl, fun _ => rfl⟩)
  case F =>
    intro w mg fa h KX G hmg
    have B : Sq.Bt mg := by
      refine' ⟨PySem.W.mg_none_of KX G ?z0, PySem.W.mg_none_of KX G ?z1, PySem.W.mg_none_of KX G ?z2, PySem.W.mg_none_of KX G ?z3, PySem.W.mg_none_of KX G ?z4, PySem.W.mg_none_of KX G ?z5, PySem.W.mg_none_of KX G ?z6, PySem.W.mg_none_of KX G ?z7, PySem.W.mg_none_of KX G ?z8, PySem.W.mg_none_of KX G ?z9, PySem.W.mg_none_of KX G ?z10, PySem.W.mg_none_of KX G ?z11, PySem.W.mg_none_of KX G ?z12, PySem.W.mg_none_of KX G ?z13⟩
      (case z0 => k_is)
      (case z1 => k_is)
      (case z2 => k_is)
      (case z3 => k_is)
      (case z4 => k_is)
      (case z5 => k_is)
      (case z6 => k_is)
      (case z7 => k_is)
      (case z8 => k_is)
      (case z9 => k_is)
      (case z10 => k_is)
      (case z11 => k_is)
      (case z12 => k_is)
      (case z13 => k_is)
    refine' Sq.cutD (Sq.DefAt.mk1 (x := "check_list") (st := Sq.s_check_list) (ps := ["replacements"]) KX G ?a_check_list ?l_check_list ?c_check_list ?k_check_list (fun _ _ _ _ _ _ us hl => match us, hl with | [_], _ => rfl)) ?_
    (case a_check_list => k_is); (case l_check_list => k_is); (case c_check_list => k_is); (case k_check_list => k_is)
    intro D_check_list
    refine' Sq.cutD (Sq.DefAt.mk1 (x := "check_length") (st := Sq.s_check_length) (ps := ["length"]) KX G ?a_check_length ?l_check_length ?c_check_length ?k_check_length (fun _ _ _ _ _ _ us hl => match us, hl with | [_], _ => rfl)) ?_
    (case a_check_length => k_is); (case l_check_length => k_is); (case c_check_length => k_is); (case k_check_length => k_is)
    intro D_check_length
    refine' Sq.cutD (Sq.DefAt.mk1 (x := "squeezed_once") (st := Sq.s_squeezed_once) (ps := ["length", "replacement"]) KX G ?a_squeezed_once ?l_squeezed_once ?c_squeezed_once ?k_squeezed_once (fun _ _ _ _ _ _ us hl => match us, hl with | [_, _], _ => rfl)) ?_
    (case a_squeezed_once => k_is); (case l_squeezed_once => k_is); (case c_squeezed_once => k_is); (case k_squeezed_once => k_is)
    intro D_squeezed_once
    refine' Sq.cutD (Sq.DefAt.mk1 (x := "squeezed_by") (st := Sq.s_squeezed_by) (ps := ["length", "replacements"]) KX G ?a_squeezed_by ?l_squeezed_by ?c_squeezed_by ?k_squeezed_by (fun _ _ _ _ _ _ us hl => match us, hl with | [_, _], _ => rfl)) ?_
    (case a_squeezed_by => k_is); (case l_squeezed_by => k_is); (case c_squeezed_by => k_is); (case k_squeezed_by => k_is)
    intro D_squeezed_by
    refine' Sq.cutD (Sq.DefAt.mk1 (x := "greatest_origin_of") (st := Sq.s_greatest_origin_of) (ps := ["length", "replacements"]) KX G ?a_greatest_origin_of ?l_greatest_origin_of ?c_greatest_origin_of ?k_greatest_origin_of (fun _ _ _ _ _ _ us hl => match us, hl with | [_, _], _ => rfl)) ?_
    (case a_greatest_origin_of => k_is); (case l_greatest_origin_of => k_is); (case c_greatest_origin_of => k_is); (case k_greatest_origin_of => k_is)
    intro D_greatest_origin_of
    refine' Sq.cutD (Sq.DefAt.mk1 (x := "greatest_origin") (st := Sq.s_greatest_origin) (ps := ["length", "replacements"]) KX G ?a_greatest_origin ?l_greatest_origin ?c_greatest_origin ?k_greatest_origin (fun _ _ _ _ _ _ us hl => match us, hl with | [_, _], _ => rfl)) ?_
    (case a_greatest_origin => k_is); (case l_greatest_origin => k_is); (case c_greatest_origin => k_is); (case k_greatest_origin => k_is)
    intro D_greatest_origin
    refine' Sq.cutD (Sq.DefAt.mk1 (x := "before_one") (st := Sq.s_before_one) (ps := ["length", "replacement"]) KX G ?a_before_one ?l_before_one ?c_before_one ?k_before_one (fun _ _ _ _ _ _ us hl => match us, hl with | [_, _], _ => rfl)) ?_
    (case a_before_one => k_is); (case l_before_one => k_is); (case c_before_one => k_is); (case k_before_one => k_is)
    intro D_before_one
    refine' Sq.cutD (Sq.DefAt.mk1 (x := "origins_of") (st := Sq.s_origins_of) (ps := ["length", "replacements"]) KX G ?a_origins_of ?l_origins_of ?c_origins_of ?k_origins_of (fun _ _ _ _ _ _ us hl => match us, hl with | [_, _], _ => rfl)) ?_
    (case a_origins_of => k_is); (case l_origins_of => k_is); (case c_origins_of => k_is); (case k_origins_of => k_is)
    intro D_origins_of
    refine' Sq.cutD (Sq.DefAt.mk1 (x := "origins") (st := Sq.s_origins) (ps := ["length", "replacements"]) KX G ?a_origins ?l_origins ?c_origins ?k_origins (fun _ _ _ _ _ _ us hl => match us, hl with | [_, _], _ => rfl)) ?_
    (case a_origins => k_is); (case l_origins => k_is); (case c_origins => k_is); (case k_origins => k_is)
    intro D_origins
    refine' Sq.cutD (Sq.DefAt.mk1 (x := "count_up_to") (st := Sq.s_count_up_to) (ps := ["length", "replacements", "last"]) KX G ?a_count_up_to ?l_count_up_to ?c_count_up_to ?k_count_up_to (fun _ _ _ _ _ _ us hl => match us, hl with | [_, _, _], _ => rfl)) ?_
    (case a_count_up_to => k_is); (case l_count_up_to => k_is); (case c_count_up_to => k_is); (case k_count_up_to => k_is)
    intro D_count_up_to
    refine' Sq.cutD (Sq.DefAt.mk1 (x := "count_origins") (st := Sq.s_count_origins) (ps := ["length", "replacements", "last"]) KX G ?a_count_origins ?l_count_origins ?c_count_origins ?k_count_origins (fun _ _ _ _ _ _ us hl => match us, hl with | [_, _, _], _ => rfl)) ?_
    (case a_count_origins => k_is); (case l_count_origins => k_is); (case c_count_origins => k_is); (case k_count_origins => k_is)
    intro D_count_origins
    refine' Sq.cutD (Sq.DefAt.mk1 (x := "check_most") (st := Sq.s_check_most) (ps := ["most"]) KX G ?a_check_most ?l_check_most ?c_check_most ?k_check_most (fun _ _ _ _ _ _ us hl => match us, hl with | [_], _ => rfl)) ?_
    (case a_check_most => k_is); (case l_check_most => k_is); (case c_check_most => k_is); (case k_check_most => k_is)
    intro D_check_most
    refine' Sq.cutD (Sq.DefAt.mk1 (x := "check_steps") (st := Sq.s_check_steps) (ps := ["steps", "most"]) KX G ?a_check_steps ?l_check_steps ?c_check_steps ?k_check_steps (fun _ _ _ _ _ _ us hl => match us, hl with | [_, _], _ => rfl)) ?_
    (case a_check_steps => k_is); (case l_check_steps => k_is); (case c_check_steps => k_is); (case k_check_steps => k_is)
    intro D_check_steps
    refine' Sq.cutD (Sq.DefAt.mk1 (x := "reach_before") (st := Sq.s_reach_before) (ps := ["reached", "replacement"]) KX G ?a_reach_before ?l_reach_before ?c_reach_before ?k_reach_before (fun _ _ _ _ _ _ us hl => match us, hl with | [_, _], _ => rfl)) ?_
    (case a_reach_before => k_is); (case l_reach_before => k_is); (case c_reach_before => k_is); (case k_reach_before => k_is)
    intro D_reach_before
    refine' Sq.cutD (Sq.DefAt.mk1 (x := "reach_of") (st := Sq.s_reach_of) (ps := ["replacements", "most"]) KX G ?a_reach_of ?l_reach_of ?c_reach_of ?k_reach_of (fun _ _ _ _ _ _ us hl => match us, hl with | [_, _], _ => rfl)) ?_
    (case a_reach_of => k_is); (case l_reach_of => k_is); (case c_reach_of => k_is); (case k_reach_of => k_is)
    intro D_reach_of
    refine' Sq.cutD (Sq.DefAt.mk1 (x := "best_replacements") (st := Sq.s_best_replacements) (ps := ["reached"]) KX G ?a_best_replacements ?l_best_replacements ?c_best_replacements ?k_best_replacements (fun _ _ _ _ _ _ us hl => match us, hl with | [_], _ => rfl)) ?_
    (case a_best_replacements => k_is); (case l_best_replacements => k_is); (case c_best_replacements => k_is); (case k_best_replacements => k_is)
    intro D_best_replacements
    refine' Sq.cutD (Sq.DefAt.mk1 (x := "_law_source") (st := Sq.s_law_source) (ps := ["script"]) KX G ?a_law_source ?l_law_source ?c_law_source ?k_law_source (fun _ _ _ _ _ _ us hl => match us, hl with | [_], _ => rfl)) ?_
    (case a_law_source => k_is); (case l_law_source => k_is); (case c_law_source => k_is); (case k_law_source => k_is)
    intro D_law_source
    refine' Sq.cutD (Sq.DefAt.mk1 (x := "_law_draw") (st := Sq.s_law_draw) (ps := ["source", "many"]) KX G ?a_law_draw ?l_law_draw ?c_law_draw ?k_law_draw (fun _ _ _ _ _ _ us hl => match us, hl with | [_, _], _ => rfl)) ?_
    (case a_law_draw => k_is); (case l_law_draw => k_is); (case c_law_draw => k_is); (case k_law_draw => k_is)
    intro D_law_draw
    refine' Sq.cutD (Sq.DefAt.mk1 (x := "_law_same") (st := Sq.s_law_same) (ps := ["found", "wanted"]) KX G ?a_law_same ?l_law_same ?c_law_same ?k_law_same (fun _ _ _ _ _ _ us hl => match us, hl with | [_, _], _ => rfl)) ?_
    (case a_law_same => k_is); (case l_law_same => k_is); (case c_law_same => k_is); (case k_law_same => k_is)
    intro D_law_same
    refine' Sq.cutD (Sq.DefAt.mk1 (x := "_law_row") (st := Sq.s_law_row) (ps := ["source", "many", "wide"]) KX G ?a_law_row ?l_law_row ?c_law_row ?k_law_row (fun _ _ _ _ _ _ us hl => match us, hl with | [_, _, _], _ => rfl)) ?_
    (case a_law_row => k_is); (case l_law_row => k_is); (case c_law_row => k_is); (case k_law_row => k_is)
    intro D_law_row
    refine' Sq.cutD (Sq.DefAt.mk1 (x := "_law_error") (st := Sq.s_law_error) (ps := ["e"]) KX G ?a_law_error ?l_law_error ?c_law_error ?k_law_error (fun _ _ _ _ _ _ us hl => match us, hl with | [_], _ => rfl)) ?_
    (case a_law_error => k_is); (case l_law_error => k_is); (case c_law_error => k_is); (case k_law_error => k_is)
    intro D_law_error
    refine' Sq.cutD (Sq.DefAt.mk1 (x := "_law_spoilt") (st := Sq.s_law_spoilt) (ps := ["source", "row"]) KX G ?a_law_spoilt ?l_law_spoilt ?c_law_spoilt ?k_law_spoilt (fun _ _ _ _ _ _ us hl => match us, hl with | [_, _], _ => rfl)) ?_
    (case a_law_spoilt => k_is); (case l_law_spoilt => k_is); (case c_law_spoilt => k_is); (case k_law_spoilt => k_is)
    intro D_law_spoilt
    refine' Sq.cutD (Sq.DefAt.mk1 (x := "_law_raised") (st := Sq.s_law_raised) (ps := ["door", "row", "some"]) KX G ?a_law_raised ?l_law_raised ?c_law_raised ?k_law_raised (fun _ _ _ _ _ _ us hl => match us, hl with | [_, _, _], _ => rfl)) ?_
    (case a_law_raised => k_is); (case l_law_raised => k_is); (case c_law_raised => k_is); (case k_law_raised => k_is)
    intro D_law_raised
    refine' Sq.cutD (Sq.DefAt.mk1 (x := "_law_due") (st := Sq.s_law_due) (ps := ["checks"]) KX G ?a_law_due ?l_law_due ?c_law_due ?k_law_due (fun _ _ _ _ _ _ us hl => match us, hl with | [_], _ => rfl)) ?_
    (case a_law_due => k_is); (case l_law_due => k_is); (case c_law_due => k_is); (case k_law_due => k_is)
    intro D_law_due
    refine' Sq.cutD (Sq.DefAt.mk1 (x := "law") (st := Sq.s_law) (ps := ["script"]) KX G ?a_law ?l_law ?c_law ?k_law (fun _ _ _ _ _ _ us hl => match us, hl with | [_], _ => rfl)) ?_
    (case a_law => k_is); (case l_law => k_is); (case c_law => k_is); (case k_law => k_is)
    intro D_law
    refine' Sq.cutD (Sq.glob_mk (x := "InvalidList") KX G ?aC_InvalidList) ?_
    (case aC_InvalidList => k_is)
    intro C_InvalidList
    refine' Sq.cutD (Sq.glob_mk (x := "InvalidNumber") KX G ?aC_InvalidNumber) ?_
    (case aC_InvalidNumber => k_is)
    intro C_InvalidNumber
    refine' Sq.cutD (Sq.glob_mk (x := "InvalidCharacter") KX G ?aC_InvalidCharacter) ?_
    (case aC_InvalidCharacter => k_is)
    intro C_InvalidCharacter
    refine' Sq.cutD (Sq.glob_mk (x := "NothingToUndo") KX G ?aC_NothingToUndo) ?_
    (case aC_NothingToUndo => k_is)
    intro C_NothingToUndo
    refine' Sq.cutD (Sq.glob_mk (x := "Unreadable") KX G ?aC_Unreadable) ?_
    (case aC_Unreadable => k_is)
    intro C_Unreadable
    refine' Sq.cutD (Sq.glob_mk (x := "SqueezeError") KX G ?aC_SqueezeError) ?_
    (case aC_SqueezeError => k_is)
    intro C_SqueezeError
    refine' Sq.cutD (Sq.nst_mk KX C_InvalidList ?ns_InvalidList) ?_
    (case ns_InvalidList => k_is)
    intro NS_InvalidList
    refine' Sq.cutD (Sq.nst_mk KX C_InvalidNumber ?ns_InvalidNumber) ?_
    (case ns_InvalidNumber => k_is)
    intro NS_InvalidNumber
    refine' Sq.cutD (Sq.knd_mk KX C_InvalidList C_InvalidList C_InvalidNumber C_InvalidCharacter C_NothingToUndo C_Unreadable C_SqueezeError ?hg_InvalidList ?hk_InvalidList ?hs_InvalidList ?hd_InvalidList ?ha_InvalidList ?hn_InvalidList ?ht_InvalidList ?hm_InvalidList ?nv_InvalidList ?k1_InvalidList ?k2_InvalidList ?k3_InvalidList ?k4_InvalidList ?k5_InvalidList ?kS_InvalidList ?kV_InvalidList ?x1_InvalidList ?x2_InvalidList ?x3_InvalidList ?x4_InvalidList) ?_
    (case hg_InvalidList => k_is)
    (case hk_InvalidList => k_is)
    (case hs_InvalidList => k_is)
    (case hd_InvalidList => k_is)
    (case ha_InvalidList => k_is)
    (case hn_InvalidList => k_is)
    (case ht_InvalidList => k_is)
    (case hm_InvalidList => k_is)
    (case nv_InvalidList => k_is)
    (case k1_InvalidList => kit_is)
    (case k2_InvalidList => kit_is)
    (case k3_InvalidList => kit_is)
    (case k4_InvalidList => kit_is)
    (case k5_InvalidList => kit_is)
    (case kS_InvalidList => kit_is)
    (case kV_InvalidList => kit_is)
    (case x1_InvalidList => k_is)
    (case x2_InvalidList => k_is)
    (case x3_InvalidList => k_is)
    (case x4_InvalidList => k_is)
    intro N_InvalidList
    refine' Sq.cutD (Sq.knd_mk KX C_InvalidNumber C_InvalidList C_InvalidNumber C_InvalidCharacter C_NothingToUndo C_Unreadable C_SqueezeError ?hg_InvalidNumber ?hk_InvalidNumber ?hs_InvalidNumber ?hd_InvalidNumber ?ha_InvalidNumber ?hn_InvalidNumber ?ht_InvalidNumber ?hm_InvalidNumber ?nv_InvalidNumber ?k1_InvalidNumber ?k2_InvalidNumber ?k3_InvalidNumber ?k4_InvalidNumber ?k5_InvalidNumber ?kS_InvalidNumber ?kV_InvalidNumber ?x1_InvalidNumber ?x2_InvalidNumber ?x3_InvalidNumber ?x4_InvalidNumber) ?_
    (case hg_InvalidNumber => k_is)
    (case hk_InvalidNumber => k_is)
    (case hs_InvalidNumber => k_is)
    (case hd_InvalidNumber => k_is)
    (case ha_InvalidNumber => k_is)
    (case hn_InvalidNumber => k_is)
    (case ht_InvalidNumber => k_is)
    (case hm_InvalidNumber => k_is)
    (case nv_InvalidNumber => k_is)
    (case k1_InvalidNumber => kit_is)
    (case k2_InvalidNumber => kit_is)
    (case k3_InvalidNumber => kit_is)
    (case k4_InvalidNumber => kit_is)
    (case k5_InvalidNumber => kit_is)
    (case kS_InvalidNumber => kit_is)
    (case kV_InvalidNumber => kit_is)
    (case x1_InvalidNumber => k_is)
    (case x2_InvalidNumber => k_is)
    (case x3_InvalidNumber => k_is)
    (case x4_InvalidNumber => k_is)
    intro N_InvalidNumber
    have c6 : Sq.Cls6 mg _ _ _ _ _ _ := ⟨C_InvalidList, C_InvalidNumber, C_InvalidCharacter, C_NothingToUndo, C_Unreadable, C_SqueezeError⟩
    refine' Sq.cutD (Sq.funD_mk (x := "reach") (st := Sq.s_reach) (dvs := [.int 1]) KX G ?a_reach ?l_reach ?c_reach ?k_reach ?t_reach ?e_reach ?v_reach (by simp)) ?_
    (case a_reach => k_is); (case l_reach => k_is); (case c_reach => k_is); (case k_reach => k_is); (case t_reach => k_is); (case e_reach => rfl); (case v_reach => exact .cons ⟨_, rfl⟩ .nil)
    rintro ⟨FR_reach, mR_reach⟩
    have D_reach := Sq.dfl_mk (ps := ["replacements", "most"]) FR_reach mR_reach (by simp) (fun T kV doc pm an cdv ct us its h1 h2 => match us, its, h1, h2 with | [_, _], [_], _, _ => ⟨_, rfl, rfl⟩)
    refine' Sq.cutD (Sq.funD_mk (x := "best_reach") (st := Sq.s_best_reach) (dvs := [.int 1]) KX G ?a_best_reach ?l_best_reach ?c_best_reach ?k_best_reach ?t_best_reach ?e_best_reach ?v_best_reach (by simp)) ?_
    (case a_best_reach => k_is); (case l_best_reach => k_is); (case c_best_reach => k_is); (case k_best_reach => k_is); (case t_best_reach => k_is); (case e_best_reach => rfl); (case v_best_reach => exact .cons ⟨_, rfl⟩ .nil)
    rintro ⟨FR_best_reach, mR_best_reach⟩
    have D_best_reach := Sq.dfl_mk (ps := ["steps", "most"]) FR_best_reach mR_best_reach (by simp) (fun T kV doc pm an cdv ct us its h1 h2 => match us, its, h1, h2 with | [_, _], [_], _, _ => ⟨_, rfl, rfl⟩)
    refine' Sq.cutD (Sq.funD_mk (x := "fewest_steps") (st := Sq.s_fewest_steps) (dvs := [.int 1]) KX G ?a_fewest_steps ?l_fewest_steps ?c_fewest_steps ?k_fewest_steps ?t_fewest_steps ?e_fewest_steps ?v_fewest_steps (by simp)) ?_
    (case a_fewest_steps => k_is); (case l_fewest_steps => k_is); (case c_fewest_steps => k_is); (case k_fewest_steps => k_is); (case t_fewest_steps => k_is); (case e_fewest_steps => rfl); (case v_fewest_steps => exact .cons ⟨_, rfl⟩ .nil)
    rintro ⟨FR_fewest_steps, mR_fewest_steps⟩
    have D_fewest_steps := Sq.dfl_mk (ps := ["length", "most"]) FR_fewest_steps mR_fewest_steps (by simp) (fun T kV doc pm an cdv ct us its h1 h2 => match us, its, h1, h2 with | [_, _], [_], _, _ => ⟨_, rfl, rfl⟩)
    refine' Sq.cutD (Sq.funD_mk (x := "best_lists") (st := Sq.s_best_lists) (dvs := [.int 1]) KX G ?a_best_lists ?l_best_lists ?c_best_lists ?k_best_lists ?t_best_lists ?e_best_lists ?v_best_lists (by simp)) ?_
    (case a_best_lists => k_is); (case l_best_lists => k_is); (case c_best_lists => k_is); (case k_best_lists => k_is); (case t_best_lists => k_is); (case e_best_lists => rfl); (case v_best_lists => exact .cons ⟨_, rfl⟩ .nil)
    rintro ⟨FR_best_lists, mR_best_lists⟩
    have D_best_lists := Sq.dfl_mk (ps := ["steps", "most"]) FR_best_lists mR_best_lists (by simp) (fun T kV doc pm an cdv ct us its h1 h2 => match us, its, h1, h2 with | [_, _], [_], _, _ => ⟨_, rfl, rfl⟩)
    obtain ⟨fd, F, hb⟩ := D_law.law hmg (fun _ _ _ _ _ _ us hl => match us, hl with | [_], _ => rfl)
    refine ⟨fd, hb, fun base _ _ => ?_⟩
    refine' Sq.cutD (Sq.rai_mk (P := PySem.Challenge.rw_squeezelists_k11_errors_of_reaches_and_o.prog) (w := w) (base := base) KX G C_InvalidList ?lC_InvalidList ?rC_InvalidList ?sa_InvalidList ?ex_InvalidList ?ty_InvalidList ?kc_InvalidList ?ini_InvalidList ?tyf_InvalidList ?l_InvalidList ?co_InvalidList ?cell_InvalidList ?rec__InvalidList ?v2_InvalidList ?fl_InvalidList ?top_InvalidList ?opq_InvalidList ?sup_InvalidList ?veb_InvalidList ?slf_InvalidList ?val_InvalidList ?ms_InvalidList ?he_InvalidList ?hb_InvalidList) ?_
    (case lC_InvalidList => k_is)
    (case rC_InvalidList => decide +kernel)
    (case sa_InvalidList => k_is)
    (case ex_InvalidList => k_is)
    (case ty_InvalidList => k_is)
    (case kc_InvalidList => k_is)
    (case ini_InvalidList => k_is)
    (case tyf_InvalidList => k_is)
    (case l_InvalidList => k_is)
    (case co_InvalidList => k_is)
    (case cell_InvalidList => k_is)
    (case rec__InvalidList => k_is)
    (case v2_InvalidList => rfl)
    (case fl_InvalidList => rfl)
    (case top_InvalidList => rfl)
    (case opq_InvalidList => k_is)
    (case sup_InvalidList => ks_is)
    (case veb_InvalidList => k_is)
    (case slf_InvalidList => k_is)
    (case val_InvalidList => k_is)
    (case ms_InvalidList => k_is)
    (case he_InvalidList => exact fun _ => rfl)
    (case hb_InvalidList => exact fun us hl => match us, hl with | [_, _], _ => rfl)
    intro R_InvalidList
    refine' Sq.cutD (Sq.rai_mk (P := PySem.Challenge.rw_squeezelists_k11_errors_of_reaches_and_o.prog) (w := w) (base := base) KX G C_InvalidNumber ?lC_InvalidNumber ?rC_InvalidNumber ?sa_InvalidNumber ?ex_InvalidNumber ?ty_InvalidNumber ?kc_InvalidNumber ?ini_InvalidNumber ?tyf_InvalidNumber ?l_InvalidNumber ?co_InvalidNumber ?cell_InvalidNumber ?rec__InvalidNumber ?v2_InvalidNumber ?fl_InvalidNumber ?top_InvalidNumber ?opq_InvalidNumber ?sup_InvalidNumber ?veb_InvalidNumber ?slf_InvalidNumber ?val_InvalidNumber ?ms_InvalidNumber ?he_InvalidNumber ?hb_InvalidNumber) ?_
    (case lC_InvalidNumber => k_is)
    (case rC_InvalidNumber => decide +kernel)
    (case sa_InvalidNumber => k_is)
    (case ex_InvalidNumber => k_is)
    (case ty_InvalidNumber => k_is)
    (case kc_InvalidNumber => k_is)
    (case ini_InvalidNumber => k_is)
    (case tyf_InvalidNumber => k_is)
    (case l_InvalidNumber => k_is)
    (case co_InvalidNumber => k_is)
    (case cell_InvalidNumber => k_is)
    (case rec__InvalidNumber => k_is)
    (case v2_InvalidNumber => rfl)
    (case fl_InvalidNumber => rfl)
    (case top_InvalidNumber => rfl)
    (case opq_InvalidNumber => k_is)
    (case sup_InvalidNumber => ks_is)
    (case veb_InvalidNumber => k_is)
    (case slf_InvalidNumber => k_is)
    (case val_InvalidNumber => k_is)
    (case ms_InvalidNumber => k_is)
    (case he_InvalidNumber => exact fun _ => rfl)
    (case hb_InvalidNumber => exact fun us hl => match us, hl with | [_, _], _ => rfl)
    intro R_InvalidNumber
    have ccl := Sq.cal_check_listX (P := PySem.Challenge.rw_squeezelists_k11_errors_of_reaches_and_o.prog) (w := w) (base := base) D_check_list B R_InvalidList
    have cln := Sq.cal_check_lengthX (P := PySem.Challenge.rw_squeezelists_k11_errors_of_reaches_and_o.prog) (w := w) (base := base) D_check_length B R_InvalidNumber
    have cmo := Sq.cal_check_mostX (P := PySem.Challenge.rw_squeezelists_k11_errors_of_reaches_and_o.prog) (w := w) (base := base) D_check_most B R_InvalidNumber
    have cst := Sq.cal_check_stepsX (P := PySem.Challenge.rw_squeezelists_k11_errors_of_reaches_and_o.prog) (w := w) (base := base) D_check_steps B R_InvalidNumber cmo
    have crb := Sq.cal_reach_before (P := PySem.Challenge.rw_squeezelists_k11_errors_of_reaches_and_o.prog) (w := w) (base := base) D_reach_before B
    have cbr := Sq.cal_bestR (P := PySem.Challenge.rw_squeezelists_k11_errors_of_reaches_and_o.prog) (w := w) (base := base) D_best_replacements B
    have cbo := Sq.cal_before_one (P := PySem.Challenge.rw_squeezelists_k11_errors_of_reaches_and_o.prog) (w := w) (base := base) D_before_one B
    have cby := Sq.cal_squeezed_by (P := PySem.Challenge.rw_squeezelists_k11_errors_of_reaches_and_o.prog) (w := w) (base := base) D_squeezed_by B (Sq.cal_squeezed_once D_squeezed_once B)
    have ccu := Sq.cal_count_up_to D_count_up_to B cby cbo 4
    have cd := Sq.cal_draw (P := PySem.Challenge.rw_squeezelists_k11_errors_of_reaches_and_o.prog) (w := w) (base := base) D_law_draw B
    have ce := Sq.cal_error (P := PySem.Challenge.rw_squeezelists_k11_errors_of_reaches_and_o.prog) (w := w) (base := base) D_law_error B c6
    have cs := Sq.cal_same (P := PySem.Challenge.rw_squeezelists_k11_errors_of_reaches_and_o.prog) (w := w) (base := base) D_law_same B 3
    have cr := Sq.cal_raised (dc := 4) (by decide) (by decide) D_law_raised B c6 N_InvalidList N_InvalidNumber NS_InvalidList NS_InvalidNumber ce (Sq.cal_reachX D_reach B ccl cmo (Sq.cal_reach_of D_reach_of B crb)) (Sq.cal_best_reachX D_best_reach B cst crb cbr) (Sq.cal_fewestX D_fewest_steps B cln cmo crb cbr)
      (Sq.cal_greatX D_greatest_origin B cln ccl (Sq.cal_greatest_origin_of D_greatest_origin_of B)) (Sq.cal_countX D_count_origins B R_InvalidNumber cln ccl ccu) (Sq.gen_origins1 D_origins B cln ccl (Sq.cal_origins_of D_origins_of B cbo)) (Sq.gen_best D_best_lists B cst crb cbr)
    refine Sq.ok_law F B (Sq.cal_source D_law_source B) cd (Sq.cal_row D_law_row B cd) (Sq.cal_spoilt D_law_spoilt B cd) (Sq.cal_due D_law_due B) cr cs
