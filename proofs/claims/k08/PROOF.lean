import PyProof.Rows.All
import Wide.All
import OpenK.AllK
import Wide.FinOn
import HandS.ForMost
import HandS.Wide
import HandS.Style
import HandS.SortInts
import HandS.Deep
import HandS.Defaults
import HandS.Flow
import HandS.IsInst
import HandS.Codes
import HandS.NoneIn
import HandS.Property
import HandS.RaiseMore
import PyProof.ReprRoads
import PyProof.LongRange
import HandS.Exc
import HandS.ExcInit
import HandS.NestedK
import KE.KExcSuper
import HandS.ExcIs
import HandS.ExcField
import KE.KExcIs
import HandS.WordsExc
import HandS.MakeKwOnly
import HandS.SetFor
import KE.RegKIsAll
import HandS.Walk
import HandS.Star
import KE.KUnpackStar
import HandS.GenList
import HandS.GenCall
import HandS.GenYield
import PyProof.GenRules
import PyProof.GenComp
import HandS.Conv
import KE.LtSeq
import HandS.TupLe
import PySem.Challenge.RW_squeezelists_k08_great_best_lists
set_option Elab.async false
set_option linter.all false
set_option maxRecDepth 100000
set_option maxHeartbeats 4000000
namespace Sq
open PySem PySem.Spec PyProof.Rows L2
/-! ## operators -/
/-- a power whose base has at most 100000 bits -/
def CPowW (i j : Int) : Prop := 0 ≤ j ∧ j ≤ 1000 ∧ i.natAbs.log2 < 100000
theorem bitsOf_le (i : Int) : Builtin.Int.intBits i ≤ i.natAbs.log2 + 1 := by
  unfold Builtin.Int.intBits
  split <;> omega
theorem op_powW {X : Cx} : OpR X (binaryOp .Pow) (rI CPowW fun i j => .int (i ^ j.toNat)) := opI fun i j _ _ _ _ _ hc q => by
  obtain ⟨h1, h2, h3⟩ := hc
  refine pow_int h1 ?_ q
  have hb := bitsOf_le i
  have h4 : ((Builtin.Int.intBits i : Nat) : Int) ≤ 100000 := by omega
  have h5 := Int.mul_le_mul h4 h2 h1 (by decide : (0 : Int) ≤ 100000)
  exact Int.le_trans h5 (by decide)
def ipIC (C : Int → Int → Prop) (f : Int → Int → Int) : TIp := fun x y H Q => ∃ i j, x = .int i ∧ y = .int j ∧ C i j ∧ Q (.int (f i j)) H
section
variable {X : Cx}
theorem ip_mulW : PIp X .Mult (ipIC CMulW fun i j => i * j) := by
  intro pins s σ H x y v u Q I r1 r2 h
  obtain ⟨i, j, e1, e2, c, q⟩ := h
  subst e1; subst e2
  obtain ⟨t, rfl⟩ := r1
  obtain ⟨t', rfl⟩ := r2
  exact imul_int ⟨.int _, H, I.tok _, ⟨_, rfl⟩, q⟩ c.ok
theorem ip_fdivW : PIp X .FloorDiv (ipIC CDivW fun i j => i / j) := by
  intro pins s σ H x y v u Q I r1 r2 h
  obtain ⟨i, j, e1, e2, c, q⟩ := h
  subst e1; subst e2
  obtain ⟨t, rfl⟩ := r1
  obtain ⟨t', rfl⟩ := r2
  have h1 : (0 : Int) < j := c.1
  refine ifloordiv_int (by omega) ?_ (.inl (PyProof.noPylong_of_log2 c.2))
  rw [Int.fdiv_eq_ediv_of_nonneg i (by omega)]
  exact ⟨.int _, H, I.tok _, ⟨_, rfl⟩, q⟩
end
/-- numbers below 2 ^ n have a small log2 -/
theorem lg_lt {i : Int} {n : Nat} (h : i.natAbs < 2 ^ n) (h0 : 0 < n) : i.natAbs.log2 < n := PySem.Flt.log2_lt_of h0 h

/-! ## sizes -/
/-- at most b bits -/
def Sm (b : Nat) (i : Int) : Prop := i.natAbs < 2 ^ b
theorem Sm.mono {a b : Nat} {i : Int} (h : Sm a i) (hab : a ≤ b) : Sm b i := Nat.lt_of_lt_of_le h (Nat.pow_le_pow_right (by decide) hab)
theorem Sm.lg {b : Nat} {i : Int} (h : Sm b i) (h0 : 0 < b) : i.natAbs.log2 < b := PySem.Flt.log2_lt_of h0 h
theorem Sm.add {b : Nat} {i j : Int} (h : Sm b i) (h' : Sm b j) : Sm (b + 1) (i + j) := by
  have e : 2 ^ (b + 1) = 2 ^ b + 2 ^ b := by rw [Nat.pow_succ]; omega
  unfold Sm at *
  omega
theorem Sm.neg {b : Nat} {i : Int} (h : Sm b i) : Sm b (-i) := by
  unfold Sm at *
  rw [Int.natAbs_neg]
  exact h
theorem Sm.sub {b : Nat} {i j : Int} (h : Sm b i) (h' : Sm b j) : Sm (b + 1) (i - j) := by
  rw [Int.sub_eq_add_neg]
  exact h.add h'.neg
theorem Sm.mul {a b : Nat} {i j : Int} (h : Sm a i) (h' : Sm b j) : Sm (a + b) (i * j) := by
  unfold Sm at *
  rw [Int.natAbs_mul, Nat.pow_add]
  exact Nat.mul_lt_mul'' h h'
theorem Sm.le {b : Nat} {i j : Int} (h : Sm b j) (h0 : 0 ≤ i) (hij : i ≤ j) : Sm b i := by
  unfold Sm at *
  omega
theorem Sm.wide {a b : Nat} {i j : Int} (h : Sm a i) (h' : Sm b j) (ha : 0 < a) (hb : 0 < b) (hab : a + b ≤ 1000000) : CMulW i j := by
  have h1 := h.lg ha
  have h2 := h'.lg hb
  unfold CMulW
  omega
/-- a small number -/
theorem Sm.of {b : Nat} {i : Int} (h : i.natAbs < 2 ^ 10) (hb : 10 ≤ b) : Sm b i := Sm.mono (a := 10) h hb
theorem div_ok {i k : Int} (h : 0 < k) (h2 : k < 2 ^ 240) : CDivW i k := ⟨h, Nat.lt_trans ((show Sm 240 k by unfold Sm; omega).lg (by decide)) (by decide)⟩
theorem pow_ok {b : Nat} {i j : Int} (h : Sm b i) (h0 : 0 < b) (hb : b ≤ 100000) (j0 : 0 ≤ j) (j1 : j ≤ 1000) : CPowW i j := ⟨j0, j1, Nat.lt_of_lt_of_le (h.lg h0) hb⟩
/-! ## rules whose reading speaks of the written part K itself (a comprehension's block has it too) -/
section
variable {X : Cx} {K : PySem.W.Frag}
theorem ix_listK (h : X.K = K := by rfl) : IxR X (rIxL K) := by subst h; exact ix_list
theorem ix_tupK (h : X.K = K := by rfl) : IxR X (rIxT K) := by subst h; exact ix_tup
theorem sl_listK (h : X.K = K := by rfl) : SlR X (rSlL K) := by subst h; exact sl_list
theorem sl_tupK (h : X.K = K := by rfl) : SlR X (rSlT K) := by subst h; exact sl_tup
def rLenQ (K : PySem.W.Frag) : List V → Hp → VK → Prop := fun xs H Q => ∃ p ys, xs = [.ref p] ∧ SqL K H p ys ∧ Q (.int ys.length) H
theorem len_seqK (h : X.K = K := by rfl) : CallR X (.builtin "len") (rLenQ K) := by
  subst h
  intro pins s σ H xs us Q I r q
  obtain ⟨p, ys, e, hs, q⟩ := q
  exact call_len_seq pins s σ H xs us Q I r ⟨p, ys, e, .inl hs, q⟩
/-- readings that are not to be opened by themselves -/
@[irreducible] def rEqQ (K : PySem.W.Frag) : R2 := rEqD K
@[irreducible] def rNeQ (K : PySem.W.Frag) : R2 := rNeD K
@[irreducible] def rInQ (K : PySem.W.Frag) : R2 := rInD K
@[irreducible] def rNotInQ (K : PySem.W.Frag) : R2 := rNotInD K
theorem rEqQ_of {H : Hp} {x y : V} {Q : VK} (h : rEqD K x y H Q) : rEqQ K x y H Q := by unfold rEqQ; exact h
theorem rNeQ_of {H : Hp} {x y : V} {Q : VK} (h : rNeD K x y H Q) : rNeQ K x y H Q := by unfold rNeQ; exact h
theorem rInQ_of {H : Hp} {x y : V} {Q : VK} (h : rInD K x y H Q) : rInQ K x y H Q := by unfold rInQ; exact h
theorem rNotInQ_of {H : Hp} {x y : V} {Q : VK} (h : rNotInD K x y H Q) : rNotInQ K x y H Q := by unfold rNotInQ; exact h
theorem op_eqDK (hu : X.A.units + 64 < cLine) (h : X.K = K := by rfl) : OpR X (compareOp .Eq) (rEqQ K) := by subst h; unfold rEqQ; exact op_eqD hu
theorem op_neDK (hu : X.A.units + 64 < cLine) (h : X.K = K := by rfl) : OpR X (compareOp .NotEq) (rNeQ K) := by subst h; unfold rNeQ; exact op_neD hu
theorem op_inDK (hu : X.A.units + 65 < cLine) (h : X.K = K := by rfl) : OpR X (compareOp .In) (rInQ K) := by subst h; unfold rInQ; exact op_inD hu
theorem op_notInDK (hu : X.A.units + 65 < cLine) (h : X.K = K := by rfl) : OpR X (compareOp .NotIn) (rNotInQ K) := by subst h; unfold rNotInQ; exact op_notInD hu
theorem isiK (h : X.K = K := by rfl) : CallR X (.builtin "isinstance") (rIsi K) := by subst h; exact call_isi
def rListOf (K : PySem.W.Frag) : List V → Hp → VK → Prop := fun xs H Q => ∃ p ys, xs = [.ref p] ∧ SqL K H p ys ∧ ∀ l, H l = none → Q (.ref l) (upd H l (.lst ys))
theorem list_ofK (h : X.K = K := by rfl) : CallR X (.type "list") (rListOf K) := by
  subst h
  intro pins s σ H xs us Q I r q
  obtain ⟨p, ys, e, hs, q⟩ := q
  exact call_list_of pins s σ H xs us Q I r ⟨p, ys, e, .inl hs, q⟩
theorem cr_sumK (hc : X.calm = true) (h : X.K = K := by rfl) : CallR X (.builtin "sum") (rSum K) := by subst h; exact cr_sum hc
theorem cr_maxK (hc : X.calm = true) (h : X.K = K := by rfl) : CallR X (.builtin "max") (rMax K) := by subst h; exact cr_max hc
theorem cr_minK (hc : X.calm = true) (h : X.K = K := by rfl) : CallR X (.builtin "min") (rMin K) := by subst h; exact cr_min hc
theorem cr_allK (hc : X.calm = true) (h : X.K = K := by rfl) : CallR X (.builtin "all") (rAll K) := by subst h; exact cr_all hc
theorem cr_anyK (hc : X.calm = true) (h : X.K = K := by rfl) : CallR X (.builtin "any") (rAny K) := by subst h; exact cr_any hc
theorem cr_sortedIK (h : X.K = K := by rfl) : CallR X (.builtin "sorted") (rSortedI K) := by subst h; exact cr_sortedI
variable {e a b : Expr} {te ta tb : TE} {es : List Expr} {t : TA} {tgs : TGs} {tg : Expr} {pos p q : Pos} {n : Nat}
theorem pi_listK (he : PE X e te) (h : X.K = K := by rfl) : PI X tg e (iList K te) := by subst h; exact pi_list he
theorem pg_tupK {k : Nat} (hc : X.calm = true) (hg : PGs X es tgs) (hn : (assignEach es X.env).length = n := by rfl) (hst : (assignEach es X.env).findIdx? (·.1) = none := by rfl) (h : X.K = K := by rfl) : PG X (.Tuple es k pos) (gTup K n tgs) := by
  subst h
  exact pg_tup hc hg hn hst
theorem pg_lstK {k : Nat} (hc : X.calm = true) (hg : PGs X es tgs) (hn : (assignEach es X.env).length = n := by rfl) (hst : (assignEach es X.env).findIdx? (·.1) = none := by rfl) (h : X.K = K := by rfl) : PG X (.Tuple es k pos) (gUnl K n tgs) := by
  subst h
  exact pg_unl hc hg hn hst
theorem pi_enumK {elts : List Expr} {kk : Nat} (hg : Gl X "enumerate") (hm : X.mg "enumerate" = none) (ha : PA X [e] t) (hs : starEach [e] X.env = [(false, eval e X.env)] := by rfl) (h : X.K = K := by rfl) :
    PI X (.Tuple elts kk p) (.Call (.Name "enumerate" q) [e] [] pos) (iEnum K t) := by
  subst h
  exact pi_enum hg hm ha hs
theorem pi_zipK {elts : List Expr} {kk : Nat} (hg : Gl X "zip") (hm : X.mg "zip" = none) (ha : PA X [a, b] t) (hs : starEach [a, b] X.env = (false, eval a X.env) :: starEach [b] X.env := by rfl)
    (hpl : (backTo pos (starEach [b] X.env)).any (·.1) = false := by rfl) (h : X.K = K := by rfl) : PI X (.Tuple elts kk p) (.Call (.Name "zip" q) [a, b] [] pos) (iZip K t) := by
  subst h
  exact pi_zip hg hm ha hs hpl
theorem pe_revLK {k : Nat} {p1 p2 p3 : Pos} (he : PE X e te) (h : X.K = K := by rfl) : PE X (.Subscript e (.Slice none none (some (.UnaryOp .USub (.Constant (.int 1) k p1) p2)) p3) pos) (tRevL K te) := by
  subst h
  exact pe_revL he
theorem pe_fldK {f : Str} (he : PE X e te) (hb : attributeBase e f X.env (eval e X.env) = eval e X.env := by rfl) (h : X.K = K := by rfl) : PE X (.Attribute e f pos) (tFld K te f) := by
  subst h
  exact pe_fld he hb
end

/-! ## heaps -/
/-- what holds between the turns of a loop (a wrapper: it is not taken apart by itself) -/
structure Keep (P : Prop) : Prop where
  o : P

theorem Same.get {H H' : Hp} {a : Addr} {o : HO} (s : Same H H') (h : H a = some o) : H' a = some o := s a o h
theorem same_new {H : Hp} {p : Addr} {o : HO} (h : H p = none) : Same H (upd H p o) := fun b u e => by
  rw [upd_ne (ne_of_none e h)]
  exact e
theorem upd_keep {H : Hp} {p a : Addr} {o u : HO} (n : H p = none) (h : H a = some u) : upd H p o a = some u := same_new n a u h
theorem upd_off {H : Hp} {p a : Addr} {o u : HO} (n : a ≠ p) (h : H a = some u) : upd H p o a = some u := by
  rw [upd_ne n]
  exact h
/-- a source of draws: what is true of it, where it stands -/
structure Rg where
  I : Hp → Prop
  S : Addr → Prop
  loc : ∀ H H' : Hp, (∀ a, S a → H' a = H a) → I H → I H'
  has : ∀ (H : Hp) (a : Addr), I H → S a → H a ≠ none
/-- the heap H is the quiet part G and the source -/
structure Sep (R : Rg) (G H : Hp) : Prop where
  inv : R.I H
  same : Same G H
  off : ∀ a, R.S a → G a = none
section
variable {R : Rg} {G G' H H' : Hp} {p a : Addr} {o u : HO}
theorem Sep.get (s : Sep R G H) (h : G a = some o) : H a = some o := s.same a o h
theorem Sep.free (s : Sep R G H) (h : H p = none) : G p = none := s.same.free h
theorem Sep.weak (s : Sep R G H) (h : Same G' G) : Sep R G' H := ⟨s.inv, h.trans s.same, fun a ha => by
  cases q : G' a with
  | none => rfl
  | some o =>
    have z := h a o q
    rw [s.off a ha] at z
    cases z⟩
theorem Sep.new (s : Sep R G H) (h : H p = none) (o : HO) : Sep R (upd G p o) (upd H p o) := by
  have np : ∀ a, R.S a → a ≠ p := fun a ha e => R.has H a s.inv ha (by rw [e]; exact h)
  refine ⟨R.loc H _ (fun a ha => upd_ne (np a ha)) s.inv, fun b x e => ?_, fun a ha => by rw [upd_ne (np a ha)]; exact s.off a ha⟩
  by_cases hb : b = p
  · rw [hb, upd_same] at e
    rw [hb, upd_same]
    exact e
  · rw [upd_ne hb] at e
    rw [upd_ne hb]
    exact s.same b x e
/-- a store into an object of the quiet part -/
theorem Sep.put (s : Sep R G H) (h : G p = some u) (o : HO) : Sep R (upd G p o) (upd H p o) := by
  have np : ∀ a, R.S a → a ≠ p := fun a ha e => by
    have z := s.off a ha
    rw [e, h] at z
    cases z
  refine ⟨R.loc H _ (fun a ha => upd_ne (np a ha)) s.inv, fun b x e => ?_, fun a ha => by rw [upd_ne (np a ha)]; exact s.off a ha⟩
  by_cases hb : b = p
  · rw [hb, upd_same] at e
    rw [hb, upd_same]
    exact e
  · rw [upd_ne hb] at e
    rw [upd_ne hb]
    exact s.same b x e
/-- behind something that only makes new things -/
theorem Sep.on (s : Sep R G H) (h : Same H H') : Sep R G H' := by
  refine ⟨R.loc H _ (fun a ha => ?_) s.inv, s.same.trans h, s.off⟩
  cases q : H a with
  | none => exact absurd q (R.has H a s.inv ha)
  | some o => exact h a o q
theorem Sep.grow (s : Sep R G H) (h : Same H H') (n : H p = none) (e : H' p = some o) : Sep R (upd G p o) H' := by
  have s' := s.on h
  have np : ∀ a, R.S a → a ≠ p := fun a ha z => R.has H a s.inv ha (by rw [z]; exact n)
  refine ⟨s'.inv, fun b x q => ?_, fun a ha => by rw [upd_ne (np a ha)]; exact s.off a ha⟩
  by_cases hb : b = p
  · rw [hb, upd_same] at q
    rw [hb, e]
    exact q
  · rw [upd_ne hb] at q
    exact s'.same b x q
end
/-- a source of draws that is a list of three ints: digits, a mix, a count that is at most N -/
def R3 (r : Addr) (N a b c : Int) (H : Hp) : Prop := H r = some (.lst [.int a, .int b, .int c]) ∧ 0 ≤ a ∧ 0 ≤ b ∧ b < 2 ^ 100 ∧ 0 ≤ c ∧ c ≤ N
def rg3 (r : Addr) (N : Int) : Rg where
  I := fun H => ∃ a b c, R3 r N a b c H
  S := fun x => x = r
  loc := fun H H' e ⟨a, b, c, h1, h2⟩ => ⟨a, b, c, (e r rfl).trans h1, h2⟩
  has := fun H x ⟨a, b, c, h1, _⟩ hx => by
    subst hx
    rw [h1]
    exact fun z => nomatch z
theorem Sep3.redo {r : Addr} {N N' : Int} {G H : Hp} {o : HO} (s : Sep (rg3 r N) G H) (h : ∃ a b c, R3 r N' a b c (upd H r o)) : Sep (rg3 r N') G (upd H r o) := by
  refine ⟨h, fun b u q => ?_, s.off⟩
  have nr : b ≠ r := fun z => by
    have := s.off b z
    rw [q] at this
    cases this
  rw [upd_ne nr]
  exact s.same b u q
theorem Sep3.mono {r : Addr} {N N' : Int} {G H : Hp} (s : Sep (rg3 r N) G H) (h : N ≤ N') : Sep (rg3 r N') G H := by
  obtain ⟨a, b, c, h1, h2, h3, h4, h5, h6⟩ := s.inv
  exact ⟨⟨a, b, c, h1, h2, h3, h4, h5, by omega⟩, s.same, s.off⟩
/-- a draw from it -/
def spDraw3 : Sp := fun vs H Q _ => ∃ (r : Addr) (m N : Int) (G : Hp), vs = [.ref r, .int m] ∧ Sep (rg3 r N) G H ∧ Keep (0 < m ∧ m < 2 ^ 240 ∧ N < 2 ^ 60) ∧ ∀ v H', 0 ≤ v → v < m → Sep (rg3 r (N + 1)) G H' → Q (.int v) H'
theorem seqL_of {K : PySem.W.Frag} {H : Hp} {a : Addr} {xs : List V} (h : H a = some (.lst xs)) : SqL K H a xs := .inl (.inl h)
/-- ints as values -/
abbrev iv (ns : List Int) : List V := ns.map V.int
theorem iv_app (ns : List Int) (x : Int) : iv ns ++ [V.int x] = iv (ns ++ [x]) := by simp
theorem iv_len (ns : List Int) : (iv ns).length = ns.length := List.length_map _
theorem iv_get {ns : List Int} {i : Nat} {x : V} (h : (iv ns)[i]? = some x) : ∃ n, ns[i]? = some n ∧ x = .int n := by
  rw [List.getElem?_map] at h
  cases e : ns[i]? with
  | none =>
    rw [e] at h
    cases h
  | some n =>
    rw [e] at h
    exact ⟨n, rfl, (Option.some.inj h).symm⟩

theorem atI_iv {ns : List Int} {i : Int} (h0 : 0 ≤ i) (h1 : i < ns.length) : ∃ n, atI (iv ns) i = some (.int n) := by
  obtain ⟨j, rfl⟩ := Int.eq_ofNat_of_zero_le h0
  have hj : j < ns.length := by omega
  exact ⟨ns[j], atI_nat (by rw [List.getElem?_map, List.getElem?_eq_getElem hj]; rfl)⟩
theorem seqIx0 {n : Nat} (h : 0 < n) : seqIndex? 0 n = some 0 := by
  unfold seqIndex?
  simp
  omega
theorem lit_len {n : Nat} (h : n ≤ 1000) : n ≤ sizeLine := Nat.le_of_lt (small1000 h)
/-- for i, x in enumerate(xs) -/
theorem for_enum {K : PySem.W.Frag} {a : Addr} {xs : List V} {g : TG} {tb : TS} {D : Ends} {σ : L2.St} {H : Hp} (Pv : Nat → L2.St → Hp → Prop) (h0 : Pv 0 σ H) (hq : ∀ i σ H, Pv i σ H → SqL K H a xs)
    (hs : ∀ (i : Nat) (x : V) (T : Addr) (σ : L2.St) (H : Hp), xs[i]? = some x → Pv i σ H → H T = none → g (.ref T) σ (upd H T (.tup [.int (i : Nat), x])) fun σ2 H2 => tb { D with nx := Pv (i + 1), ct := Pv (i + 1), bk := D.nx } σ2 H2) (hd : ∀ σ H, Pv xs.length σ H → D.nx σ H) :
    ∃ W : Nat → Nat → L2.St → Hp → Prop, (∃ m, W 0 m σ H) ∧ ∀ i m σ H, W i m σ H → ((Ite K a).stop i H ∧ D.nx σ H) ∨
      ((Ite K a).go i H ∧ ∃ N : L2.St → Hp → Prop, (∀ σ' H', N σ' H' → ∃ m', m' < m ∧ W (i + 1) m' σ' H') ∧ ∀ v H', (Ite K a).yld i H v H' → g v σ H' fun σ2 H2 => tb { D with nx := N, ct := N, bk := D.nx } σ2 H2) := by
  refine ⟨fun i m σ H => m + i = xs.length ∧ Pv i σ H, ⟨xs.length, rfl, h0⟩, fun i m σ H hW => ?_⟩
  obtain ⟨em, p⟩ := hW
  have q := hq i σ H p
  by_cases lt : i < xs.length
  · have ex : xs[i]? = some xs[i] := List.getElem?_eq_getElem lt
    refine .inr ⟨⟨xs, _, q, ex⟩, Pv (i + 1), fun σ' H' p' => ⟨m - 1, by omega, by omega, p'⟩, fun v H' hy => ?_⟩
    obtain ⟨T, x, rfl, nT, rfl, f⟩ := hy
    exact hs i x T σ H (f xs q) p nT
  · have ei : i = xs.length := by omega
    subst ei
    exact .inl ⟨⟨xs, q, Nat.le_refl _⟩, hd σ H p⟩

/-! ## repr of data, where no repr is under way -/
@[irreducible] def rReprD (K : PySem.W.Frag) : List V → Hp → VK → Prop := fun xs H Q => ∃ (a : Addr) (d : PyData), xs = [.ref a] ∧ Dp K H (.ref a) d ∧ d.showable = true ∧ d.hasDict = false ∧ d.depth ≤ 30 ∧ d.shown.length ≤ sizeLine ∧ Q (.str d.shown) H
theorem call_reprDK {X : Cx} {K : PySem.W.Frag} (hG : X.A.guards = some []) (hu : X.A.units + 64 < cLine) (h : X.K = K := by rfl) : CallR X (.builtin "repr") (rReprD K) := by
  subst h
  intro pins s σ H xs us Q I r h
  unfold rReprD at h
  obtain ⟨a, d, rfl, hd, hs, hn, hdp, hz, q⟩ := h
  obtain ⟨v, rfl, rv⟩ := vals1 r
  cases rv
  obtain ⟨as, rd⟩ := Dp.reads I d _ _ hd rfl
  refine repr_of_reads' rd hs (PyData.noDict_hsm hn) hG (by omega) (fun b o e => e) (fun h' t tk hk => ?_) hz
  exact ⟨.str d.shown, H, I.kept hk, ⟨_, rfl⟩, q⟩
/-! ## lists of ints as data -/
def dI (ns : List Int) : PyData := .list (ns.map .int)
theorem dpall_iv {K : PySem.W.Frag} {H : Hp} : ∀ ns : List Int, DpAll K H (iv ns) (ns.map .int)
  | [] => .nil
  | n :: r => .cons (.int n) (dpall_iv r)
theorem dp_iv {K : PySem.W.Frag} {H : Hp} {a : Addr} {ns : List Int} (h : SqL K H a (iv ns)) : Dp K H (.ref a) (dI ns) := .lst h (dpall_iv ns)
theorem can_ints : ∀ ns : List Int, PyData.canLayAll0 (ns.map .int) = true
  | [] => by simp [PyData.canLayAll0]
  | n :: r => by simp [PyData.canLayAll0, PyData.canLay0, can_ints r]
theorem dep_ints : ∀ ns : List Int, PyData.depthAll (ns.map .int) = 0
  | [] => by simp [PyData.depthAll]
  | n :: r => by simp [PyData.depthAll, PyData.depth, dep_ints r]
theorem eqv_ints : ∀ xs ys : List Int, PyData.eqvAll (xs.map .int) (ys.map .int) = decide (xs = ys)
  | [], [] => by simp [PyData.eqvAll]
  | [], _ :: _ => by simp [PyData.eqvAll]
  | _ :: _, [] => by simp [PyData.eqvAll]
  | x :: r, y :: t => by
    have ih := eqv_ints r t
    simp only [List.map_cons, PyData.eqvAll, PyData.eqv, ih, List.cons.injEq]
    by_cases e : x = y <;> by_cases e2 : r = t <;> simp [e, e2]
theorem shaped_dI (ns : List Int) : SeqAt.shaped (dI ns) = true := by
  unfold SeqAt.shaped dI
  simp only [PyData.canLay0, can_ints, PyData.depth, dep_ints]
  decide
theorem eqv_dI (xs ys : List Int) : PyData.eqv (dI xs) (dI ys) = decide (xs = ys) := by
  unfold dI
  simp only [PyData.eqv, eqv_ints]
theorem shown_ints_len : ∀ ns : List Int, (∀ n ∈ ns, n.natAbs.log2 < 1920) → ((PyData.shownAll (ns.map .int)).map (·.length)).sum ≤ 2000 * ns.length ∧ (PyData.shownAll (ns.map .int)).length = ns.length
  | [], _ => by simp [PyData.shownAll]
  | n :: r, h => by
    obtain ⟨h1, h2⟩ := shown_ints_len r fun m hm => h m (List.mem_cons_of_mem _ hm)
    have e := int_text_length_le (k := 1920) (by decide) (h n (List.mem_cons_self ..))
    have e2 : (PyData.shown (.int n)).length ≤ 2000 := by
      show (Str.ofString (toString n)).length ≤ 2000
      rw [PySem.ofString_length]
      omega
    simp only [List.map_cons, PyData.shownAll, List.sum_cons, List.length_cons]
    omega
theorem show_ints : ∀ ns : List Int, (∀ n ∈ ns, n.natAbs.log2 < 1920) → PyData.showableAll (ns.map .int) = true
  | [], _ => by simp [PyData.showableAll]
  | n :: r, h => by simp [PyData.showableAll, PyData.showable, h n (List.mem_cons_self ..), show_ints r fun m hm => h m (List.mem_cons_of_mem _ hm)]
theorem nod_ints : ∀ ns : List Int, PyData.hasDictAll (ns.map .int) = false
  | [] => by simp [PyData.hasDictAll]
  | n :: r => by simp [PyData.hasDictAll, PyData.hasDict, nod_ints r]
theorem r_eqI {K : PySem.W.Frag} {H : Hp} {a b : Addr} {xs ys : List Int} {Q : VK} (h1 : SqL K H a (iv xs)) (h2 : SqL K H b (iv ys)) (q : Q (.bl (decide (xs = ys))) H) : rEqQ K (.ref a) (.ref b) H Q :=
  rEqQ_of ⟨dI xs, dI ys, dp_iv h1, dp_iv h2, shaped_dI xs, shaped_dI ys, by rw [eqv_dI]; exact q⟩
theorem r_neI {K : PySem.W.Frag} {H : Hp} {a b : Addr} {xs ys : List Int} {Q : VK} (h1 : SqL K H a (iv xs)) (h2 : SqL K H b (iv ys)) (q : Q (.bl (!decide (xs = ys))) H) : rNeQ K (.ref a) (.ref b) H Q :=
  rNeQ_of ⟨dI xs, dI ys, dp_iv h1, dp_iv h2, shaped_dI xs, shaped_dI ys, by rw [eqv_dI]; exact q⟩
theorem r_repr {K : PySem.W.Frag} {H : Hp} {a : Addr} {ns : List Int} {Q : VK} (h1 : SqL K H a (iv ns)) (hl : ns.length ≤ 5000) (hz : ∀ n ∈ ns, n.natAbs.log2 < 1920) (q : Q (.str (dI ns).shown) H) : rReprD K [.ref a] H Q := by
  unfold rReprD
  refine ⟨a, dI ns, rfl, dp_iv h1, ?_, ?_, ?_, ?_, q⟩
  · simp only [dI, PyData.showable]
    exact show_ints ns hz
  · simp only [dI, PyData.hasDict]
    exact nod_ints ns
  · simp only [dI, PyData.depth, dep_ints]
    decide
  · obtain ⟨e1, e2⟩ := shown_ints_len ns hz
    have e3 := listText_len_le (PyData.shownAll (ns.map .int))
    simp only [dI, PyData.shown]
    rw [sizeLine_eq]
    omega
mutual
theorem dp_same {K : PySem.W.Frag} {H H' : Hp} (s : Same H H') : ∀ (d : PyData) (x : V), Dp K H x d → Dp K H' x d
  | .none, _, h => by cases h; exact .non
  | .bool _, _, h => by cases h; exact .bl _
  | .int _, _, h => by cases h; exact .int _
  | .str _, _, h => by cases h; exact .str _
  | .list ds, _, h => by
    cases h with
    | lst a b => exact .lst (s.seq a) (dpall_same s ds _ b)
  | .tuple ds, _, h => by
    cases h with
    | tup a b =>
      refine .tup ?_ (dpall_same s ds _ b)
      rcases a with (a | ⟨o, a⟩) | a
      · exact .inl (.inl (s _ _ a))
      · exact .inl (.inr ⟨o, s _ _ a⟩)
      · exact .inr a
  | .dict _, _, h => nomatch h
theorem dpall_same {K : PySem.W.Frag} {H H' : Hp} (s : Same H H') : ∀ (ds : List PyData) (xs : List V), DpAll K H xs ds → DpAll K H' xs ds
  | [], _, h => by cases h; exact .nil
  | d :: ds, _, h => by
    cases h with
    | cons a b => exact .cons (dp_same s d _ a) (dpall_same s ds _ b)
end
theorem dpall_len {K : PySem.W.Frag} {H : Hp} : ∀ (ds : List PyData) (xs : List V), DpAll K H xs ds → xs.length = ds.length
  | [], _, h => by cases h; rfl
  | d :: ds, _, h => by
    cases h with
    | cons a b => rw [List.length_cons, List.length_cons, dpall_len ds _ b]
theorem dpall_get {K : PySem.W.Frag} {H : Hp} : ∀ (ds : List PyData) (xs : List V), DpAll K H xs ds → ∀ (i : Nat) (d : PyData), ds[i]? = some d → ∃ x, xs[i]? = some x ∧ Dp K H x d
  | [], _, _, _, _, e => by simp at e
  | d :: ds, _, h, i, d', e => by
    cases h with
    | cons a b =>
      cases i with
      | zero =>
        have z : d = d' := by simpa using e
        subst z
        exact ⟨_, rfl, a⟩
      | succ i => exact dpall_get ds _ b i d' (by simpa using e)
theorem tyx_lst {K : PySem.W.Frag} {H : Hp} {a : Addr} {xs : List V} (h : SqL K H a xs) : TyX K H (.ref a) (.type "list") := by
  rcases h with (h | ⟨o, h⟩) | ⟨o, its, n, h1, h2, _⟩
  · exact .base (.lst h)
  · exact .base (.frz h)
  · exact .kList h1 h2
theorem tyx_tup {K : PySem.W.Frag} {H : Hp} {a : Addr} {xs : List V} (h : SqT K H a xs) : TyX K H (.ref a) (.type "tuple") := by
  rcases h with (h | ⟨o, h⟩) | ⟨o, its, n, h1, h2, _⟩
  · exact .base (.tup h)
  · exact .fTuple h
  · exact .kTuple h1 h2
theorem kit_no {K : PySem.W.Frag} : PySem.W.kitOne K (.type "int") (.type "bool") = some false ∧ PySem.W.kitOne K (.type "str") (.type "bool") = some false ∧ PySem.W.kitOne K (.type "list") (.type "bool") = some false ∧
    PySem.W.kitOne K (.type "bool") (.type "int") = some true ∧ PySem.W.kitOne K (.type "int") (.type "int") = some true := ⟨rfl, rfl, rfl, rfl, rfl⟩
/-! ## tests -/
theorem ifD {p A B : Prop} [Decidable p] (h1 : p → A) (h2 : ¬ p → B) : if decide p = true then A else B := by
  by_cases h : p
  · rw [decide_eq_true h]; exact iteT (h1 h)
  · rw [decide_eq_false h]; exact iteF (h2 h)
theorem ifN {p A B : Prop} [Decidable p] (h1 : ¬ p → A) (h2 : p → B) : if (!decide p) = true then A else B := by
  by_cases h : p
  · rw [decide_eq_true h]; exact iteF (h2 h)
  · rw [decide_eq_false h]; exact iteT (h1 h)
theorem ifI {i j : Int} {A B : Prop} (h1 : i = j → A) (h2 : i ≠ j → B) : if decide (V.int i = V.int j) = true then A else B :=
  ifD (fun e => h1 (V.int.inj e)) fun e => h2 fun z => e (congrArg V.int z)
theorem ifIN {i j : Int} {A B : Prop} (h1 : i ≠ j → A) (h2 : i = j → B) : if (!decide (V.int i = V.int j)) = true then A else B :=
  ifN (fun e => h1 fun z => e (congrArg V.int z)) fun e => h2 (V.int.inj e)
/-! ## defs that may ask for repr: called where no repr is under way -/
structure FnG (P : Program) (w : World) (K : PySem.W.Frag) (mg : Str → Option Value) (base : Heap) (CX : CXT) (k : Nat) (f : Addr) (fd : FuncData) (ps : List Str) (sp : Sp) : Prop where
  len : ∀ vs H Q E, sp vs H Q E → vs.length = ps.length
  run : ∀ (A : Around) (outer : List Env) (s : Shared) (H : Hp) (args : Args) (us : List Value) (vs : List V) (Q : VK) (E : XK), Room k A → A.guards = some [] →
    Env0 P w K mg base A outer s H → BindsTo s fd args (ps.zip us) → Vals vs us → sp vs H Q E → codeAny (model P w) A (.call (.ref f) args) (CR CX outer P w H s Q E) s
section
variable {P : Program} {w : World} {K : PySem.W.Frag} {mg : Str → Option Value} {base : Heap} {CX : CXT}
theorem FnG.of {k : Nat} {f : Addr} {fd : FuncData} {ps : List Str} {sp : Sp} (F : FnOk P w K mg base CX k f fd ps sp) : FnG P w K mg base CX k f fd ps sp :=
  ⟨F.len, fun A outer s H args us vs Q E hr _ => F.run A outer s H args us vs Q E hr⟩
theorem fnG_of {k : Nat} {f : Addr} {nm qual : Str} {pms : Arguments} {body : List Stmt} {sc : Scope} {dV kV dc pm cdv ct oc : Value} {an od : Option Addr} {sl : Array (Option Value)} {N ps : List Str} {sp : Sp}
    (lk : K.lookup f = some ⟨oc, od, .func (PySem.W.fnOf nm qual pms body sc dV kV dc pm an cdv ct), sl⟩) (hcd : PySem.W.codeIn K cdv qual = true) (S : FnScope N ps sc) (len : ∀ vs H Q E, sp vs H Q E → vs.length = ps.length)
    (hb : ∀ (A : Around) (outer : List Env) (s : Shared) (H : Hp) (vs : List V) (Q : VK) (E : XK), A.guards = some [] → Room k (A.deeper (envOfC qual sc s.heap.objs.size f cdv)) → sp vs H Q E →
      ∃ t, PSs (cxOf CX P w K mg base N qual sc f cdv A outer s H E) body t ∧ t { nx := fun _ H' => Q .non H', rt := Q } (start N vs) H) :
    FnG P w K mg base CX (k + 1) f (PySem.W.fnOf nm qual pms body sc dV kV dc pm an cdv ct) ps sp := by
  refine ⟨len, ?_⟩
  intro A out s H args us vs Q E room hG env bnd rel pre
  have ln := len _ _ _ _ pre
  have kin : K.In s.heap := env.mod.kin.keeps fun b o e => (env.bs b o e).1
  have nl : s.heap.NoLimit := env.mod.nolimit.keeps fun b o e => (env.bs b o e).1
  have kinds : ∀ y ∈ ps.zip us, sc.names.lookup y.1 = some .local ∨ (sc.names.lookup y.1 = some .cell ∧ ((cellsFrom (s.heap.objs.size + 1) sc.names []).lookup y.1).isSome = true) := by
    rintro ⟨x, v⟩ hy
    rcases S.par x (List.of_mem_zip hy).1 with z | z
    · exact .inl z
    · exact .inr ⟨z, PySem.W.cellsFrom_some _ _ _ (.inl z)⟩
  refine codeAny_call_function room.depth (kin _ _ lk) rfl S.co S.gen rfl (PySem.W.codeRec_of kin hcd) (bnd _ _ _ _ ?_)
  refine wpAny_newFunctionEnv_cells S.kind kinds fun en hen s1 x1 => ?_
  cases hen
  refine ⟨nl.keeps x1.toInCall.keep, codeAny_func ?_⟩
  obtain ⟨t, ht, hq⟩ := hb A out s H vs Q E hG (room.deeper _) pre
  have J0 : Inv (cxOf CX P w K mg base N qual sc f cdv A out s H E) [] (start N vs) H s1 := inv_start S room.hd env ln rel x1
  refine wpAny_mono (ht.run [] s1 (start N vs) H _ J0 hq) (fun fl s2 hs => ?_) fun e s2 hs => hs
  cases fl with
  | ret u =>
    obtain ⟨v, τ, H2, J, rv, q⟩ := hs
    exact ⟨v, H2, J.os, J.bare, J.base, J.hok, rv, q⟩
  | next =>
    obtain ⟨τ, H2, J, q⟩ := hs
    exact ⟨V.non, H2, J.os, J.bare, J.base, J.hok, rfl, q⟩
  | brk =>
    obtain ⟨_, _, _, q⟩ := hs
    cases q
  | cont =>
    obtain ⟨_, _, _, q⟩ := hs
    cases q
end
/-! ## a def of the text: where it stands; its promise -/
structure DefAt (K : PySem.W.Frag) (mg : Str → Option Value) (x : Str) (st : Stmt) (ps : List Str) : Prop where
  ex : ∃ (f : Addr) (fd : FuncData), Fun K x x st f fd ∧ mg x = some (.ref f) ∧ Binds K fd ps []
/-- a def that may be called by its name; dvs: the defaults that fill up -/
structure Cal (P : Program) (w : World) (K : PySem.W.Frag) (mg : Str → Option Value) (base : Heap) (k : Nat) (x : Str) (sp : Sp) (dvs : List V) : Prop where
  ex : ∃ (f : Addr) (fd : FuncData) (ps : List Str) (ds : List Value), FnOk P w K mg base CX0 k f fd ps sp ∧ mg x = some (.ref f) ∧ PySem.W.keepIn K (.ref f) = true ∧ L2.Binds K fd ps ds ∧ Vals dvs ds
/-- a def that may be called by its name; it may ask for repr -/
structure CalG (P : Program) (w : World) (K : PySem.W.Frag) (mg : Str → Option Value) (base : Heap) (k : Nat) (x : Str) (sp : Sp) : Prop where
  ex : ∃ (f : Addr) (fd : FuncData) (ps : List Str), FnG P w K mg base CX0 k f fd ps sp ∧ mg x = some (.ref f) ∧ PySem.W.keepIn K (.ref f) = true ∧ Binds K fd ps []
section
variable {P : Program} {w : World} {K : PySem.W.Frag} {mg : Str → Option Value} {base : Heap}
theorem DefAt.cal {x : Str} {st : Stmt} {ps N : List Str} {k : Nat} {sp : Sp} (D : DefAt K mg x st ps) (S : FnScope N ps (defScope st)) (len : ∀ vs H Q E, sp vs H Q E → vs.length = ps.length)
    (hb : ∀ (f : Addr) (cdv : Value) (A : Around) (outer : List Env) (s : Shared) (H : Hp) (vs : List V) (Q : VK) (E : XK), Room k (A.deeper (envOfC x (defScope st) s.heap.objs.size f cdv)) → sp vs H Q E →
      ∃ t, PSs (cxOf CX0 P w K mg base N x (defScope st) f cdv A outer s H E).nox (defBody st) t ∧ t { nx := fun _ H' => Q .non H', rt := Q } (start N vs) H) : Cal P w K mg base (k + 1) x sp [] := by
  obtain ⟨f, fd, F, hm, b⟩ := D.ex
  exact ⟨f, fd, ps, [], F.ok S len fun cdv A outer s H vs Q E => hb f cdv A outer s H vs Q E, hm, F.kp, b, .nil⟩
theorem DefAt.calG {x : Str} {st : Stmt} {ps N : List Str} {k : Nat} {sp : Sp} (D : DefAt K mg x st ps) (S : FnScope N ps (defScope st)) (len : ∀ vs H Q E, sp vs H Q E → vs.length = ps.length)
    (hb : ∀ (f : Addr) (cdv : Value) (A : Around) (outer : List Env) (s : Shared) (H : Hp) (vs : List V) (Q : VK) (E : XK), A.guards = some [] → Room k (A.deeper (envOfC x (defScope st) s.heap.objs.size f cdv)) → sp vs H Q E →
      ∃ t, PSs (cxOf CX0 P w K mg base N x (defScope st) f cdv A outer s H E).nox (defBody st) t ∧ t { nx := fun _ H' => Q .non H', rt := Q } (start N vs) H) : CalG P w K mg base (k + 1) x sp := by
  obtain ⟨f, fd, ⟨⟨oc, od, kV, doc, pm, an, cdv, ct, osl, rfl, lk, hcd⟩, kp⟩, hm, b⟩ := D.ex
  refine ⟨f, _, ps, fnG_of lk hcd S len fun A outer s H vs Q E hG hr hsp => ?_, hm, kp, b⟩
  obtain ⟨t, h, q⟩ := hb f cdv A outer s H vs Q E hG hr hsp
  exact ⟨t, h.nox, q⟩
theorem okG {x qual : Str} {st : Stmt} {f : Addr} {fd : FuncData} {N ps : List Str} {k : Nat} {sp : Sp} (F : Fun K x qual st f fd) (S : FnScope N ps (defScope st)) (len : ∀ vs H Q E, sp vs H Q E → vs.length = ps.length)
    (hb : ∀ (cdv : Value) (A : Around) (outer : List Env) (s : Shared) (H : Hp) (vs : List V) (Q : VK) (E : XK), A.guards = some [] → Room k (A.deeper (envOfC qual (defScope st) s.heap.objs.size f cdv)) → sp vs H Q E →
      ∃ t, PSs (cxOf CX0 P w K mg base N qual (defScope st) f cdv A outer s H E).nox (defBody st) t ∧ t { nx := fun _ H' => Q .non H', rt := Q } (start N vs) H) : FnG P w K mg base CX0 (k + 1) f fd ps sp := by
  obtain ⟨⟨oc, od, kV, doc, pm, an, cdv, ct, osl, rfl, lk, hcd⟩, kp⟩ := F
  refine fnG_of lk hcd S len fun A outer s H vs Q E hG hr hsp => ?_
  obtain ⟨t, h, q⟩ := hb cdv A outer s H vs Q E hG hr hsp
  exact ⟨t, h.nox, q⟩
theorem calG_of {x : Str} {k : Nat} {sp : Sp} (c : Cal P w K mg base k x sp []) : CalG P w K mg base k x sp := by
  obtain ⟨f, fd, ps, ds, F, hm, kp, b, d⟩ := c.ex
  cases d
  exact ⟨f, fd, ps, FnG.of F, hm, kp, b⟩
theorem Cal.imp {x : Str} {k j : Nat} {sp sp' : Sp} {dvs : List V} (c : Cal P w K mg base k x sp dvs) (hk : k ≤ j) (h : ∀ vs H Q E, sp' vs H Q E → sp vs H Q E) : Cal P w K mg base j x sp' dvs := by
  obtain ⟨f, fd, ps, ds, F, hm, kp, b, d⟩ := c.ex
  exact ⟨f, fd, ps, ds, (F.mono hk).imp h, hm, kp, b, d⟩
end
section
variable {X : Cx} {k j : Nat} {x : Str} {sp : Sp} {p pos : Pos} {e : Expr} {es : List Expr} {t : TA}
theorem pe_c {dvs : List V} (c : Cal X.prog X.w X.K X.mg X.base k x sp dvs) (hr : Room j X.A) (hk : k ≤ j) (hg : Gl X x) (ha : PA X (e :: es) t)
    (hdb : (x == ("__debug__" : Str)) = false := by decide) (he : starEach (e :: es) X.env = (false, eval e X.env) :: starEach es X.env := by rfl) (hpl : (backTo pos (starEach es X.env)).any (·.1) = false := by rfl) :
    PE X (.Call (.Name x p) (e :: es) [] pos) (tCall sp dvs E0 t) := by
  obtain ⟨f, fd, ps, ds, F, hm, kp, bd, vd⟩ := c.ex
  exact L2.pe_call F (hr.mono hk) hg hm kp bd vd pass0 ha hdb he hpl
/-- a call of a def that may ask for repr -/
theorem pe_cG (c : CalG X.prog X.w X.K X.mg X.base k x sp) (hG : X.A.guards = some []) (hr : Room j X.A) (hk : k ≤ j) (hg : Gl X x) (ha : PA X (e :: es) t)
    (hdb : (x == ("__debug__" : Str)) = false := by decide) (he : starEach (e :: es) X.env = (false, eval e X.env) :: starEach es X.env := by rfl) (hpl : (backTo pos (starEach es X.env)).any (·.1) = false := by rfl) :
    PE X (.Call (.Name x p) (e :: es) [] pos) (tCall sp [] E0 t) := by
  obtain ⟨f, fd, ps, F, hm, kp, b⟩ := c.ex
  refine ⟨fun pins s σ H Q I h => wpAny_Call_Name_kw (ld_glob I hg hm ?_ hdb)⟩
  refine PySem.W.callWith_K (h₀ := X.base) I.ok.mod.kin kp (thn (ha.run pos pins s σ H _ I h) fun us s1 hx => ?_) he hpl
  obtain ⟨vs, H1, I1, r, q⟩ := hx
  rw [List.append_nil] at q
  have ln : us.length = ps.length := by rw [← r.length]; exact F.len _ _ _ _ q
  have bb : BindsTo s1 fd ⟨us, []⟩ (ps.zip us) := by
    have z := b s1 us I1.kIn (by rw [List.append_nil]; exact ln)
    rw [List.append_nil] at z
    exact z
  refine ⟨I1.kIn, wpAny_call (codeAny_mono (F.run X.A X.stack s1 H1 ⟨us, []⟩ us vs Q E0 (hr.mono hk) hG I1.env0 bb r q) fun r s' hq => ?_)⟩
  cases r with
  | error e => exact False.elim hq
  | ok fl =>
    cases fl with
    | ret u => exact I1.after hq
    | next => exact False.elim hq
    | brk => exact False.elim hq
    | cont => exact False.elim hq
end
/-! ## methods, properties, new objects -/
structure Met (P : Program) (w : World) (K : PySem.W.Frag) (mg : Str → Option Value) (base : Heap) (k : Nat) (C : Addr) (m : Str) (sp : Sp) : Prop where
  ex : ∃ (f : Addr) (fd : FuncData) (ps : List Str), Cls K C ∧ Meth K C m f ∧ FnOk P w K mg base CX0 k f fd ps sp ∧ L2.Binds K fd ps []
structure Prp (P : Program) (w : World) (K : PySem.W.Frag) (mg : Str → Option Value) (base : Heap) (k : Nat) (C : Addr) (m : Str) (sp : Sp) : Prop where
  ex : ∃ (f p : Addr) (fd : FuncData) (ps : List Str), Cls K C ∧ PropOf K C m p f ∧ FnOk P w K mg base CX0 k f fd ps sp ∧ L2.Binds K fd ps []
structure Mak (P : Program) (w : World) (K : PySem.W.Frag) (mg : Str → Option Value) (base : Heap) (k : Nat) (x : Str) (C : Addr) (sp : Sp) : Prop where
  ex : ∃ (f : Addr) (fd : FuncData) (ps : List Str), Mk K C f ∧ FnOk P w K mg base CX0 k f fd ps sp ∧ mg x = some (.ref C) ∧ L2.Binds K fd ps []
section
variable {X : Cx} {k j : Nat} {C : Addr} {x m : Str} {sp : Sp} {p pos apos : Pos} {e o : Expr} {es : List Expr} {ta : TE} {t : TA}
theorem pe_m {pl : Sem Bool} (c : Met X.prog X.w X.K X.mg X.base k C m sp) (hr : Room j X.A) (hk : k ≤ j) (he : PE X o ta) (ha : PA X (e :: es) t)
    (ht : eval (.Call (.Attribute o m apos) (e :: es) [] pos) X.env = (do
      let ov ← eval o X.env
      standAt apos.atName
      let (f, first) ← holding [ov] (getMethod ov m pl)
      callWith pos f first (backTo pos (starEach (e :: es) X.env)) (backToKw pos (keywordEach [] X.env))) := by rfl)
    (hst : starEach (e :: es) X.env = (false, eval e X.env) :: starEach es X.env := by rfl) (hpl : (backTo pos (starEach es X.env)).any (·.1) = false := by rfl) : PE X (.Call (.Attribute o m apos) (e :: es) [] pos) (tMeth C m sp [] E0 ta t) := by
  obtain ⟨f, fd, ps, c1, c2, F, b⟩ := c.ex
  exact L2.pe_meth (pl := pl) he c1 c2 F (hr.mono hk) b .nil pass0 ha hst hpl ht
theorem pe_mk (c : Mak X.prog X.w X.K X.mg X.base k x C sp) (hr : Room j X.A) (hk : k + 1 ≤ j) (hg : Gl X x) (ha : PA X (e :: es) t)
    (hdb : (x == ("__debug__" : Str)) = false := by decide) (he : starEach (e :: es) X.env = (false, eval e X.env) :: starEach es X.env := by rfl) (hpl : (backTo pos (starEach es X.env)).any (·.1) = false := by rfl) :
    PE X (.Call (.Name x p) (e :: es) [] pos) (tMake C sp [] E0 t) := by
  obtain ⟨f, fd, ps, M, F, hm, b⟩ := c.ex
  exact L2.pe_make M F (hr.mono hk) hg hm b .nil pass0 ha hdb he hpl
theorem pe_p (c : Prp X.prog X.w X.K X.mg X.base k C m sp) (hr : Room j X.A) (hk : k + 1 ≤ j) (he : PE X e ta) (hab : attributeBase e m X.env (eval e X.env) = eval e X.env := by rfl) : PE X (.Attribute e m pos) (tProp C sp [] E0 ta) := by
  obtain ⟨f, q, fd, ps, c1, c2, F, b⟩ := c.ex
  exact L2.pe_prop he c1 c2 F (hr.mono hk) b .nil pass0 hab
end
section
variable {X : Cx} {K : PySem.W.Frag} {C : Addr} {k j : Nat} {m f : Str} {sp : Sp} {ta tv : TE} {o value : Expr} {pos pos' apos tpos : Pos}
theorem pe_m0 {pl : Sem Bool} (c : Met X.prog X.w X.K X.mg X.base k C m sp) (hr : Room j X.A) (hk : k ≤ j) (he : PE X o ta)
    (ht : eval (.Call (.Attribute o m apos) [] [] pos) X.env = (do
      let ov ← eval o X.env
      standAt apos.atName
      let (f, first) ← holding [ov] (getMethod ov m pl)
      callWith pos f first (backTo pos (starEach [] X.env)) (backToKw pos (keywordEach [] X.env))) := by rfl) : PE X (.Call (.Attribute o m apos) [] [] pos) (tMeth C m sp [] E0 ta tNil) := by
  obtain ⟨f, fd, ps, c1, c2, F, b⟩ := c.ex
  exact L2.pe_meth0 (pl := pl) he c1 c2 F (hr.mono hk) b .nil pass0 ht
theorem ps_fldK (ha : PE X o ta) (hv : PE X value tv) (hs : swapsWith value (some (.Attribute o f pos')) pos.line X.env = pure false) (h : X.K = K := by rfl) : PS X (.Assign [.Attribute o f pos'] value pos) (sFld K ta tv f) := by
  subst h
  exact ps_fld ha hv hs
theorem ps_fldaugK {op : Operator} {rd : V → V → Hp → VK → Prop} (ha : PE X o ta) (hv : PE X value tv) (hop : InOp X op rd) (h : X.K = K := by rfl) : PS X (.AugAssign (.Attribute o f tpos) op value pos) (sFldAug K ta tv rd f) := by
  subst h
  exact ps_fldaug ha hv hop
end
/-- a method of the text -/
structure MetAt (K : PySem.W.Frag) (C : Addr) (m qual : Str) (st : Stmt) (ps : List Str) : Prop where
  ex : ∃ (f : Addr) (fd : FuncData), Fun K m qual st f fd ∧ Meth K C m f ∧ L2.Binds K fd ps []
section
variable {P : Program} {w : World} {K : PySem.W.Frag} {mg : Str → Option Value} {base : Heap} {C : Addr} {m x qual : Str} {st : Stmt} {ps N : List Str} {k : Nat} {sp : Sp}
theorem MetAt.met (D : MetAt K C m qual st ps) (cl : Cls K C) (S : FnScope N ps (defScope st)) (len : ∀ vs H Q E, sp vs H Q E → vs.length = ps.length)
    (hb : ∀ (f : Addr) (cdv : Value) (A : Around) (outer : List Env) (s : Shared) (H : Hp) (vs : List V) (Q : VK) (E : XK), Room k (A.deeper (envOfC qual (defScope st) s.heap.objs.size f cdv)) → sp vs H Q E →
      ∃ t, PSs (cxOf CX0 P w K mg base N qual (defScope st) f cdv A outer s H E).nox (defBody st) t ∧ t { nx := fun _ H' => Q .non H', rt := Q } (start N vs) H) : Met P w K mg base (k + 1) C m sp := by
  obtain ⟨f, fd, F, hm, b⟩ := D.ex
  exact ⟨f, fd, ps, cl, hm, F.ok S len fun cdv A outer s H vs Q E => hb f cdv A outer s H vs Q E, b⟩
end
/-- a class's __init__ of the text -/
structure IniAt (K : PySem.W.Frag) (mg : Str → Option Value) (C : Addr) (x qual : Str) (st : Stmt) (ps : List Str) : Prop where
  ex : ∃ (f : Addr) (fd : FuncData), Fun K "__init__" qual st f fd ∧ Mk K C f ∧ mg x = some (.ref C) ∧ L2.Binds K fd ps []
/-- a property of the text -/
structure PrpAt (K : PySem.W.Frag) (C : Addr) (m qual : Str) (st : Stmt) (ps : List Str) : Prop where
  ex : ∃ (f p : Addr) (fd : FuncData), Fun K m qual st f fd ∧ PropOf K C m p f ∧ L2.Binds K fd ps []
section
variable {P : Program} {w : World} {K : PySem.W.Frag} {mg : Str → Option Value} {base : Heap} {C : Addr} {m x qual : Str} {st : Stmt} {ps N : List Str} {k : Nat} {sp : Sp}
theorem IniAt.mak (D : IniAt K mg C x qual st ps) (S : FnScope N ps (defScope st)) (len : ∀ vs H Q E, sp vs H Q E → vs.length = ps.length)
    (hb : ∀ (f : Addr) (cdv : Value) (A : Around) (outer : List Env) (s : Shared) (H : Hp) (vs : List V) (Q : VK) (E : XK), Room k (A.deeper (envOfC qual (defScope st) s.heap.objs.size f cdv)) → sp vs H Q E →
      ∃ t, PSs (cxOf CX0 P w K mg base N qual (defScope st) f cdv A outer s H E).nox (defBody st) t ∧ t { nx := fun _ H' => Q .non H', rt := Q } (start N vs) H) : Mak P w K mg base (k + 1) x C sp := by
  obtain ⟨f, fd, F, hm, hg, b⟩ := D.ex
  exact ⟨f, fd, ps, hm, F.ok S len fun cdv A outer s H vs Q E => hb f cdv A outer s H vs Q E, hg, b⟩
theorem PrpAt.prp (D : PrpAt K C m qual st ps) (cl : Cls K C) (S : FnScope N ps (defScope st)) (len : ∀ vs H Q E, sp vs H Q E → vs.length = ps.length)
    (hb : ∀ (f : Addr) (cdv : Value) (A : Around) (outer : List Env) (s : Shared) (H : Hp) (vs : List V) (Q : VK) (E : XK), Room k (A.deeper (envOfC qual (defScope st) s.heap.objs.size f cdv)) → sp vs H Q E →
      ∃ t, PSs (cxOf CX0 P w K mg base N qual (defScope st) f cdv A outer s H E).nox (defBody st) t ∧ t { nx := fun _ H' => Q .non H', rt := Q } (start N vs) H) : Prp P w K mg base (k + 1) C m sp := by
  obtain ⟨f, p, fd, F, hm, b⟩ := D.ex
  exact ⟨f, p, fd, ps, cl, hm, F.ok S len fun cdv A outer s H vs Q E => hb f cdv A outer s H vs Q E, b⟩
end
/-- all but o stands -/
def But (o : Addr) (H H' : Hp) : Prop := ∀ b u, b ≠ o → H b = some u → H' b = some u
theorem But.refl (o : Addr) (H : Hp) : But o H H := fun _ _ _ h => h
theorem But.trans {o : Addr} {H H1 H2 : Hp} (a : But o H H1) (b : But o H1 H2) : But o H H2 := fun c u n h => b c u n (a c u n h)
theorem But.of {o : Addr} {H H1 : Hp} (s : Same H H1) : But o H H1 := fun b u _ h => s b u h
theorem But.put {o : Addr} {H : Hp} {u : HO} : But o H (upd H o u) := fun b x n h => by
  rw [upd_ne n]
  exact h
theorem But.seq {K : PySem.W.Frag} {o a : Addr} {H H' : Hp} {xs : List V} (b : But o H H') (n : a ≠ o) (h : H a = some (.lst xs)) : SqL K H' a xs := seqL_of (b a _ n h)
theorem Sep.but {R : Rg} {G H H' : Hp} {o : Addr} {u u' : HO} (s : Sep R G H) (h : G o = some u) (b : But o H H') (e : H' o = some u') : Sep R (upd G o u') H' := by
  have no : ∀ a, R.S a → a ≠ o := fun a ha z => by
    have q := s.off a ha
    rw [z, h] at q
    cases q
  refine ⟨R.loc H _ (fun a ha => ?_) s.inv, fun c x q => ?_, fun a ha => by rw [upd_ne (no a ha)]; exact s.off a ha⟩
  · cases q : H a with
    | none => exact absurd q (R.has H a s.inv ha)
    | some z => exact b a z (no a ha) q
  · by_cases hc : c = o
    · rw [hc, upd_same] at q
      rw [hc, e]
      exact q
    · rw [upd_ne hc] at q
      exact b c x hc (s.same c x q)

theorem Sep.add {R : Rg} {G0 H0 G H : Hp} {l : Addr} {u : HO} (s0 : Sep R G0 H0) (n : H0 l = none) (s : Sep R G H) (e : H l = some u) : Sep R (upd G l u) H := by
  have nl : ∀ a, R.S a → a ≠ l := fun a ha z => R.has H0 a s0.inv ha (by rw [z]; exact n)
  refine ⟨s.inv, fun b x q => ?_, fun a ha => by rw [upd_ne (nl a ha)]; exact s.off a ha⟩
  by_cases hb : b = l
  · rw [hb, upd_same] at q
    rw [hb, e]
    exact q
  · rw [upd_ne hb] at q
    exact s.same b x q

/-! ## calls by keywords alone -/
/-- a def called with the keywords ks alone: sp speaks of their values -/
structure CalK (P : Program) (w : World) (K : PySem.W.Frag) (mg : Str → Option Value) (base : Heap) (k : Nat) (x : Str) (ks : List Str) (sp : Sp) : Prop where
  ex : ∃ (f : Addr) (fd : FuncData) (ps : List Str) (spf : Sp) (g : List Value → List Value → List Value) (gV : List V → List V → List V),
    FnOk P w K mg base CX0 k f fd ps spf ∧ mg x = some (.ref f) ∧ PySem.W.keepIn K (.ref f) = true ∧ KBn K fd ps 0 ks g gV ∧ ∀ zs H Q E, sp zs H Q E → zs.length = ks.length ∧ spf (gV [] zs) H Q E
def tCk (sp : Sp) (tk : TA) : TE := fun σ H Q => tk σ H fun zs H1 => sp zs H1 Q E0
section
variable {X : Cx} {k j : Nat} {x : Str} {ks : List Str} {sp : Sp} {p pos : Pos} {kws : List Keyword} {tk : TA}
theorem pe_ck (c : CalK X.prog X.w X.K X.mg X.base k x ks sp) (hr : Room j X.A) (hk : k ≤ j) (hg : Gl X x) (hkw : PK X kws tk)
    (hall : (backToKw pos (keywordEach kws X.env)).all (·.1.isSome) = true := by rfl) (hks : (backToKw pos (keywordEach kws X.env)).filterMap (·.1) = ks := by rfl) (hdb : (x == ("__debug__" : Str)) = false := by decide)
    (hpl : ((backTo pos (starEach [] X.env)).any (·.1) || (backToKw pos (keywordEach kws X.env)).any (·.1.isNone)) = false := by rfl) : PE X (.Call (.Name x p) [] kws pos) (tCk sp tk) := by
  obtain ⟨f, fd, ps, spf, g, gV, F, hm, kp, hb, hs⟩ := c.ex
  refine ⟨fun pins s σ H Q I h => wpAny_Call_Name_kw (ld_glob I hg hm ?_ hdb)⟩
  refine PySem.W.callWith_KW0 (h₀ := X.base) I.ok.mod.kin kp hall (thn (hkw.run pos pins s σ H _ I h) fun ws s1 hx => ?_) hpl
  obtain ⟨zs, H1, I1, rz, q⟩ := hx
  obtain ⟨lz, q⟩ := hs _ _ _ _ q
  refine ⟨I1.kIn, ?_⟩
  rw [hks]
  exact run_fnN F (hr.mono hk) hb pass0 I1 .nil rz rfl lz q
end

/-! ## a def with defaults, called by place or by keywords -/
section
variable {P : Program} {w : World} {K : PySem.W.Frag} {mg : Str → Option Value} {base : Heap} {x qual : Str} {pms : Arguments} {body : List Stmt} {sc : Scope} {dvs : List V} {f : Addr} {fd : FuncData} {ps ks : List Str}
/-- all parameters by keywords; g brings the values in the parameters' order -/
theorem kbn_dflt (F : FunD K x qual pms body sc dvs [] f fd) (hd : dvs ≠ []) (g : {α : Type} → List α → List α) (hg : ∀ {vs : List V} {us : List Value}, Vals vs us → Vals (g vs) (g us))
    (h : ∀ (T : Addr) (kV doc pm : Value) (an : Option Addr) (cdv ct : Value) (ws its : List Value), ws.length = ks.length → its.length = dvs.length →
      ∃ k, bindArgs (PySem.W.fnOf x qual pms body sc (.ref T) kV doc pm an cdv ct) ⟨[], ks.zip ws⟩ = seqItems? (.ref T) >>= k ∧ k (some its.toArray) = pure (ps.zip (g ws))) : KBn K fd ps 0 ks (fun _ ws => g ws) (fun _ zs => g zs) := by
  obtain ⟨oc, od, dV, kV, doc, pm, an, cdv, ct, osl, rfl, lk, hcd, hD, hK⟩ := F.ex
  rcases hD with ⟨e, _⟩ | ⟨_, T, o, its, m, rfl, lT, oT, rT⟩
  · exact absurd e hd
  · refine ⟨fun s us ws X l1 l2 => ?_, fun r1 r2 => hg r2⟩
    cases us with
    | cons u us => cases l1
    | nil =>
      obtain ⟨k, e1, e2⟩ := h T kV doc pm an cdv ct ws its l2 rT.length.symm
      refine BindsTo.of_looks fun M => ?_
      rw [e1]
      exact looks_items X lT oT (.of_pure e2)
/-- .. of a def without defaults -/
theorem kbn_plain {st : Stmt} (F : Fun K x qual st f fd) (g : {α : Type} → List α → List α) (hg : ∀ {vs : List V} {us : List Value}, Vals vs us → Vals (g vs) (g us))
    (h : ∀ (kV doc pm : Value) (an : Option Addr) (cdv ct : Value) (ws : List Value), ws.length = ks.length →
      bindArgs (PySem.W.fnOf x qual (defArgs st) (defBody st) (defScope st) .none kV doc pm an cdv ct) ⟨[], ks.zip ws⟩ = pure (ps.zip (g ws))) : KBn K fd ps 0 ks (fun _ ws => g ws) (fun _ zs => g zs) := by
  obtain ⟨oc, od, kV, doc, pm, an, cdv, ct, osl, rfl, lk, hcd⟩ := F.ex
  refine ⟨fun s us ws X l1 l2 => ?_, fun r1 r2 => hg r2⟩
  cases us with
  | cons u us => cases l1
  | nil => exact .of_eq (h kV doc pm an cdv ct ws l2)
theorem calK_mk {k : Nat} {spf sp : Sp} {g : List Value → List Value → List Value} {gV : List V → List V → List V} (F : FnOk P w K mg base CX0 k f fd ps spf) (hm : mg x = some (.ref f)) (kp : PySem.W.keepIn K (.ref f) = true) (b : KBn K fd ps 0 ks g gV)
    (h : ∀ zs H Q E, sp zs H Q E → zs.length = ks.length ∧ spf (gV [] zs) H Q E) : CalK P w K mg base k x ks sp := ⟨f, fd, ps, spf, g, gV, F, hm, kp, b, h⟩
end
/-- a def without defaults that is called by place and by keywords -/
structure Def2 (P : Program) (w : World) (K : PySem.W.Frag) (mg : Str → Option Value) (base : Heap) (k : Nat) (x : Str) (st : Stmt) (ps : List Str) (sp : Sp) : Prop where
  ex : ∃ (f : Addr) (fd : FuncData), Fun K x x st f fd ∧ mg x = some (.ref f) ∧ Binds K fd ps [] ∧ FnOk P w K mg base CX0 k f fd ps sp
section
variable {P : Program} {w : World} {K : PySem.W.Frag} {mg : Str → Option Value} {base : Heap} {x : Str} {st : Stmt} {ps ks N : List Str} {k : Nat} {sp sp' : Sp}
theorem DefAt.two (D : DefAt K mg x st ps) (S : FnScope N ps (defScope st)) (len : ∀ vs H Q E, sp vs H Q E → vs.length = ps.length)
    (hb : ∀ (f : Addr) (cdv : Value) (A : Around) (outer : List Env) (s : Shared) (H : Hp) (vs : List V) (Q : VK) (E : XK), Room k (A.deeper (envOfC x (defScope st) s.heap.objs.size f cdv)) → sp vs H Q E →
      ∃ t, PSs (cxOf CX0 P w K mg base N x (defScope st) f cdv A outer s H E).nox (defBody st) t ∧ t { nx := fun _ H' => Q .non H', rt := Q } (start N vs) H) : Def2 P w K mg base (k + 1) x st ps sp := by
  obtain ⟨f, fd, F, hm, b⟩ := D.ex
  exact ⟨f, fd, F, hm, b, F.ok S len fun cdv A outer s H vs Q E => hb f cdv A outer s H vs Q E⟩
theorem Def2.cal (D : Def2 P w K mg base k x st ps sp) : Cal P w K mg base k x sp [] := by
  obtain ⟨f, fd, F, hm, b, ok⟩ := D.ex
  exact ⟨f, fd, ps, [], ok, hm, F.kp, b, .nil⟩
theorem Def2.calK (D : Def2 P w K mg base k x st ps sp) (g : {α : Type} → List α → List α) (hg : ∀ {vs : List V} {us : List Value}, Vals vs us → Vals (g vs) (g us))
    (h : ∀ (kV doc pm : Value) (an : Option Addr) (cdv ct : Value) (ws : List Value), ws.length = ks.length →
      bindArgs (PySem.W.fnOf x x (defArgs st) (defBody st) (defScope st) .none kV doc pm an cdv ct) ⟨[], ks.zip ws⟩ = pure (ps.zip (g ws))) (hs : ∀ zs H Q E, sp' zs H Q E → zs.length = ks.length ∧ sp (g zs) H Q E) : CalK P w K mg base k x ks sp' := by
  obtain ⟨f, fd, F, hm, b, ok⟩ := D.ex
  exact calK_mk ok hm F.kp (kbn_plain F g hg h) hs
end
theorem perm_sorted_eq : ∀ {xs ys : List Int}, xs.Perm ys → xs.Pairwise (· ≤ ·) → ys.Pairwise (· ≤ ·) → xs = ys
  | [], ys, p, _, _ => (List.nil_perm.mp p).symm
  | x :: r, [], p, _, _ => absurd (List.perm_nil.mp p) (by simp)
  | x :: r, y :: t, p, h1, h2 => by
    have a1 := (List.pairwise_cons.mp h1).1
    have a2 := (List.pairwise_cons.mp h2).1
    have m1 : x ∈ y :: t := p.mem_iff.mp (List.mem_cons_self ..)
    have m2 : y ∈ x :: r := p.mem_iff.mpr (List.mem_cons_self ..)
    have e : x = y := by
      rcases List.mem_cons.mp m1 with z | z
      · exact z
      · rcases List.mem_cons.mp m2 with z2 | z2
        · exact z2.symm
        · have := a1 y z2
          have := a2 x z
          omega
    subst e
    rw [perm_sorted_eq (List.Perm.cons_inv p) (List.pairwise_cons.mp h1).2 (List.pairwise_cons.mp h2).2]

/-! ## a law's end, of a law that may ask for repr -/
theorem law_endG {P : Program} {w : World} {K : PySem.W.Frag} {mg mb : Str → Option Value} {k : Nat} {fa a : Addr} {fd : FuncData} {x : Str} {sp : Sp} {s₁ : Shared} {vs : List Value} {ns : List Int}
    (KX : K.In s₁.heap) (hns : s₁.heap.Ns mainGlobals mg) (hb : s₁.heap.Ns builtinsNs mb) (hbb : ∀ x : Str, x ≠ "__name__" → mb x = bootBuiltins x) (hlim : s₁.heap.NoLimit) (hg : s₁.gens = #[])
    (ha : s₁.heap.get? a = some { cls := .type "list", data := .seq vs.toArray }) (hi : IntsAre vs ns) (hl : ns.length ≤ sizeLine) (hr : Room k callerA)
    (F : ∀ base : Heap, K.In base → base.Ns mainGlobals mg → FnG P w K mg base CX0 k fa fd [x] sp) (hbind : ∀ (s : Shared) (u : Value), BindsTo s fd ⟨[u], []⟩ [(x, u)])
    (hsp : ∀ H : Hp, Only H → SqL K H a (iv ns) → sp [.ref a] H (fun v _ => v = .bl true) fun _ _ _ => False) :
    codeAny (model P w) callerA (.call (.ref fa) ⟨[.ref a], []⟩) (fun r s' => r = .ok (.ret (.bool true)) ∧ OldK s₁.heap s'.heap ∧ s'.os = s₁.os ∧ AllBare s'.gens) s₁ := by
  have rel := vals_ints hi
  have same : ∀ H : Hp, Only H → SqL K H a (iv ns) → HOk P w H s₁.heap → (∀ b, H b ≠ none → b = a) → (H a ≠ none → K.lookup a = none) →
      codeAny (model P w) callerA (.call (.ref fa) ⟨[.ref a], []⟩) (fun r s' => r = .ok (.ret (.bool true)) ∧ OldK s₁.heap s'.heap ∧ s'.os = s₁.os ∧ AllBare s'.gens) s₁ := by
    intro H only sq hok at_a k_a
    have nonK : ∀ {b : Addr} {o : Obj}, K.lookup b = some o → H b = none := by
      intro b o e
      cases q : H b with
      | none => rfl
      | some u =>
        have z := at_a b (by rw [q]; simp)
        subst z
        rw [k_a (by rw [q]; simp)] at e
        cases e
    have nonD : ∀ {b : Addr} {o : Obj} {es : Array DictEntry} {ep : Nat}, s₁.heap.get? b = some o → o.data = .dict es ep → H b = none := by
      intro b o es ep e d
      cases q : H b with
      | none => rfl
      | some u =>
        have z := at_a b (by rw [q]; simp)
        subst z
        rw [ha] at e
        cases e
        cases d
    have nsB : ∀ {b : Addr} {m : Str → Option Value}, s₁.heap.Ns b m → (hidT s₁.heap H).Ns b m := by
      rintro b m ⟨o, es, ep, e, d, r⟩
      exact ⟨o, es, ep, hidT_get e (nonD e d), d, r⟩
    have kinB : K.In (hidT s₁.heap H) := fun b o e => hidT_get (KX b o e) (nonK e)
    have md : Mod K mg (hidT s₁.heap H) := by
      obtain ⟨mc, h1, h2⟩ := hlim
      exact ⟨kinB, nsB hns, ⟨mb, nsB hb, hbb⟩, ⟨mc, nsB h1, h2⟩⟩
    have noIn : ∀ b : Addr, b ∉ frs [] := fun b z => by cases z
    have env : Env0 P w K mg (hidT s₁.heap H) callerA [] s₁ H := ⟨rfl, md, fun b o e => of_hidT e, Nat.le_of_eq (hidT_size _ _), trivial, fun b z => absurd z (noIn b), hok, .of_eq hg⟩
    refine codeAny_mono ((F _ kinB (nsB hns)).run callerA [] s₁ H ⟨[.ref a], []⟩ [.ref a] [.ref a] _ _ hr rfl env (hbind s₁ (.ref a)) (.cons rfl .nil) (hsp H only sq)) fun r s' h => ?_
    cases r with
    | error e => exact False.elim h
    | ok fl =>
      cases fl with
      | next => exact False.elim h
      | brk => exact False.elim h
      | cont => exact False.elim h
      | ret u =>
        obtain ⟨v, H', os, bare, un, hok', rv, q⟩ := h
        have ev : v = .bl true := q
        subst ev
        have eu : u = Value.bool true := rv
        subst eu
        refine ⟨rfl, OldK.of_keep fun b o e => ?_, os, bare⟩
        cases q : H b with
        | none => exact un.keep b o e q (noIn b) (by simp)
        | some u =>
          rcases only b with z | ⟨ob, xs, z⟩
          · rw [q] at z
            cases z
          · obtain ⟨e1, _⟩ := hok b _ z
            obtain ⟨e2, _⟩ := hok' b _ (un.frzs b ob _ z)
            rw [e] at e1
            cases e1
            exact e2
  cases hk : K.lookup a with
  | some o =>
    have e := KX a o hk
    rw [ha] at e
    cases e
    refine same (fun _ => none) (fun _ => .inl rfl) (.inr ⟨_, vs.toArray, _, hk, rfl, rfl, rfl, ?_, by simpa using rel⟩) (fun b u z => ?_) (fun b z => absurd rfl z) fun z => absurd rfl z
    · rw [List.size_toArray, hi.length]
      exact hl
    · exact nomatch (show (none : Option HO) = some u from z)
  | none =>
    let H0 : Hp := fun b => if b = a then some (.frz { cls := .type "list", data := .seq vs.toArray } (.lst (iv ns))) else none
    have at1 : H0 a = some (.frz { cls := .type "list", data := .seq vs.toArray } (.lst (iv ns))) := if_pos rfl
    have at0 : ∀ b, b ≠ a → H0 b = none := fun b hb => if_neg hb
    refine same H0 (fun b => ?_) (.inl (.inr ⟨_, at1⟩)) (fun b u z => ?_) (fun b z => ?_) fun _ => hk
    · by_cases hb : b = a
      · exact .inr ⟨_, _, by rw [hb]; exact at1⟩
      · exact .inl (at0 b hb)
    · by_cases hb : b = a
      · subst hb
        rw [at1] at z
        cases z
        exact ⟨ha, by rw [iv_len]; exact hl, vs, _, rel, ha⟩
      · rw [at0 b hb] at z
        cases z
    · by_cases hb : b = a
      · exact hb
      · exact absurd (at0 b hb) z
theorem walk_ofG {l : PySem.W.OpenLaw} {n k : Nat} {q : Program} {loose : List Str} {XP : (Str → Option Value) → Heap → Prop} {YP : World → Heap → Prop} {d : DefRec} {K : Params → PySem.W.Frag} {sp : PySem.W.Frag → Sp} {x : Str}
    (hn : l.most = some n) (hn2 : n ≤ sizeLine) (hdf : d.params.defaults = []) (hr : Room k callerA) (hY : ∀ (w : World) (h : Heap), YP w h → (K w.params).In h)
    (F : ∀ (w : World) (mg : Str → Option Value) (fa : Addr) (h : Heap), (K w.params).In h → h.Ns mainGlobals mg → mg d.name = some (.ref fa) →
      ∃ fd : FuncData, (∀ (s : Shared) (u : Value), BindsTo s fd ⟨[u], []⟩ [(x, u)]) ∧
        ∀ base : Heap, (K w.params).In base → base.Ns mainGlobals mg → FnG l.prog w (K w.params) mg base CX0 k fa fd [x] (sp (K w.params)))
    (hsp : ∀ (K : PySem.W.Frag) (H : Hp) (a : Addr) (ns : List Int), ns.length ≤ n → SqL K H a (iv ns) → sp K [.ref a] H (fun v _ => v = .bl true) fun _ _ _ => False) :
    PySem.W.WalkO q loose XP YP l.row.toRowW d [] (fun f vs => PySem.call f vs) := by
  refine Att.attach_call hn hdf fun w s₀ s₁ mg mb fa o pm cd doc a vs ns G Y ho hd hcd hmg hobj hints hlen hg => ?_
  have KX := hY w _ Y
  obtain ⟨fd, hb, hF⟩ := F w mg fa _ KX G.T.g hmg
  exact law_endG KX G.T.g G.T.b G.T.builtins G.T.nolimit hg hobj hints (Nat.le_trans hlen hn2) hr hF hb fun H _ hS => hsp (K w.params) H a ns hlen hS

/-! ## a def of the text, out of what the top has written -/
theorem DefAt.mk1 {K : PySem.W.Frag} {h : Heap} {mg : Str → Option Value} {x : Str} {st : Stmt} {ps : List Str} {f : Addr} {od an : Option Addr} {sl : Array (Option Value)} {oc kV dc pm cd ct : Value} (X : K.In h) (G : h.Ns mainGlobals mg)
    (a : PySem.W.nsIn K mainGlobals x = some (some (.ref f))) (l : K.lookup f = some ⟨oc, od, .func (PySem.W.fnOf x x (defArgs st) (defBody st) (defScope st) .none kV dc pm an cd ct), sl⟩) (c : PySem.W.codeIn K cd x = true) (k : PySem.W.keepIn K (.ref f) = true)
    (hb : ∀ (kV doc pm : Value) (an : Option Addr) (cdv ct : Value) (us : List Value), us.length = ps.length → bindArgs (PySem.W.fnOf x x (defArgs st) (defBody st) (defScope st) .none kV doc pm an cdv ct) ⟨us, []⟩ = pure (ps.zip us)) : DefAt K mg x st ps :=
  ⟨f, _, fun_mk (st := st) l c k, PySem.W.mg_of X G a, (fun_mk (st := st) l c k).binds hb⟩
theorem cutD {p q : Prop} (h : p) (k : p → q) : q := k h
/-- a class: what its facts say -/
theorem cls_mk {K : PySem.W.Frag} {h : Heap} {mg : Str → Option Value} {x : Str} {C : Addr} (X : K.In h) (hC : mg x = some (.ref C)) (pg : PySem.W.plainGet K C Str.empty = true) (hd : PySem.W.hasDictIn K C = true) (po : PySem.W.plainOver K C = true) (sa : PySem.W.findIn K (.ref C) "__setattr__" = some (some (.builtin "object.__setattr__"))) : Cls K C := ⟨pg, hd, po, sa⟩
theorem noat_mk {K : PySem.W.Frag} {h : Heap} {mg : Str → Option Value} {x : Str} {C : Addr} {m : Str} (X : K.In h) (hC : mg x = some (.ref C)) (n : PySem.W.findIn K (.ref C) m = some none) : NoAttr K C m := n
theorem IniAt.mk1 {K : PySem.W.Frag} {h : Heap} {mg : Str → Option Value} {C : Addr} {x qual : Str} {st : Stmt} {ps : List Str} {f : Addr} {od an : Option Addr} {sl : Array (Option Value)} {oc kV dc pm cd ct : Value} (X : K.In h) (hm : mg x = some (.ref C))
    (a : PySem.W.findIn K (.ref C) "__init__" = some (some (.ref f))) (l : K.lookup f = some ⟨oc, od, .func (PySem.W.fnOf "__init__" qual (defArgs st) (defBody st) (defScope st) .none kV dc pm an cd ct), sl⟩) (c : PySem.W.codeIn K cd qual = true) (k : PySem.W.keepIn K (.ref f) = true)
    (mk : PySem.W.makesIn K C = true) (i : PySem.W.isFn K (.ref f) = true) (kc : PySem.W.keepIn K (.ref C) = true)
    (hb : ∀ (kV doc pm : Value) (an : Option Addr) (cdv ct : Value) (us : List Value), us.length = ps.length → bindArgs (PySem.W.fnOf "__init__" qual (defArgs st) (defBody st) (defScope st) .none kV doc pm an cdv ct) ⟨us, []⟩ = pure (ps.zip us)) : IniAt K mg C x qual st ps :=
  ⟨f, _, fun_mk (st := st) l c k, ⟨mk, a, i, kc⟩, hm, (fun_mk (st := st) l c k).binds hb⟩
theorem MetAt.mk1 {K : PySem.W.Frag} {h : Heap} {mg : Str → Option Value} {x : Str} {C : Addr} {m qual : Str} {st : Stmt} {ps : List Str} {f : Addr} {od an : Option Addr} {sl : Array (Option Value)} {oc kV dc pm cd ct : Value} (X : K.In h) (hC : mg x = some (.ref C))
    (a : PySem.W.findIn K (.ref C) m = some (some (.ref f))) (l : K.lookup f = some ⟨oc, od, .func (PySem.W.fnOf m qual (defArgs st) (defBody st) (defScope st) .none kV dc pm an cd ct), sl⟩) (c : PySem.W.codeIn K cd qual = true) (k : PySem.W.keepIn K (.ref f) = true) (i : PySem.W.isFn K (.ref f) = true)
    (hb : ∀ (kV doc pm : Value) (an : Option Addr) (cdv ct : Value) (us : List Value), us.length = ps.length → bindArgs (PySem.W.fnOf m qual (defArgs st) (defBody st) (defScope st) .none kV doc pm an cdv ct) ⟨us, []⟩ = pure (ps.zip us)) : MetAt K C m qual st ps :=
  ⟨f, _, fun_mk (st := st) l c k, ⟨a, i, k⟩, (fun_mk (st := st) l c k).binds hb⟩
theorem PrpAt.mk1 {K : PySem.W.Frag} {h : Heap} {mg : Str → Option Value} {x : Str} {C : Addr} {m qual : Str} {st : Stmt} {ps : List Str} {f p : Addr} {rest : List Value} {od an : Option Addr} {sl : Array (Option Value)} {oc kV dc pm cd ct : Value} (X : K.In h) (hC : mg x = some (.ref C))
    (a : PySem.W.findIn K (.ref C) m = some (some (.ref p))) (g : PySem.W.specialIn K (.ref p) "__get__" = some (some (.builtin "property.__get__"))) (t : PySem.W.takesIn K (.ref p) = some true) (r : PySem.W.recIn K p "property" = some (.ref f :: rest))
    (l : K.lookup f = some ⟨oc, od, .func (PySem.W.fnOf m qual (defArgs st) (defBody st) (defScope st) .none kV dc pm an cd ct), sl⟩) (c : PySem.W.codeIn K cd qual = true) (k : PySem.W.keepIn K (.ref f) = true)
    (hb : ∀ (kV doc pm : Value) (an : Option Addr) (cdv ct : Value) (us : List Value), us.length = ps.length → bindArgs (PySem.W.fnOf m qual (defArgs st) (defBody st) (defScope st) .none kV doc pm an cdv ct) ⟨us, []⟩ = pure (ps.zip us)) : PrpAt K C m qual st ps :=
  ⟨f, p, _, fun_mk (st := st) l c k, ⟨a, g, t, rest, r⟩, (fun_mk (st := st) l c k).binds hb⟩
theorem glob_mk {K : PySem.W.Frag} {h : Heap} {mg : Str → Option Value} {x : Str} {C : Addr} (X : K.In h) (G : h.Ns mainGlobals mg) (a : PySem.W.nsIn K mainGlobals x = some (some (.ref C))) : mg x = some (.ref C) := PySem.W.mg_of X G a
/-- a def with defaults -/
theorem funD_mk {K : PySem.W.Frag} {h : Heap} {mg : Str → Option Value} {x : Str} {st : Stmt} {dvs : List V} {f T : Addr} {o : Obj} {its : List Value} {n : Nat} {od an : Option Addr} {sl : Array (Option Value)} {oc kV dc pm cd ct : Value} (X : K.In h) (G : h.Ns mainGlobals mg)
    (a : PySem.W.nsIn K mainGlobals x = some (some (.ref f))) (l : K.lookup f = some ⟨oc, od, .func (PySem.W.fnOf x x (defArgs st) (defBody st) (defScope st) (.ref T) kV dc pm an cd ct), sl⟩) (c : PySem.W.codeIn K cd x = true) (k : PySem.W.keepIn K (.ref f) = true)
    (t : K.lookup T = some o) (e : o.data = .seq its.toArray n) (hv : Vals dvs its) (hd : dvs ≠ []) : FunD K x x (defArgs st) (defBody st) (defScope st) dvs [] f (PySem.W.fnOf x x (defArgs st) (defBody st) (defScope st) (.ref T) kV dc pm an cd ct) ∧ mg x = some (.ref f) :=
  ⟨⟨⟨oc, od, _, kV, dc, pm, an, cd, ct, sl, rfl, l, c, .inr ⟨hd, T, o, its, n, rfl, t, e, hv⟩, .inl rfl⟩, k⟩, PySem.W.mg_of X G a⟩
/-- the law's own def -/
theorem DefAt.law {K : PySem.W.Frag} {mg : Str → Option Value} {x : Str} {st : Stmt} {fa : Addr} {p : Str} (D : DefAt K mg x st [p]) (hfa : mg x = some (.ref fa))
    (hb : ∀ (kV doc pm : Value) (an : Option Addr) (cdv ct : Value) (us : List Value), us.length = 1 → bindArgs (PySem.W.fnOf x x (defArgs st) (defBody st) (defScope st) .none kV doc pm an cdv ct) ⟨us, []⟩ = pure ([p].zip us)) :
    ∃ fd : FuncData, Fun K x x st fa fd ∧ ∀ (s : Shared) (u : Value), BindsTo s fd ⟨[u], []⟩ [(p, u)] := by
  obtain ⟨f, fd, F, hm, b⟩ := D.ex
  rw [hfa] at hm
  cases hm
  obtain ⟨oc, od, kV, doc, pm, an, cdv, ct, osl, rfl, lk, hcd⟩ := F.ex
  exact ⟨_, F, fun s u => .of_eq (hb kV doc pm an cdv ct [u] rfl)⟩
end Sq

/-! the mathematics of replacements on lengths of runs -/
namespace Sq
def once (n k : Int) : Int := n / k + n % k
def sqz (n : Int) (row : List Int) : Int := row.foldl once n
def rb (R k : Int) : Int := if k > R + 1 then R else (R + 3 - k) * k - 2
def reachOf (row : List Int) (most : Int) : Int := row.foldr (fun k R => rb R k) most
abbrev Two (row : List Int) : Prop := ∀ k ∈ row, (2 : Int) ≤ k
def Mid (ns : List Int) : Prop := ∀ k ∈ ns, (2 : Int) ≤ k ∧ k < 2 ^ 240
theorem Mid.two {ns : List Int} (h : Mid ns) : Two ns := fun k hk => (h k hk).1
theorem sqz_cons (n k : Int) (r : List Int) : sqz n (k :: r) = sqz (once n k) r := rfl
theorem sqz_app (n : Int) (a b : List Int) : sqz n (a ++ b) = sqz (sqz n a) b := by simp [sqz, List.foldl_append]
theorem sqz_snoc (n k : Int) (a : List Int) : sqz n (a ++ [k]) = once (sqz n a) k := by rw [sqz_app]; rfl
theorem sqz_take {row : List Int} {n k : Int} {i : Nat} (h : row[i]? = some k) : sqz n (row.take (i + 1)) = once (sqz n (row.take i)) k := by
  rw [List.take_add_one, h]
  exact sqz_snoc _ _ _
theorem once_nn {n k : Int} (hn : 0 ≤ n) (hk : 2 ≤ k) : 0 ≤ once n k := by
  unfold once
  have h1 := Int.ediv_nonneg hn (by omega : (0 : Int) ≤ k)
  have h2 := Int.emod_nonneg n (by omega : k ≠ 0)
  omega
/-- quotient and rest -/
theorem qr (n : Int) {k : Int} (hk : 2 ≤ k) : ∃ q r, n = q * k + r ∧ 0 ≤ r ∧ r < k ∧ n / k = q ∧ n % k = r :=
  ⟨n / k, n % k, by have := Int.mul_ediv_add_emod n k; rw [Int.mul_comm] at this; omega, Int.emod_nonneg n (by omega), Int.emod_lt_of_pos n (by omega), rfl, rfl⟩
theorem qr_of {q r k : Int} (h0 : 0 ≤ r) (h1 : r < k) : (q * k + r) / k = q ∧ (q * k + r) % k = r := by
  have hk : k ≠ 0 := by omega
  constructor
  · rw [Int.add_comm, Int.add_mul_ediv_right _ _ hk, Int.ediv_eq_zero_of_lt h0 h1]; omega
  · rw [Int.add_comm, Int.add_mul_emod_self_right, Int.emod_eq_of_lt h0 h1]
theorem once_qr {q r k : Int} (h0 : 0 ≤ r) (h1 : r < k) : once (q * k + r) k = q + r := by
  obtain ⟨a, b⟩ := qr_of (q := q) h0 h1
  unfold once
  rw [a, b]
theorem once_le {n k : Int} (hn : 0 ≤ n) (hk : 2 ≤ k) : once n k ≤ n := by
  obtain ⟨q, r, e, h0, h1, e1, e2⟩ := qr n hk
  unfold once
  rw [e1, e2]
  have hq : 0 ≤ q := by rw [← e1]; exact Int.ediv_nonneg hn (by omega)
  have := Int.mul_le_mul_of_nonneg_left (by omega : (1 : Int) ≤ k) hq
  omega
theorem once_small {n k : Int} (hn : 0 ≤ n) (h : n < k) : once n k = n := by
  unfold once
  rw [Int.ediv_eq_zero_of_lt hn h, Int.emod_eq_of_lt hn h]
  omega
theorem once_pos {n k : Int} (hn : 1 ≤ n) (hk : 2 ≤ k) : 1 ≤ once n k := by
  obtain ⟨q, r, e, h0, h1, e1, e2⟩ := qr n hk
  unfold once
  rw [e1, e2]
  have hq : 0 ≤ q := by rw [← e1]; exact Int.ediv_nonneg (by omega) (by omega)
  rcases Int.lt_or_eq_of_le hq with h | h
  · omega
  · subst h; omega
theorem sqz_nn : ∀ {row : List Int} {n : Int}, 0 ≤ n → Two row → 0 ≤ sqz n row
  | [], n, h, _ => h
  | k :: r, n, h, t => sqz_nn (row := r) (once_nn h (t k (List.mem_cons_self ..))) fun j hj => t j (List.mem_cons_of_mem _ hj)
theorem sqz_le : ∀ {row : List Int} {n : Int}, 0 ≤ n → Two row → sqz n row ≤ n
  | [], n, h, _ => Int.le_refl n
  | k :: r, n, h, t => Int.le_trans (sqz_le (row := r) (once_nn h (t k (List.mem_cons_self ..))) fun j hj => t j (List.mem_cons_of_mem _ hj)) (once_le h (t k (List.mem_cons_self ..)))
theorem sqz_pos : ∀ {row : List Int} {n : Int}, 1 ≤ n → Two row → 1 ≤ sqz n row
  | [], n, h, _ => h
  | k :: r, n, h, t => sqz_pos (row := r) (once_pos h (t k (List.mem_cons_self ..))) fun j hj => t j (List.mem_cons_of_mem _ hj)
/-- one step of the reach -/
theorem rb_pos {R k : Int} (hR : 1 ≤ R) (hk : 2 ≤ k) : R ≤ rb R k := by
  unfold rb
  split
  · omega
  · rename_i h
    have e : (R + 3 - k) * k - 2 - R = (R + 1 - k) * (k - 1) + (k - 1) := by
      have e1 : R + 3 - k = (R + 1 - k) + 2 := by omega
      have e2 : k = (k - 1) + 1 := by omega
      rw [e1]
      have e3 : (R + 1 - k) * k = (R + 1 - k) * (k - 1) + (R + 1 - k) := by
        have := Int.mul_sub (R + 1 - k) k 1
        omega
      have e4 : (R + 1 - k + 2) * k = (R + 1 - k) * k + 2 * k := Int.add_mul _ _ _
      omega
    have := Int.mul_nonneg (by omega : (0 : Int) ≤ R + 1 - k) (by omega : (0 : Int) ≤ k - 1)
    omega
theorem rb_all {R k n : Int} (hR : 1 ≤ R) (hk : 2 ≤ k) (h0 : 0 ≤ n) (h : n ≤ rb R k) : once n k ≤ R := by
  unfold rb at h
  split at h
  · rw [once_small h0 (by omega)]; exact h
  · rename_i hh
    obtain ⟨q, r, e, h1, h2, e1, e2⟩ := qr n hk
    unfold once
    rw [e1, e2]
    have e3 : (R + 3 - k) * k = (R + 2 - k) * k + k := by
      have : R + 3 - k = (R + 2 - k) + 1 := by omega
      rw [this, Int.add_mul, Int.one_mul]
    rcases Int.lt_or_le q (R + 2 - k) with hq | hq
    · omega
    · rcases Int.lt_or_eq_of_le hq with hq | hq
      · have := Int.mul_le_mul_of_nonneg_right (by omega : R + 3 - k ≤ q) (by omega : (0 : Int) ≤ k)
        omega
      · subst hq
        omega
theorem rb_next {R k : Int} (hR : 1 ≤ R) (hk : 2 ≤ k) : once (rb R k + 1) k = R + 1 := by
  unfold rb
  split
  · rw [once_small (by omega) (by omega)]
  · have e3 : (R + 3 - k) * k - 2 + 1 = (R + 2 - k) * k + (k - 1) := by
      have : R + 3 - k = (R + 2 - k) + 1 := by omega
      rw [this, Int.add_mul, Int.one_mul]; omega
    rw [e3, once_qr (by omega) (by omega)]
    omega
theorem reach_pos : ∀ {row : List Int} {m : Int}, 1 ≤ m → Two row → m ≤ reachOf row m
  | [], m, _, _ => Int.le_refl m
  | k :: r, m, h, t => by
    have ih := reach_pos (row := r) h fun j hj => t j (List.mem_cons_of_mem _ hj)
    exact Int.le_trans ih (rb_pos (by omega) (t k (List.mem_cons_self ..)))
theorem reach_all : ∀ {row : List Int} {m n : Int}, 1 ≤ m → Two row → 0 ≤ n → n ≤ reachOf row m → sqz n row ≤ m
  | [], m, n, _, _, _, h => h
  | k :: r, m, n, h, t, h0, hn => by
    have t' : Two r := fun j hj => t j (List.mem_cons_of_mem _ hj)
    have hk := t k (List.mem_cons_self ..)
    have p := reach_pos h t'
    exact reach_all (row := r) h t' (once_nn h0 hk) (rb_all (by omega) hk h0 hn)
theorem reach_next : ∀ {row : List Int} {m : Int}, 1 ≤ m → Two row → sqz (reachOf row m + 1) row = m + 1
  | [], m, _, _ => rfl
  | k :: r, m, h, t => by
    have t' : Two r := fun j hj => t j (List.mem_cons_of_mem _ hj)
    have hk := t k (List.mem_cons_self ..)
    have p := reach_pos h t'
    show sqz (once (rb (reachOf r m) k + 1) k) r = m + 1
    rw [rb_next (by omega) hk]
    exact reach_next h t'
/-- the reach is where the first greater one stands -/
theorem reach_is {row : List Int} {m n : Int} (h : 1 ≤ m) (t : Two row) (h0 : 0 ≤ n) (hn : m < sqz n row) (ha : ∀ j, 0 ≤ j → j < n → sqz j row ≤ m) : reachOf row m = n - 1 := by
  have p := reach_pos h t
  rcases Int.lt_or_le (reachOf row m) n with a | a
  · rcases Int.lt_or_le (reachOf row m + 1) n with b | b
    · have := ha _ (by omega) b
      rw [reach_next h t] at this
      omega
    · omega
  · have := reach_all h t h0 a
    omega
theorem reach_mono {row : List Int} {m m' : Int} (h : 1 ≤ m) (hm : m ≤ m') (t : Two row) : reachOf row m ≤ reachOf row m' := by
  rcases Int.lt_or_le (reachOf row m') (reachOf row m) with a | a
  · have p := reach_pos (m := m') (by omega) t
    have := reach_all h t (n := reachOf row m' + 1) (by omega) (by omega)
    rw [reach_next (by omega) t] at this
    omega
  · exact a
end Sq


/-! greatest reaches, and the lists that have them -/
namespace Sq
/-- the greatest reach that one replacement makes of a reach -/
def bR (R : Int) : Int := (R + 3 - (R + 3) / 2) * ((R + 3) / 2) - 2
/-- the best replacements -/
def bK (R : Int) : List Int := if R % 2 = 1 then [(R + 3) / 2] else [(R + 3) / 2, (R + 3) / 2 + 1]
theorem sq_id (R b k : Int) : (R + 3 - b) * b - (R + 3 - k) * k = (b - k) * (R + 3 - b - k) := by
  simp only [Int.sub_mul, Int.mul_sub, Int.add_mul, Int.mul_add]
  have e1 : b * R = R * b := Int.mul_comm ..
  have e2 : k * R = R * k := Int.mul_comm ..
  have e3 : k * b = b * k := Int.mul_comm ..
  omega
theorem bR_is {R : Int} (h : 1 ≤ R) : rb R ((R + 3) / 2) = bR R := by
  unfold rb bR
  rw [if_neg (by omega)]
theorem bR_up {R : Int} (h : 1 ≤ R) : R < bR R := by
  have z := sq_id R ((R + 3) / 2) 1
  have p : 0 < ((R + 3) / 2 - 1) * (R + 3 - (R + 3) / 2 - 1) := Int.mul_pos (by omega) (by omega)
  unfold bR
  omega
/-- no replacement is better; the best ones alone are as good -/
theorem bR_max {R k : Int} (h : 1 ≤ R) (hk : 2 ≤ k) : rb R k ≤ bR R ∧ (rb R k = bR R ↔ k ∈ bK R) := by
  have up := bR_up h
  have mem : k ∈ bK R ↔ k = (R + 3) / 2 ∨ k = R + 3 - (R + 3) / 2 := by
    unfold bK
    split
    · rw [List.mem_singleton]
      omega
    · rw [List.mem_cons, List.mem_singleton]
      omega
  by_cases c : k > R + 1
  · have e : rb R k = R := by unfold rb; rw [if_pos c]
    rw [e, mem]
    refine ⟨by omega, ⟨fun z => by omega, fun z => by omega⟩⟩
  · have e : rb R k = (R + 3 - k) * k - 2 := by unfold rb; rw [if_neg c]
    have z := sq_id R ((R + 3) / 2) k
    have nn : 0 ≤ ((R + 3) / 2 - k) * (R + 3 - (R + 3) / 2 - k) := by
      rcases (show k ≤ (R + 3) / 2 ∨ R + 3 - (R + 3) / 2 ≤ k by omega) with y | y
      · exact Int.mul_nonneg (by omega) (by omega)
      · exact Int.mul_nonneg_of_nonpos_of_nonpos (by omega) (by omega)
    rw [e, mem]
    unfold bR
    refine ⟨by omega, ⟨fun y => ?_, fun y => ?_⟩⟩
    · have w : ((R + 3) / 2 - k) * (R + 3 - (R + 3) / 2 - k) = 0 := by omega
      rcases Int.mul_eq_zero.mp w with v | v <;> omega
    · have w : ((R + 3) / 2 - k) * (R + 3 - (R + 3) / 2 - k) = 0 := Int.mul_eq_zero.mpr (by omega)
      omega
theorem bK_two {R : Int} (h : 1 ≤ R) : ∀ k ∈ bK R, 2 ≤ k := fun k hk => by
  unfold bK at hk
  split at hk
  · rw [List.mem_singleton.mp hk]
    omega
  · rcases List.mem_cons.mp hk with z | z
    · omega
    · rw [List.mem_singleton.mp z]
      omega
theorem bR_mono {R S : Int} (h : 1 ≤ R) (hs : R < S) : bR R < bR S := by
  have a := bR_is (R := R) h
  have b := (bR_max (R := S) (k := (R + 3) / 2) (by omega) (by omega)).1
  have c : rb R ((R + 3) / 2) < rb S ((R + 3) / 2) := by
    unfold rb
    rw [if_neg (by omega), if_neg (by omega)]
    have := Int.mul_lt_mul_of_pos_right (show R + 3 - (R + 3) / 2 < S + 3 - (R + 3) / 2 by omega) (show 0 < (R + 3) / 2 by omega)
    omega
  omega
/-- the greatest reach of so many replacements -/
def bN (goal : Int) : Nat → Int
  | 0 => goal
  | n + 1 => bR (bN goal n)
theorem bN_pos {goal : Int} (h : 1 ≤ goal) : ∀ n, 1 ≤ bN goal n
  | 0 => h
  | n + 1 => by
    have := bR_up (bN_pos h n)
    have := bN_pos h n
    show 1 ≤ bR (bN goal n)
    omega
theorem bN_up {goal : Int} (h : 1 ≤ goal) (n : Nat) : bN goal n < bN goal (n + 1) := bR_up (bN_pos h n)
theorem bN_mono {goal : Int} (h : 1 ≤ goal) {m n : Nat} (hm : m < n) : bN goal m < bN goal n := by
  induction n with
  | zero => omega
  | succ n ih =>
    have u := bN_up h n
    rcases (show m < n ∨ m = n by omega) with z | z
    · have := ih z
      omega
    · rw [z]
      exact u
/-- the lists that have it -/
def bL (goal : Int) : Nat → List (List Int)
  | 0 => [[]]
  | n + 1 => (bK (bN goal n)).flatMap fun k => (bL goal n).map fun r => k :: r
theorem mem_bL {goal : Int} (h : 1 ≤ goal) : ∀ {n : Nat} {row : List Int}, row.length = n → Two row → reachOf row goal ≤ bN goal n ∧ (reachOf row goal = bN goal n ↔ row ∈ bL goal n)
  | 0, row, hl, _ => by
    rw [List.length_eq_zero_iff.mp hl]
    exact ⟨Int.le_refl _, ⟨fun _ => List.mem_singleton.mpr rfl, fun _ => rfl⟩⟩
  | n + 1, [], hl, _ => by simp at hl
  | n + 1, k :: r, hl, t => by
    have tr : Two r := fun j hj => t j (List.mem_cons_of_mem _ hj)
    have k2 := t k (List.mem_cons_self ..)
    obtain ⟨a, b⟩ := mem_bL h (n := n) (row := r) (by simpa using hl) tr
    have p := reach_pos h tr
    have pn := bN_pos h n
    have mem : (k :: r) ∈ bL goal (n + 1) ↔ k ∈ bK (bN goal n) ∧ r ∈ bL goal n := by
      show (k :: r) ∈ (bK (bN goal n)).flatMap _ ↔ _
      rw [List.mem_flatMap]
      constructor
      · rintro ⟨j, hj, hr⟩
        obtain ⟨s, hs, e⟩ := List.mem_map.mp hr
        rw [List.cons.injEq] at e
        rw [← e.1, ← e.2]
        exact ⟨hj, hs⟩
      · rintro ⟨hj, hr⟩
        exact ⟨k, hj, List.mem_map.mpr ⟨r, hr, rfl⟩⟩
    rw [mem, ← b]
    show rb (reachOf r goal) k ≤ bR (bN goal n) ∧ (rb (reachOf r goal) k = bR (bN goal n) ↔ _)
    rcases Int.lt_or_eq_of_le a with z | z
    · have m1 := (bR_max (R := reachOf r goal) (k := k) (by omega) k2).1
      have m2 := bR_mono (show 1 ≤ reachOf r goal by omega) z
      exact ⟨by omega, ⟨fun y => by omega, fun y => by omega⟩⟩
    · rw [z]
      obtain ⟨m1, m2⟩ := bR_max pn k2
      refine ⟨m1, ?_⟩
      rw [m2]
      exact ⟨fun y => ⟨y, rfl⟩, fun y => y.1⟩
theorem bL_ok {goal : Int} (h : 1 ≤ goal) : ∀ {n : Nat}, ∀ row ∈ bL goal n, row.length = n ∧ Two row
  | 0, row, hr => by
    rw [List.mem_singleton.mp hr]
    exact ⟨rfl, (fun k hk => by cases hk)⟩
  | n + 1, row, hr => by
    obtain ⟨k, hk, hr⟩ := List.mem_flatMap.mp hr
    obtain ⟨r, hr2, rfl⟩ := List.mem_map.mp hr
    obtain ⟨a, b⟩ := bL_ok h r hr2
    refine ⟨by rw [List.length_cons, a], fun j hj => ?_⟩
    rcases List.mem_cons.mp hj with z | z
    · rw [z]
      exact bK_two (bN_pos h n) k hk
    · exact b j z
/-- the first numbers of these lists -/
def preL (goal : Int) (k : Nat) : Nat → List (List Int)
  | 0 => [[]]
  | j + 1 => (preL goal k j).flatMap fun s => (bK (bN goal (k - 1 - j))).map fun r => s ++ [r]
theorem preL_bL (goal : Int) (k : Nat) : ∀ j, j ≤ k → bL goal k = (preL goal k j).flatMap fun s => (bL goal (k - j)).map fun t => s ++ t
  | 0, _ => by simp [preL]
  | j + 1, h => by
    have ih := preL_bL goal k j (by omega)
    rw [ih]
    show _ = ((preL goal k j).flatMap fun s => (bK (bN goal (k - 1 - j))).map fun r => s ++ [r]).flatMap _
    rw [List.flatMap_assoc]
    congr 1
    funext s
    rw [show k - j = (k - 1 - j) + 1 by omega, show k - (j + 1) = k - 1 - j by omega]
    show ((bK (bN goal (k - 1 - j))).flatMap fun r => (bL goal (k - 1 - j)).map fun t => r :: t).map _ = _
    rw [List.map_flatMap, List.flatMap_map]
    congr 1
    funext r
    rw [List.map_map]
    congr 1
    funext t
    simp
theorem preL_all (goal : Int) (k : Nat) : preL goal k k = bL goal k := by
  rw [preL_bL goal k k (Nat.le_refl _), Nat.sub_self]
  show _ = (preL goal k k).flatMap fun s => [s ++ []]
  simp
theorem bK_len (R : Int) : (bK R).length ≤ 2 ∧ 1 ≤ (bK R).length := by
  unfold bK
  split <;> simp
theorem preL_len (goal : Int) (k : Nat) : ∀ j, (preL goal k j).length ≤ 2 ^ j ∧ ∀ s ∈ preL goal k j, s.length = j
  | 0 => by simp [preL]
  | j + 1 => by
    obtain ⟨a, b⟩ := preL_len goal k j
    refine ⟨?_, fun s hs => ?_⟩
    · have : ∀ l : List (List Int), (l.flatMap fun s => (bK (bN goal (k - 1 - j))).map fun r => s ++ [r]).length ≤ l.length * 2 := by
        intro l
        induction l with
        | nil => simp
        | cons x t ih =>
          have := (bK_len (bN goal (k - 1 - j))).1
          rw [List.flatMap_cons, List.length_append, List.length_map, List.length_cons]
          omega
      have z := this (preL goal k j)
      rw [Nat.pow_succ]
      exact Nat.le_trans z (Nat.mul_le_mul_right 2 a)
    · obtain ⟨t, ht, hs⟩ := List.mem_flatMap.mp hs
      obtain ⟨r, _, rfl⟩ := List.mem_map.mp hs
      rw [List.length_append, b t ht, List.length_singleton]
/-- as many as the even reaches say -/
def evens (goal : Int) : Nat → Nat
  | 0 => 0
  | n + 1 => evens goal n + if bN goal n % 2 = 0 then 1 else 0
theorem bL_len (goal : Int) : ∀ n : Nat, (bL goal n).length = 2 ^ evens goal n
  | 0 => rfl
  | n + 1 => by
    have ih := bL_len goal n
    show ((bK (bN goal n)).flatMap fun k => (bL goal n).map fun r => k :: r).length = _
    unfold bK evens
    by_cases c : bN goal n % 2 = 1
    · rw [if_pos c, if_neg (by omega)]
      simp [ih]
    · rw [if_neg c, if_pos (by omega)]
      simp [ih, Nat.pow_succ]
      omega
/-- lists in their order -/
def lexLt : List Int → List Int → Prop
  | [], [] => False
  | [], _ :: _ => True
  | _ :: _, [] => False
  | a :: r, b :: t => a < b ∨ (a = b ∧ lexLt r t)
theorem bL_asc (goal : Int) : ∀ n : Nat, (bL goal n).Pairwise lexLt
  | 0 => by simp [bL]
  | n + 1 => by
    have ih := bL_asc goal n
    have one : ∀ k : Int, ((bL goal n).map fun r => k :: r).Pairwise lexLt := fun k => List.Pairwise.map _ (fun a b h => .inr ⟨rfl, h⟩) ih
    show ((bK (bN goal n)).flatMap fun k => (bL goal n).map fun r => k :: r).Pairwise lexLt
    unfold bK
    split
    · simpa using one _
    · simp only [List.flatMap_cons, List.flatMap_nil, List.append_nil]
      refine List.pairwise_append.mpr ⟨one _, one _, fun a ha b hb => ?_⟩
      obtain ⟨r, _, rfl⟩ := List.mem_map.mp ha
      obtain ⟨t, _, rfl⟩ := List.mem_map.mp hb
      exact .inl (by omega)
end Sq


namespace Sq
open PySem PySem.Spec PyProof.Rows L2
/-! ## ranges of wide ints -/
theorem turn_wide {P : Program} {w : World} {K : PySem.W.Frag} {tg : Expr} (z : Addr) (lo : Int) (n : Nat) : Turn P w K tg (Itr lo n) [z] z (fun i h => IsLongIter h z (lo + (i : Nat) * 1) ((n : Int) - (i : Nat)) 1) := by
  refine ⟨List.mem_singleton.mpr rfl, fun i h st b hb => ?_, fun i h h2 st k => k z (List.mem_singleton.mpr rfl) _ st, ?_, ?_, fun A i s Q E st h => wpAny_pyIter_longiter st h⟩
  · rw [List.mem_singleton.mp hb]
    exact ⟨_, st, fun v c => by cases (show Data.fields _ = Data.cell v from c)⟩
  · rintro X rfl rfl rfl hc i pins s σ H E I hf st hg
    have f := hf z (List.mem_singleton.mpr rfl)
    refine (Walks.longrange (prog := X.prog) (w := X.w) (I.ok.hd hc) z lo 1 n).item i s _ _ hg st fun v h2 tk hv st2 kk => ?_
    obtain ⟨t, rfl⟩ := hv
    have J : Inv X pins σ H { s with heap := h2, toks := tk } := I.turned (fun b o hb e => kk b o (fun m => hb (List.mem_singleton.mp m)) e) f.1 f.2.1 f.2.2.2.1 f.2.2.2.2.1 f.2.2.2.2.2
    refine ⟨_, rfl, go_of (s := { s with heap := h2, toks := tk }) (n := "longrange_iterator") st2 rfl rfl (by decide) ⟨.int (lo + i), H, J, ⟨t, by rw [Int.mul_one]⟩, ⟨rfl, rfl⟩, st2, fun b hb => (hf b hb).1⟩⟩
  · rintro X rfl rfl rfl hc i pins s σ H E I hf st hg
    have f := hf z (List.mem_singleton.mpr rfl)
    have m : n ≤ i := hg
    exact wpAny_pyNext_long_end (I.ok.hd hc) st (by omega) fun h2 k => ⟨rfl, I.turned (t' := s.toks) (fun b o hb e => k b o hb e) f.1 f.2.1 f.2.2.2.1 f.2.2.2.2.1 f.2.2.2.2.2⟩
section
variable {X : Cx} {tg a b : Expr} {t : TA} {p pos : Pos}
theorem rsz (lo hi : Int) : Builtin.Range.rangeSize lo hi 1 = ((hi - lo).toNat : Int) := by
  rw [rangeSize_one]
  split <;> omega
theorem wide_it {pins : List (Addr × Obj)} {σ : L2.St} {H : Hp} {s : Shared} {R : It → Hp → Prop} {E : Value → Shared → Prop} {lo hi : Int} {t u v : Tok} {tk : Nat} (I : Inv X pins σ H s) (q : R (Itr lo (hi - lo).toNat) H) :
    wpAny (model X.prog X.w) X.A (pyIter (.ref s.heap.objs.size)) (PIE X pins σ tg R) E { s with heap := s.heap.push { cls := .type "range", data := .fields #[.int lo t, .int hi u, .int 1 v] }, toks := tk } := by
  have J : Inv X pins σ H { s with heap := s.heap.push { cls := .type "range", data := .fields #[.int lo t, .int hi u, .int 1 v] }, toks := tk } := I.kept fun b o e => Heap.get?_push_of_some _ e
  have z0 : lo + ((0 : Nat) : Int) * 1 = lo := by omega
  have z1 : (((hi - lo).toNat : Nat) : Int) - ((0 : Nat) : Int) = Builtin.Range.rangeSize lo hi 1 := by
    rw [rsz]
    omega
  by_cases sm : Builtin.Range.small lo hi 1 = true
  · refine wpAny_pyIter_range (IsRange.new ..) sm ⟨(s.heap.push { cls := .type "range", data := .fields #[.int lo t, .int hi u, .int 1 v] }).objs.size, [(s.heap.push { cls := .type "range", data := .fields #[.int lo t, .int hi u, .int 1 v] }).objs.size], _, _, H, rfl,
      J.kept (t' := tk) fun b o e => Heap.get?_push_of_some _ e, turn_range _ lo (hi - lo).toNat, ?_, fun b hb => ?_, q⟩
    · show IsRangeIter _ _ (lo + ((0 : Nat) : Int) * 1) ((((hi - lo).toNat : Nat) : Int) - ((0 : Nat) : Int)) 1
      rw [z0, z1]
      exact Heap.get?_push_size _ rfl
    · rw [List.mem_singleton.mp hb]
      exact J.fpOk (Nat.le_refl _) (J.hok.fresh (Nat.le_refl _))
  · refine wpAny_pyIter_longrange (IsRange.new ..) (Bool.not_eq_true _ ▸ sm) ⟨(s.heap.push { cls := .type "range", data := .fields #[.int lo t, .int hi u, .int 1 v] }).objs.size, [(s.heap.push { cls := .type "range", data := .fields #[.int lo t, .int hi u, .int 1 v] }).objs.size], _, _, H, rfl,
      J.kept (t' := tk) fun b o e => Heap.get?_push_of_some _ e, turn_wide _ lo (hi - lo).toNat, ?_, fun b hb => ?_, q⟩
    · show IsLongIter _ _ (lo + ((0 : Nat) : Int) * 1) ((((hi - lo).toNat : Nat) : Int) - ((0 : Nat) : Int)) 1
      rw [z0, z1]
      exact Heap.get?_push_size _ rfl
    · rw [List.mem_singleton.mp hb]
      exact J.fpOk (Nat.le_refl _) (J.hok.fresh (Nat.le_refl _))
def iRngW (t : TA) : TI := fun σ H R => t σ H fun vs H1 => ∃ i j : Int, vs = [.int i, .int j] ∧ R (Itr i (j - i).toNat) H1
theorem pi_range2W (hg : Gl X "range") (hm : X.mg "range" = none) (ha : PA X [a, b] t) (h1 : starEach [a, b] X.env = [(false, eval a X.env), (false, eval b X.env)] := by rfl) (h2 : starEach [b] X.env = [(false, eval b X.env)] := by rfl) :
    PI X tg (.Call (.Name "range" p) [a, b] [] pos) (iRngW t) := by
  refine ⟨fun pins s σ H R I h => Call_ (ld_blt I hg hm boot_range (PyProof.Rows.callWith_type1 (thn (ha.run pos pins s σ H _ I h) fun us s1 hx => ?_) (by rw [h1, h2]) (by rw [h2]; rfl)))⟩
  obtain ⟨vs, H1, J, r, i, j, rfl, q⟩ := hx
  obtain ⟨u, v, rfl, ⟨c, rfl⟩, ⟨d, rfl⟩⟩ : ∃ u v, us = [u, v] ∧ RelV (.int i) u ∧ RelV (.int j) v := by
    cases r with
    | cons r1 r => cases r with
      | cons r2 r => cases r; exact ⟨_, _, rfl, r1, r2⟩
  exact call_range_2 (wide_it J q)
end
/-! ## parts of a list -/
theorem cut_from (xs : List V) (k : Nat) : cutV xs (some (k : Int)) none = xs.drop k := by
  unfold cutV
  rw [HT.sIx_nat, HT.sIx_none]
  rcases Nat.le_total k xs.length with h | h
  · rw [Nat.min_eq_left h]
    exact List.take_of_length_le (by rw [List.length_drop]; omega)
  · rw [Nat.min_eq_right h, List.drop_eq_nil_of_le (Nat.le_refl _), List.drop_eq_nil_of_le h]
    simp
theorem cut_to (xs : List V) (k : Nat) : cutV xs none (some (k : Int)) = xs.take k := by
  unfold cutV
  rw [HT.sIx_nat, HT.sIx_none, List.drop_zero, Nat.sub_zero]
  rcases Nat.le_total k xs.length with h | h
  · rw [Nat.min_eq_left h]
  · rw [Nat.min_eq_right h, List.take_of_length_le (Nat.le_refl _), List.take_of_length_le h]
theorem cut_mid (xs : List V) (j k : Nat) : cutV xs (some (j : Int)) (some (k : Int)) = (xs.drop j).take (k - j) := by
  unfold cutV
  rw [HT.sIx_nat, HT.sIx_nat]
  rcases Nat.le_total j xs.length with h | h
  · rw [Nat.min_eq_left h]
    rcases Nat.le_total k xs.length with h2 | h2
    · rw [Nat.min_eq_left h2]
    · rw [Nat.min_eq_right h2, List.take_of_length_le (by rw [List.length_drop]; omega), List.take_of_length_le (by rw [List.length_drop]; omega)]
  · rw [Nat.min_eq_right h, List.drop_eq_nil_of_le (Nat.le_refl _), List.drop_eq_nil_of_le h]
    simp
theorem iv_drop (ns : List Int) (k : Nat) : (iv ns).drop k = iv (ns.drop k) := by simp
theorem iv_take (ns : List Int) (k : Nat) : (iv ns).take k = iv (ns.take k) := by simp
/-! ## a op b op c op d -/
def tChain3 (r r' r'' : R2) (ta tb tc td : TE) : TE := fun σ H Q => ta σ H fun x H1 => tb σ H1 fun y H2 => r x y H2 fun z H3 => ∃ k, z = .bl k ∧
  (if k = true then tc σ H3 fun v H4 => r' y v H4 fun z' H5 => ∃ k', z' = .bl k' ∧ (if k' = true then td σ H5 fun u H6 => r'' v u H6 Q else Q (.bl false) H5) else Q (.bl false) H3)
section
variable {X : Cx} {a b c d : Expr} {ta tb tc td : TE} {pos : Pos} {op op' op'' : CmpOp} {r r' r'' : R2}
theorem pt_chain3 (h1 : OpR X (compareOp op) r) (h2 : OpR X (compareOp op') r') (h3 : OpR X (compareOp op'') r'') (ha : PE X a ta) (hb : PE X b tb) (hc : PE X c tc) (hd : PE X d td)
    (hm : lastMarks [op, op', op''] [b, c, d] = false := by with_unfolding_all rfl) : PT X (.Compare a [op, op', op''] [b, c, d] pos) (tTest (tChain3 r r' r'' ta tb tc td)) := by
  refine ⟨fun pins s σ H Q I h => isTrue_chain (thn (ha.run pins s σ H _ I h) fun v s1 ⟨x, H1, I1, r1, q1⟩ => test_link (thn (hb.run pins s1 σ H1 _ I1 q1) fun u s2 ⟨y, H2, I2, r2, q2⟩ =>
    thn (h1 pins s2 σ H2 x y v u _ I2 r1 r2 q2) fun e s3 ⟨z, H3, I3, r3, k, ez, q3⟩ => ?_)) hm⟩
  subst ez
  cases r3
  refine wpAny_truthy_bool ?_
  cases k with
  | false =>
    obtain ⟨k2, e2, q2⟩ := q3
    cases e2
    exact ite_ff ⟨H3, I3, q2⟩
  | true =>
    refine ite_tt (test_link (thn (hc.run pins s3 σ H3 _ I3 q3) fun w4 s4 ⟨y4, H4, I4, r4, q4⟩ => thn (h2 pins s4 σ H4 y y4 u w4 _ I4 r2 r4 q4) fun e5 s5 ⟨z5, H5, I5, r5, k5, e5', q5⟩ => ?_))
    subst e5'
    cases r5
    refine wpAny_truthy_bool ?_
    cases k5 with
    | false =>
      obtain ⟨k2, e2, q2⟩ := q5
      cases e2
      exact ite_ff ⟨H5, I5, q2⟩
    | true =>
      refine ite_tt (test_last (thn (hd.run pins s5 σ H5 _ I5 q5) fun w6 s6 ⟨y6, H6, I6, r6, q6⟩ => thn (h3 pins s6 σ H6 y4 y6 w4 w6 _ I6 r4 r6 q6) fun e7 s7 ⟨z7, H7, I7, r7, k7, e7', q7⟩ => ?_))
      subst e7'
      cases r7
      exact wpAny_truthy_bool ⟨H7, I7, q7⟩
end
end Sq


set_option Elab.async false
set_option maxRecDepth 100000
set_option maxHeartbeats 4000000
namespace Sq
open PySem PySem.Spec PyProof.Rows L2
/-! ## an own exception's __init__(self, value): super().__init__(text); self.value = value -/
section
open PySem.W PySem.Calls
variable {prog : Program} {w : World} {A : Around} {E : Value → Shared → Prop} {h : Heap} {g : Array GenState} {d : Drawn} {t : Nat} {os : OsState}
variable {nm q : Str} {C N : Addr} {bs bm : List Value} {hdct : Bool} {sn : List Str} {sub : List Value} {ab : Bool} {col : Option Bool} {dd : Option Addr} {k0 k1 k2 k3 k5 : Option Value}
/-- ValueError.__init__, bound to e, called -/
theorem call_vw {u e t0 : Addr} {rest : List Value} {Q : Value → Shared → Prop}
    (hC : h.get? C = some (excClassObj nm q C N bs bm hdct sn sub ab col dd k0 k1 k2 k3 k5 "ValueError.__new__")) (he : h.get? e = some (HandSPX.excO C t0)) (hu : h.get? u = some (kxs_mw "ValueError.__init__" e)) (hrest : rest.length ≤ sizeLine)
    (hq : ∀ h' t1, (∀ b o, b ≠ e → h.get? b = some o → h'.get? b = some o) → h'.get? e = some (HandSPX.excO C t1) → Q .none ⟨h', g, d, t, os⟩) :
    wpAny (model prog w) A (call (.ref u) rest) Q E ⟨h, g, d, t, os⟩ := by
  refine wpAny_call (codeAny_of_tree ?_)
  show wpAny _ A.in1 (callAny (.ref u) ⟨rest, []⟩) _ _ _
  simp only [callAny]
  refine wpAny_bind (wpAny_load hu ?_)
  simp only [kxs_mw, show (Value.type "method-wrapper" == Value.type "method" || Value.type "method-wrapper" == Value.type "builtin_function_or_method" || Value.type "method-wrapper" == Value.type "method-wrapper") = true by decide, if_true]
  refine W.KFB.if_so (by decide) ?_
  refine wpAny_bind (check_bound_init F.excBase_ValueError.toExcCallFacts hC he rfl ?_)
  refine wpAny_bind (wpAny_pure (wpAny_pure ⟨Code.quiet_builtin _ (by decide +kernel), codeAny_builtin F.excBase_ValueError.initEntry ?_⟩))
  exact exc_init_tree (cls := .ref C) (t0 := t0) (dv := none) (c2 := .none) (c3 := .none) (b4 := .bool false) he hrest fun h' k e' _ => hq h' h.objs.size k e'
end

def spXI (C : Addr) : Sp := fun vs H Q _ => ∃ (a : Addr) (v : V), vs = [.ref a, v] ∧ H a = some (exo a C none) ∧ ∀ dx, H dx = none → dx ≠ a → Q .non (upd (upd H dx (exd dx [("value", v)])) a (exo a C (some dx)))
/-- what the written part says of such an __init__ -/
structure XIn (P : Program) (K : PySem.W.Frag) (C f cc cda : Addr) (qual file : Str) : Prop where
  code : PySem.W.codeIn K (.ref cda) qual = true
  cell : ∃ cl cld csl, K.lookup cc = some ⟨cl, cld, .cell (some (.ref C)), csl⟩
  rec_ : ∃ ccl cdd vs ccs tf, K.lookup cda = some ⟨ccl, cdd, .fields vs, ccs⟩ ∧ vs[2]? = some (.str file tf)
  file : ((P.main.file : Str) == file) = true
  top : (P.main.scope.names.lookup ("super" : Str)).isSome = false
  opq : PySem.W.nsIn K PySem.cStatics "thirdparty.any" = some none
  sup : PySem.W.ks_superIn K C C "__init__" = some (some (.builtin "ValueError.__init__"))
  veb : PySem.W.subIn K (.ref C) (.type "ValueError") = some true
  self : PySem.W.mroIn K C (.ref C) = some true
  val : PySem.W.findIn K (.ref C) "value" = some none
abbrev xiScope : Scope := ⟨.function, [("self", .local), ("value", .local), ("__class__", .free), ("super", .globalImplicit)], false, false, []⟩
abbrev xiArgs (q0 q1 : Pos) : Arguments := { posonlyargs := [], args := [{ arg := "self", annotation := none, pos := q0 }, { arg := "value", annotation := none, pos := q1 }], vararg := none, kwonlyargs := [], kw_defaults := [], kwarg := none, defaults := [] }
abbrev xiBody (m : Str) (p0 p1 p2 p3 p4 p5 p6 p7 p8 p9 : Pos) : List Stmt := [.Expr (.Call (.Attribute (.Call (.Name "super" p0) [] [] p1) "__init__" p2) [.Constant (.str m) 0 p3] [] p4) p5, .Assign [.Attribute (.Name "self" p6) "value" p7] (.Name "value" p8) p9]
theorem xi_S : NdefX.NScope ["self", "value", "__class__"] ["self", "value"] ["__class__"] xiScope := NdefX.nscope_by (by decide +kernel)
/-- how the call of super().__init__ begins (by rfl, once the places are known) -/
def XiCall (qual : Str) (f cc cda : Addr) (m : Str) (p0 p1 p2 p3 p4 : Pos) : Prop := ∀ L : Addr, eval (.Call (.Attribute (.Call (.Name "super" p0) [] [] p1) "__init__" p2) [.Constant (.str m) 0 p3] [] p4) (PySem.W.ksEnv qual xiScope L f (.ref cda) cc) = (do
  let ov ← attributeBase (.Call (.Name "super" p0) [] [] p1) "__init__" (PySem.W.ksEnv qual xiScope L f (.ref cda) cc) (eval (.Call (.Name "super" p0) [] [] p1) (PySem.W.ksEnv qual xiScope L f (.ref cda) cc))
  standAt p2.atName
  let (g, first) ← holding [ov] (getMethod ov "__init__" (do return (← importBound (.Call (.Name "super" p0) [] [] p1) (PySem.W.ksEnv qual xiScope L f (.ref cda) cc)).getD true))
  callWith p4 g first (backTo p4 (starEach [.Constant (.str m) 0 p3] (PySem.W.ksEnv qual xiScope L f (.ref cda) cc))) [])
theorem ok_xi {P : Program} {w : World} {K : PySem.W.Frag} {mg : Str → Option Value} {base : Heap} {CX : CXT} {k : Nat} {C f cc cda : Addr} {qual file : Str} {kV doc pm ct oc : Value} {an od : Option Addr} {osl : Array (Option Value)}
    {p0 p1 p2 p3 p4 p5 p6 p7 p8 p9 q0 q1 : Pos} {m : Str} (T : OexC K C) (XI : XIn P K C f cc cda qual file)
    (lk : K.lookup f = some ⟨oc, od, .func (PySem.W.ksFn "__init__" qual (xiArgs q0 q1) (xiBody m p0 p1 p2 p3 p4 p5 p6 p7 p8 p9) xiScope .none kV doc pm an (.ref cda) ct cc), osl⟩) (hms : mg "super" = none) (he : XiCall qual f cc cda m p0 p1 p2 p3 p4) :
    FnOk P w K mg base CX (k + 1) f (PySem.W.ksFn "__init__" qual (xiArgs q0 q1) (xiBody m p0 p1 p2 p3 p4 p5 p6 p7 p8 p9) xiScope .none kV doc pm an (.ref cda) ct cc) ["self", "value"] (spXI C) := by
  refine ⟨fun vs H Q E h => by obtain ⟨a, v, rfl, _⟩ := h; rfl, fun A outer s H args us vs Q E hr e0 hbind r hsp => ?_⟩
  obtain ⟨a, v, rfl, ha, hq⟩ := hsp
  have KX : K.In s.heap := e0.mod.kin.keeps fun b o e => (e0.bs b o e).1
  have lim : s.heap.NoLimit := e0.mod.nolimit.keeps fun b o e => (e0.bs b o e).1
  obtain ⟨cl, cld, csl, hcell⟩ := XI.cell
  obtain ⟨ccl, cdd, cvs, ccs, tf, hcode, hvs⟩ := XI.rec_
  refine PySem.ks_codeAny_call_defAt (binds := (["self", "value"] : List Str).zip us) hr.depth (KX _ _ lk) rfl lim (PySem.W.codeRec_of KX XI.code) rfl hbind xi_S.nocell (fun ⟨n, _⟩ hy => xi_S.par n (List.of_mem_zip hy).1) (fun h1 hns kp => ?_) xi_S.co xi_S.gen xi_S.kind
  have S := xi_S
  let F : NdefX.NF := ⟨"__init__", qual, xiArgs q0 q1, xiBody m p0 p1 p2 p3 p4 p5 p6 p7 p8 p9, xiScope, [("__class__", cc)], cda⟩
  have cells : NdefX.CellsAt F.cl ["__class__"] [none] s.heap H := by
    have one : ∀ y c, F.cl.lookup y = some c → y = ("__class__" : Str) ∧ c = cc := fun y c e => by
      have e' : ([("__class__", cc)] : List (Str × Addr)).lookup y = some c := e
      by_cases z : y = ("__class__" : Str)
      · subst z
        simp [List.lookup] at e'
        exact ⟨rfl, e'.symm⟩
      · have z2 : (y == ("__class__" : Str)) = false := by simpa using z
        simp [List.lookup, z2] at e'
    refine ⟨rfl, fun y c e => ?_, fun x y c e1 e2 => ?_, fun i y e => ?_⟩
    · rw [(one y c e).2]
      exact ⟨(e0.bs _ _ (e0.mod.kin _ _ hcell)).2, _, ⟨_, KX _ _ hcell, rfl⟩⟩
    · rw [(one x c e1).1, (one y c e2).1]
    · cases i with
      | zero =>
        obtain rfl : ("__class__" : Str) = y := by simpa using e
        exact ⟨cc, by simp [F, List.lookup], fun v h => by simp at h⟩
      | succ i => simp at e
  have I : Inv (NdefX.ncx CX P w K mg base ["self", "value", "__class__"] F f A outer s H E) [] (NdefX.startF ["self", "value", "__class__"] [.ref a, v] [none]) H { s with heap := h1, toks := s.toks + ((["self", "value"] : List Str).zip us).length } :=
    NdefX.inv_startN (F := F) S hr.hd e0 rfl r cells hns kp
  have K1 : K.In h1 := KX.keeps kp
  show PySem.wpAt (model P w) (A.deeper (PySem.W.ksEnv qual xiScope s.heap.objs.size f (.ref cda) cc)) (.func (xiBody m p0 p1 p2 p3 p4 p5 p6 p7 p8 p9) (PySem.W.ksEnv qual xiScope s.heap.objs.size f (.ref cda) cc)) (execs (xiBody m p0 p1 p2 p3 p4 p5 p6 p7 p8 p9) (PySem.W.ksEnv qual xiScope s.heap.objs.size f (.ref cda) cc)) _ _ _
  refine ks_wpAt_execs_cons (ks_wpAt_Expr_any (ks_wpAt_MethodCall ?_ (he _)))
  refine ks_wpAt_super_base (env := NdefX.envF F f s.heap.objs.size) rfl rfl (by decide) rfl (K1 _ _ lk) rfl rfl rfl (K1 _ _ hcode) rfl hvs XI.file XI.top ?_
  obtain ⟨nm, q, N, bs, bm, sn, sub, ab, col, dd, k0, k1, k2, k3, k5, hC, hbm⟩ := T.cls
  have hcl : PySem.W.clsIn K C = some { name := nm, bases := bs, mro := .ref C :: bm, ns := N, qualname := q, hasDict := true, slotNames := sn, subclasses := sub, abstract := ab, collection := col, hasDel := false } := by unfold PySem.W.clsIn; rw [hC] <;> rfl
  obtain ⟨mb, hb1, hb2⟩ := I.mod.blt
  obtain ⟨t1, hoe⟩ := exo_at I.hok ha
  have hself : (((["self", "value"] : List Str).zip us).reverse.lookup ("self" : Str)) = some (Value.ref a) := by
    cases r with
    | cons r1 r => cases r with
      | cons r2 r =>
        cases r
        obtain rfl := r1
        rfl
  refine PySem.W.ks_loadName_global rfl rfl (Calls.loadGlobal_builtin (I.mod.glob.keeps I.bk) hms (hb1.keeps I.bk) ((hb2 _ (by decide)).trans PyProof.Rows.Boot.«super») ⟨rfl, ?_⟩)
  refine wpAny_loadName_free rfl rfl rfl ⟨_, K1 _ _ hcell, rfl⟩ ?_
  refine wpAny_loadName_local rfl rfl hns hself ?_
  refine ks_wpAny_isType_cls (K1 _ _ hC) rfl ⟨rfl, ?_⟩
  refine ks_wpAny_call_super (K1 _ _ hC) rfl hoe rfl (fun c e => by cases e) (PySem.W.looks_mroIn K1 XI.self) (fun h2 e2 kp2 => ?_)
  have I2 := I.kept (t' := s.toks + ((["self", "value"] : List Str).zip us).length) kp2
  have K2 : K.In h2 := K1.keeps kp2
  obtain ⟨t2, hoe2⟩ := exo_at I2.hok ha
  have at2 : PySem.W.InstAt h2 a { cls := .ref C, dict := none, data := .fields #[.ref t2, .none, .none, .none, .bool false, .none] } C none := ⟨hoe2, rfl, rfl, trivial⟩
  have hsup : PySem.W.alongIn K "__init__" (((.ref C :: bm).dropWhile (· != Value.ref C)).drop 1) = some (some (.builtin "ValueError.__init__")) := by
    have z := XI.sup
    unfold PySem.W.ks_superIn at z
    rw [hcl] at z
    exact z
  refine PySem.W.kxs_getMethod PySem.W.kxs_ValueError e2 (PySem.W.looks_opaque K2 XI.opq) (l₀ := .ref C :: bm) ((PySem.W.looks_clsIn K2 hcl).andThen .now) rfl K2 hsup (at2.type.andThen (PySem.W.looks_subIn K2 XI.veb)) (PySem.W.ks_ne K2 at2 hcl) (by decide) ?_
  have I3 := I2.kept (h' := h2.push (PySem.W.kxs_mw "ValueError.__init__" a)) (t' := s.toks + ((["self", "value"] : List Str).zip us).length + 1) fun b o e => Heap.get?_push_of_some _ e
  refine PySem.W.kxs_callWith (i := "ValueError.__init__") (x := a) rfl (Calls.evalArgs_plain (Calls.spliced_cons (Calls.Constant_str (pos := p3) (k := 0) (Calls.spliced_nil ⟨Heap.get?_push_at rfl rfl, ?_⟩))))
  have I4 := I3.tok (s.toks + ((["self", "value"] : List Str).zip us).length + 1 + 1)
  obtain ⟨t4, hoe4⟩ := exo_at I4.hok ha
  refine call_vw (t0 := t4) (Heap.get?_push_of_some _ (K2 _ _ hC)) hoe4 (Heap.get?_push_at rfl rfl) (by simp [sizeLine_eq]) fun h5 t5 k5 e5 => ?_
  have J0 := I4.write (h' := h5) (t' := s.toks + ((["self", "value"] : List Str).zip us).length + 1 + 1) (x := a) (e := a) (o := exo a C none) (by rw [ha]; exact True.intro) (.inl rfl) k5 ⟨_, e5⟩ (exo_ok e5)
  have eu : upd H a (exo a C none) = H := by
    funext b
    by_cases hb : b = a
    · rw [hb, upd_same, ha]
    · rw [upd_ne hb]
  rw [eu] at J0
  show PySem.wpAt _ _ _ (execs [.Assign [.Attribute (.Name "self" p6) "value" p7] (.Name "value" p8) p9] _) _ _ _
  refine wpAt_of_wpAny ?_
  have pst : PSs (NdefX.ncx CX P w K mg base ["self", "value", "__class__"] F f A outer s H E) [.Assign [.Attribute (.Name "self" p6) "value" p7] (.Name "value" p8) p9] (tOst K "value" (tVar 0) (tVar 1)) := pss_one (ps_ost (pv 0) (pv 1) rfl)
  refine wpAny_mono (pst.run [] _ _ H { nx := fun _ H' => Q .non H', rt := Q } J0 ⟨v, rfl, .ref a, rfl, a, C, rfl, T, XI.val, .inl ⟨ha, fun dx n ne => hq dx n ne⟩⟩) (fun fl s' hs => ?_) fun e s' hs => hs
  cases fl with
  | ret u =>
    obtain ⟨v, σ', H', J, rv, q⟩ := hs
    exact ⟨v, H', J.os, J.bare, J.base, J.hok, rv, q⟩
  | next =>
    obtain ⟨σ', H', J, q⟩ := hs
    exact ⟨.non, H', J.os, J.bare, J.base, J.hok, rfl, q⟩
  | brk =>
    obtain ⟨_, _, _, q⟩ := hs
    exact False.elim q
  | cont =>
    obtain ⟨_, _, _, q⟩ := hs
    exact False.elim q
end Sq


set_option Elab.async false
set_option maxRecDepth 100000
set_option maxHeartbeats 4000000
namespace Sq
open PySem PySem.Spec PyProof.Rows L2
/-! ## an exception that has been caught and is kept -/
/-- at a: an exception of the class cls with the dict d, at rest -/
def Xo (a : Addr) (cls : Value) (d : Option Addr) : HO := .ext fun h => ∃ (oe : Obj) (vs : Array Value), h.get? a = some oe ∧ Zc cls d oe ∧ oe.data = .fields vs
theorem xo_ok {P : Program} {w : World} {H : Hp} {h : Heap} {a : Addr} {cls : Value} {d : Option Addr} {oe : Obj} {vs : Array Value} (e : h.get? a = some oe) (z : Zc cls d oe) (f : oe.data = .fields vs) : ObjOk P w H h a (Xo a cls d) :=
  ⟨⟨oe, vs, e, z, f⟩, ⟨_, e⟩, fun _ _ ⟨o2, v2, e2, z2, f2⟩ k => ⟨o2, v2, k _ e2, z2, f2⟩⟩
theorem xo_at {P : Program} {w : World} {H : Hp} {h : Heap} {a : Addr} {cls : Value} {d : Option Addr} (hok : HOk P w H h) (e : H a = some (Xo a cls d)) : ∃ (oe : Obj) (vs : Array Value), h.get? a = some oe ∧ Zc cls d oe ∧ oe.data = .fields vs := by
  have x : ObjOk P w H h a (.ext fun h => ∃ (oe : Obj) (vs : Array Value), h.get? a = some oe ∧ Zc cls d oe ∧ oe.data = .fields vs) := hok a _ e
  exact x.1
section
variable {X : Cx} {pins : List (Addr × Obj)} {σ : L2.St} {H : Hp} {s : Shared} {a : Addr} {cls : Value} {d : Option Addr} {oe : Obj} {vs : Array Value}
/-- an object that is younger than the entry and that nothing holds is kept from now on -/
theorem track (J : Inv X pins σ H s) (e : s.heap.get? a = some oe) (na : H a = none) (nL : a ≠ X.env.locals) (np : ∀ p ∈ X.pn ++ pins, p.1 ≠ a) (young : X.s_0.heap.get? a = none) (z : Zc cls d oe) (f : oe.data = .fields vs) : Inv X pins σ (upd H a (Xo a cls d)) s := by
  have old : ∀ {b : Addr} {o : Obj}, X.s_0.heap.get? b = some o → b ≠ a := fun {b o} q c => by
    rw [c, young] at q
    cases q
  have set : ∀ {b : Addr} {o : HO}, H b = some o → b ≠ a := fun {b o} q c => by
    rw [c, na] at q
    cases q
  refine ⟨J.ok, J.os, J.bare, ⟨J.base.keep, J.base.slot, fun b o q n x => ?_, J.base.there, fun b xs q => ?_, fun b o v q => ?_, fun b ps q => ?_⟩, J.loc, J.cell, ?_, fun y c q => ?_, fun p hp => ?_, fun b o q => ?_, J.len⟩
  · rw [upd_ne (old q)]
    exact J.base.free b o q n x
  · have z := J.base.tups b xs q
    rw [upd_ne (set z)]
    exact z
  · have z := J.base.frzs b o v q
    rw [upd_ne (set z)]
    exact z
  · obtain ⟨more, z⟩ := J.base.tbls b ps q
    exact ⟨more, by rw [upd_ne (set z)]; exact z⟩
  · rw [upd_ne (Ne.symm nL)]
    exact J.free
  · have nc : c ≠ a := fun h => by
      obtain ⟨w, o, e2, d2⟩ := J.cell y c q
      rw [h, e] at e2
      cases e2
      rw [f] at d2
      cases d2
    rw [upd_ne nc]
    exact J.freeC y c q
  · obtain ⟨e1, n1, r1⟩ := J.pin p hp
    exact ⟨e1, by rw [upd_ne (np p hp)]; exact n1, r1⟩
  · by_cases hb : b = a
    · subst hb
      rw [upd_same] at q
      cases q
      exact xo_ok e z f
    · rw [upd_ne hb] at q
      have own : ∀ c, H c = some (.own b) → c ≠ a := fun c hc h => by
        rw [h, na] at hc
        cases hc
      exact (J.hok b o q).stay (fun c v _ k => k) (fun c hc => by rw [upd_ne (own c hc)]; exact hc) fun c xs hc => by rw [upd_ne fun h => by rw [h, na] at hc; cases hc]; exact hc
end

/-- what is wished behind the suite of 'except x as n' -/
def keepD (D : Ends) (i : Nat) : Ends where
  nx := fun τ G => D.nx (τ.set i none) G
  rt := D.rt
  bk := fun τ G => D.bk (τ.set i none) G
  ct := fun τ G => D.ct (τ.set i none) G
def wKeep (K : PySem.W.Frag) (c : Value) (i : Nat) (ts : Addr → Value → Option Addr → TS) (Wout : WX) (D : Ends) : WX := fun cls d σ H => ∃ b, PySem.W.exmOne K cls c = some b ∧
  (b = true → ∀ a, H a = none → ts a cls d (keepD D i) (σ.set i (some (.ref a))) (upd H a (Xo a cls d))) ∧ (b = false → Wout cls d σ H)
/-- into the suite and out of it -/
theorem suite_in {X : Cx} {pins : List (Addr × Obj)} {σ : L2.St} {H : Hp} {s : Shared} {a : Addr} (I : Inv X pins σ H s) : Inv (X.suite a (X.pn ++ pins)) [] σ H s :=
  ⟨I.ok.suite _ _, I.os, I.bare, I.base, I.loc, I.cell, I.free, I.freeC, fun p hp => I.pin p (by rw [List.append_nil] at hp; exact hp), I.hok, I.len⟩
theorem suite_out {X : Cx} {pins : List (Addr × Obj)} {σ : L2.St} {H : Hp} {s : Shared} {a : Addr} (I : Inv (X.suite a (X.pn ++ pins)) [] σ H s) (ok : X.Ok) : Inv X pins σ H s :=
  ⟨ok, I.os, I.bare, I.base, I.loc, I.cell, I.free, I.freeC, fun p hp => I.pin p (by rw [List.append_nil]; exact hp), I.hok, I.len⟩
section
variable {X : Cx} {x n : Str} {c : Value} {i : Nat} {body rest : List Stmt} {st : Stmt} {np pos pos2 : Pos} {tb : WX → TS} {ts : Addr → Value → Option Addr → TS} {Wout : WX}
/-- as ps_try_as; the exception stays behind the suite -/
theorem ps_try_keep (hs : X.stack = X.env :: X.outer) (hf : X.env.frame = some X.env.locals) (hN : X.N.Nodup) (hi : X.N[i]? = some n) (hln : X.env.kindOf n = some .local) (hex : X.ex = []) (hc : Names X x c) (tk : Takes X Wout)
    (hb : ∀ (W : WX) (pn : List (Addr × Obj)) (xe : Value → Shared → Prop), Takes (X.tr pn xe) W → PassesOwn (model X.prog X.w) X.A X.env xe → PSs (X.tr pn xe) body (tb W))
    (hsu : ∀ (a : Addr) (cls : Value) (d : Option Addr) (pn : List (Addr × Obj)), PSs (X.suite a pn) (st :: rest) (ts a cls d)) :
    PS X (.Try body [.ExceptHandler (some (.Name x np)) (some n) (st :: rest) pos2] [] [] pos) (fun D σ H => tb (wKeep X.K c i ts Wout D) D σ H) := by
  refine ⟨fun pins s σ H D I h => wpAny_Try_except ?_⟩
  have ok := I.ok
  have hfr : X.A.frames = some (X.env :: X.outer) := by rw [ok.frames, hs]
  have hlc : Loc X.env.scope n := .inl hln
  have seen : ∀ {C : Heap} {h : Heap} {q : Addr} {o : Obj} {vs : Array Value}, h.FunFrames C (X.env :: X.outer) → h.get? q = some o → o.data = .fields vs → q ∉ frs (X.env :: X.outer) := fun {C h q o vs} ff e dd hm => by
    obtain ⟨_, o2, e2, nn⟩ := ff.mem hm
    rw [e] at e2
    cases e2
    exact nn _ dd
  refine wpAny_mono ((hb (wKeep X.K c i ts Wout D) (X.pn ++ pins) _ (fun u s2 air => ?_) PassesOwn.looking).run [] s σ H D (I.toTry _) h) (fun fl s2 q => ?_) fun _ _ z => z
  · obtain ⟨a, G, sI, pins2, τ, H2, cls, d, rfl, J2, nb, up, sky, na, os, ag, b, hb1, yes, no⟩ := air
    have J : Inv X pins τ H2 sI := J2.ofTry ok
    rw [hs] at sky
    refine Sky.land Zc.steady hfr hf sky fun h3 l3 up3 => ?_
    have J3 : Inv X pins τ H2 { s2 with heap := h3 } := J.landed nb l3.1 (up.trans up3) os ag
    obtain ⟨o3, v3, e3, z3, d3⟩ := l3.there
    have out := seen l3.2.2.1 e3 d3
    have nL : a ≠ X.env.locals := fun z => out (List.mem_filterMap.mpr ⟨X.env, List.mem_cons_self, by rw [hf, z]⟩)
    have nF : a ∉ X.fs := fun hm => by
      obtain ⟨e, he, q⟩ := List.mem_filterMap.mp hm
      exact out (List.mem_filterMap.mpr ⟨e, List.mem_cons_of_mem _ he, q⟩)
    have young : sI.heap.get? a = none := by
      cases q : sI.heap.get? a with
      | none => rfl
      | some o =>
        have z := nb a o q (by rw [hs]; exact out)
        rw [l3.2.1] at z
        cases z
    have young0 : X.s_0.heap.get? a = none := by
      cases q : X.s_0.heap.get? a with
      | none => rfl
      | some o =>
        obtain ⟨o2, z⟩ := J.base.there a o q (by rw [hex]; simp)
        rw [young] at z
        cases z
    have off : ∀ p ∈ X.pn ++ pins, p.1 ≠ a := fun p hp z => by
      have y := (J.pin p hp).1
      rw [z, young] at y
      cases y
    have S3 := J3.suite e3 d3 na nL nF
    have LT : PySem.W.Looks (model X.prog X.w) h3 (typeOf (.ref a)) cls := fun _ _ _ s k q => wpAny_typeOf_ref (k _ _ e3) (by rw [z3.1]; exact q)
    have LM := PySem.W.exm_one (M := model X.prog X.w) J3.kIn LT hb1
    have ask : ∀ {Q2 : Value → Shared → Prop} {E2 : Value → Shared → Prop}, Q2 c { s2 with heap := h3 } → wpAny (model X.prog X.w) (X.A.mark (some (.ref a))) (eval (.Name x np) X.env) Q2 E2 { s2 with heap := h3 } := fun {Q2 E2} q => by
      obtain ⟨hg, hdb, hm | ⟨hm, hv, hnn⟩⟩ := hc
      · exact ld_glob (X := X.suite a ((a, o3) :: (X.pn ++ pins))) S3 hg hm q hdb
      · exact ld_blt (X := X.suite a ((a, o3) :: (X.pn ++ pins))) S3 hg hm hv q hnn hdb
    refine wpAny_handleBy_cons (codeAny_handlers_test (ask (LM.here ?_))) (by intro q; cases q)
    cases b with
    | true =>
      refine codeAny_handlers_suite_as (HandSPX.lands_againZ l3 fun h4 l4 up4 => ?_)
      have J4 : Inv X pins τ H2 { s2 with heap := h4 } := J.landed nb l4.1 ((up.trans up3).trans up4) os ag
      obtain ⟨o4, v4, e4, z4, d4⟩ := l4.there
      have S4 : Inv (X.suite a (X.pn ++ pins)) [] τ (upd H2 a (Xo a cls d)) { s2 with heap := h4 } := suite_in (track J4 e4 na nL off young0 z4 d4)
      refine store_ok (X := X.suite a (X.pn ++ pins)) (v := .ref a) S4 hN hi hlc rfl (fun s5 S5 => ?_) (.inr hln)
      refine wpAny_mono ((hsu a cls d (X.pn ++ pins)).run [] s5 _ _ _ S5 (yes rfl a na)) (fun fl s6 hsp => ?_) fun _ _ z => z.elim
      have fin : ∀ {σ6 : L2.St} {H6 : Hp} {Q2 : Shared → Prop}, Inv (X.suite a (X.pn ++ pins)) [] σ6 H6 s6 → (∀ s7, Inv X pins (σ6.set i none) H6 s7 → Q2 s7) →
          wpAny (model X.prog X.w) X.A (do bindName X.env n .none; unbindBehindTheSuite X.env n pos2) (fun _ s7 => Q2 s7) X.xe s6 := fun {σ6 H6 Q2} S6 hq =>
        gone_ok (X := X.suite a (X.pn ++ pins)) S6 hN hi hln fun s7 S7 => hq s7 (suite_out S7 ok)
      cases fl with
      | next =>
        obtain ⟨σ6, H6, S6, q6⟩ := hsp
        exact fin S6 fun s7 J7 => ⟨_, _, J7, q6⟩
      | brk =>
        obtain ⟨σ6, H6, S6, q6⟩ := hsp
        exact fin S6 fun s7 J7 => ⟨_, _, J7, q6⟩
      | cont =>
        obtain ⟨σ6, H6, S6, q6⟩ := hsp
        exact fin S6 fun s7 J7 => ⟨_, _, J7, q6⟩
      | ret u =>
        obtain ⟨v6, σ6, H6, S6, r6, q6⟩ := hsp
        exact fin S6 fun s7 J7 => ⟨_, _, _, J7, r6, q6⟩
    | false =>
      refine wpAny_handleBy_nil ?_
      obtain ⟨_, _, _, oe, vs, T, _, _, he, _, hd, h1, _⟩ := id l3
      unfold PySem.passOn
      refine wpAny_bind (wpAny_field he hd h1 ?_)
      rw [if_neg (show ¬ ((Value.ref T == Value.none) = true) from by simp)]
      have go : wpAny (model X.prog X.w) X.A (setFlight (.ref a) X.env.frame) (fun _ s4 => wpAny (model X.prog X.w) X.A (throw (.ref a) : Sem Flow) (SP X pins D) X.xe s4) X.xe { s2 with heap := h3 } := by
        rw [hf]
        exact HandSPX.setFlight_upZ l3 fun h4 g4 up4 => wpAny_throw (tk _ _ ⟨a, G, sI, pins, τ, H2, cls, d, rfl, J, nb, (up.trans up3).trans up4, .inr (.inr (by rw [hs]; exact g4)), na, os, ag, no rfl⟩)
      first
        | exact wpAny_bind (wpAny_pure (wpAny_bind go))
        | exact wpAny_bind go
  · cases fl with
    | next =>
      obtain ⟨τ, H2, J, q⟩ := q
      exact wpAny_execs_nil ⟨τ, H2, J.ofTry ok, q⟩
    | brk =>
      obtain ⟨τ, H2, J, q⟩ := q
      exact ⟨τ, H2, J.ofTry ok, q⟩
    | cont =>
      obtain ⟨τ, H2, J, q⟩ := q
      exact ⟨τ, H2, J.ofTry ok, q⟩
    | ret u =>
      obtain ⟨v, τ, H2, J, r, q⟩ := q
      exact ⟨v, τ, H2, J.ofTry ok, r, q⟩
end

/-! ## a kept exception looked at -/
/-- at a: a kept exception of the own class C with the attributes fs -/
def Kept (H : Hp) (a C : Addr) (fs : List (Str × V)) : Prop := ∃ d, (H a = some (Xo a (.ref C) (some d)) ∧ H d = some (.xd fs)) ∨ (H a = some (exo a C (some d)) ∧ H d = some (exd d fs))
theorem kept_at {X : Cx} {pins : List (Addr × Obj)} {σ : L2.St} {H : Hp} {s : Shared} {a C : Addr} {fs : List (Str × V)} (I : Inv X pins σ H s) (k : Kept H a C fs) :
    ∃ (oe od : Obj) (d : Addr) (mA : Str → Option Value), PySem.W.InstAt s.heap a oe C (some od) ∧ s.heap.get? d = some od ∧ s.heap.Ns1 d mA ∧ ∀ f, RelO (fs.lookup f) (mA f) := by
  obtain ⟨d, ⟨h1, h2⟩ | ⟨h1, h2⟩⟩ := k
  · obtain ⟨oe, vs, e, z, f⟩ := xo_at I.hok h1
    have hx : ObjOk X.prog X.w H s.heap d (.xd fs) := I.hok d _ h2
    obtain ⟨mA, hns, hr⟩ := hx
    obtain ⟨od, ho, _⟩ := lookIn_ns hns
    exact ⟨oe, od, d, mA, ⟨e, z.1, by unfold PySem.W.notCls; rw [f] <;> rfl, by rw [z.2]; exact ho⟩, ho, hns, hr⟩
  · obtain ⟨t1, e⟩ := exo_at I.hok h1
    obtain ⟨mA, hns, hr⟩ := exd_at I.hok h2
    obtain ⟨od, ho, _⟩ := lookIn_ns hns
    exact ⟨_, od, d, mA, ⟨e, rfl, rfl, ho⟩, ho, hns, hr⟩
def rIsX (K : PySem.W.Frag) : List V → Hp → VK → Prop := fun xs H Q => ∃ (a C : Addr) (fs : List (Str × V)) (c : V) (cv : Value) (b : Bool), xs = [.ref a, c] ∧ Kept H a C fs ∧ ExcC K C ∧ ClsV c cv ∧ PySem.W.kitOne K (.ref C) cv = some b ∧ Q (.bl b) H
theorem call_isX {X : Cx} {K : PySem.W.Frag} (h : X.K = K := by rfl) : CallR X (.builtin "isinstance") (rIsX K) := by
  subst h
  intro pins s σ H xs us Q I r h
  obtain ⟨a, C, fs, c, cv, b, rfl, k, EC, hc, e, q⟩ := h
  obtain ⟨oe, od, d, mA, J, _⟩ := kept_at I k
  cases r with
  | @cons _ u0 _ ur rx rr =>
    cases rr with
    | @cons _ u1 _ _ rt rr =>
      cases rr
      cases rx
      have ec : u1 = cv := by
        cases hc <;> exact rt
      subst ec
      obtain ⟨cd, hcd, _⟩ := PySem.W.any_some EC.hd
      exact PySem.W.kia_one (PySem.W.kitx_exc (by rw [hcd]; rfl) EC.hg EC.hk EC.hs EC.ha EC.hn EC.ht EC.hm) I.kIn J e (fun z => nomatch z) fun tk => ⟨.bl b, H, I.kept (t' := tk) fun _ _ z => z, rfl, q⟩
def tXv (K : PySem.W.Frag) (te : TE) (f : Str) : TE := fun σ H Q => te σ H fun x H1 => ∃ (a C : Addr) (fs : List (Str × V)) (v : V), x = .ref a ∧ Kept H1 a C fs ∧ XfC K C ∧ PySem.W.findIn K (.ref C) f = some none ∧ fs.lookup f = some v ∧ Q v H1
theorem pe_xv {X : Cx} {K : PySem.W.Frag} {e : Expr} {te : TE} {f : Str} {pos : Pos} (he : PE X e te) (hb : attributeBase e f X.env (eval e X.env) = eval e X.env := by rfl) (h : X.K = K := by rfl) : PE X (.Attribute e f pos) (tXv K te f) := by
  subst h
  refine ⟨fun pins s σ H Q I h => attr_of hb (thn (he.run pins s σ H _ I h) fun u s1 hh => ?_)⟩
  obtain ⟨x, H1, I1, rx, a, C, fs, v, rfl, k, T, hno, l, q⟩ := hh
  obtain rfl : u = Value.ref a := rx
  obtain ⟨oe, od, d, mA, J, ho, hns, hr⟩ := kept_at I1 k
  obtain ⟨od2, ho2, hl⟩ := lookIn_ns hns
  rw [ho] at ho2
  cases ho2
  obtain ⟨u, hu, ru⟩ := RelO.some_of (v := v) (o := mA f) (by rw [← l]; exact hr f)
  exact HandSPX.exc_get I1.kIn J T.ga T.gg T.exC (PySem.W.findObj_own T.hdC hno rfl (by rw [hl, hu])) (handed_of ru) ⟨v, H1, I1.tok _, ru, q⟩
end Sq


set_option Elab.async false
set_option maxRecDepth 100000
set_option maxHeartbeats 4000000
namespace Sq
open PySem PySem.Spec PyProof.Rows L2
/-! ## raise C(e), C an own class with the __init__ of MExc -/
structure Rai (P : Program) (w : World) (K : PySem.W.Frag) (mg : Str → Option Value) (base : Heap) (k : Nat) (x : Str) (C : Addr) : Prop where
  ex : ∃ (f : Addr) (fd : FuncData), OexC K C ∧ PySem.W.findIn K (.ref C) "__init__" = some (some (.ref f)) ∧ PySem.W.typeIn K (.ref f) = some (.type "function") ∧ FnOk P w K mg base CX0 k f fd ["self", "value"] (spXI C) ∧ mg x = some (.ref C) ∧ L2.Binds K fd ["self", "value"] []
def tRx (W : WX) (C : Addr) (te : TE) : TS := fun _ σ H => te σ H fun v H1 => ∀ d, H1 d = none → W (.ref C) (some d) σ (upd H1 d (.xd [("value", v)]))
theorem heap_rx {H : Hp} {a d : Addr} {u z o : HO} (na : H a = none) (n : d ≠ a) : upd (del (upd (upd (upd H a u) d z) a o) a) d (.xd [("value", v)]) = upd H d (.xd [("value", v)]) := by
  funext b
  by_cases h1 : b = d
  · rw [h1, upd_same, upd_same]
  · rw [upd_ne h1, upd_ne h1]
    by_cases h2 : b = a
    · rw [h2, del_same, na]
    · rw [del_ne h2, upd_ne h2, upd_ne h1, upd_ne h2]
/-- a reading that may be weakened -/
def tWk (te : TE) : TE := fun σ H Q => ∃ R : VK, te σ H R ∧ ∀ v G, R v G → Q v G
theorem pe_wk {X : Cx} {e : Expr} {te : TE} (h : PE X e te) : PE X e (tWk te) := ⟨fun pins s σ H Q I ⟨R, q, k⟩ => wpAny_mono (h.run pins s σ H R I q) (fun u s1 ⟨x, G, J, r, z⟩ => ⟨x, G, J, r, k _ _ z⟩) fun _ _ z => z⟩
section
variable {X : Cx} {W : WX} {k j : Nat} {C : Addr} {x : Str} {p pos pos2 : Pos} {e : Expr} {te : TE}
theorem ps_rx (c : Rai X.prog X.w X.K X.mg X.base k x C) (hr : Room j X.A) (hk : k + 1 ≤ j) (hg : Gl X x) (tk : Takes X W) (ha : PE X e te) (hc : X.calm = true := by rfl)
    (hdb : (x == ("__debug__" : Str)) = false := by decide) (he : starEach [e] X.env = (false, eval e X.env) :: starEach [] X.env := by rfl) (hpl : (backTo pos (starEach [] X.env)).any (·.1) = false := by rfl) : PS X (.Raise (some (.Call (.Name x p) [e] [] pos)) none pos2) (tRx W C te) := by
  obtain ⟨f, fd, T, iC, tI, F, hm, b⟩ := c.ex
  have mk := pmk_oex (pos := pos) (p := p) T iC tI F (hr.mono hk) b .nil pass0 hg hm (pa_cons (pe_wk ha) pa_nil he) hdb he hpl
  have r := ps_raise (pos := pos2) hc tk mk
  refine ⟨fun pins s σ H D I h => r.run pins s σ H D I ⟨_, h, fun v G q => ⟨Nat.le_of_ble_eq_true rfl, fun a na => ⟨a, v, rfl, upd_same, fun dx nd ne => ?_⟩⟩⟩⟩
  have nd' : G dx = none := by
    rw [upd_ne ne] at nd
    exact nd
  refine ⟨rfl, dx, _, upd_same, by rw [upd_ne ne, upd_same], nd', ?_⟩
  rw [heap_rx na ne]
  exact q dx nd'
end

/-! ## defs that may raise -/
structure CalX (P : Program) (w : World) (K : PySem.W.Frag) (mg : Str → Option Value) (base : Heap) (k : Nat) (x : Str) (sp : Sp) : Prop where
  ex : ∃ (f : Addr) (fd : FuncData) (ps : List Str), FnOk P w K mg base (L2.CX P w) k f fd ps sp ∧ mg x = some (.ref f) ∧ PySem.W.keepIn K (.ref f) = true ∧ L2.Binds K fd ps []
section
variable {P : Program} {w : World} {K : PySem.W.Frag} {mg : Str → Option Value} {base : Heap}
theorem DefAt.calX {x : Str} {st : Stmt} {ps N : List Str} {k : Nat} {sp : Sp} (D : DefAt K mg x st ps) (S : FnScope N ps (defScope st)) (len : ∀ vs H Q E, sp vs H Q E → vs.length = ps.length)
    (hb : ∀ (f : Addr) (cdv : Value) (A : Around) (outer : List Env) (s : Shared) (H : Hp) (vs : List V) (Q : VK) (E : XK), Room k (A.deeper (envOfC x (defScope st) s.heap.objs.size f cdv)) → sp vs H Q E →
      (Takes (cxOf (L2.CX P w) P w K mg base N x (defScope st) f cdv A outer s H E) fun cls d _ G => E cls d G) →
      ∃ t, PSs (cxOf (L2.CX P w) P w K mg base N x (defScope st) f cdv A outer s H E) (defBody st) t ∧ t { nx := fun _ H' => Q .non H', rt := Q } (start N vs) H) : CalX P w K mg base (k + 1) x sp := by
  obtain ⟨f, fd, F, hm, b⟩ := D.ex
  exact ⟨f, fd, ps, F.okX S len fun cdv A outer s H vs Q E hr hsp => hb f cdv A outer s H vs Q E hr hsp (takes_of rfl rfl rfl rfl), hm, F.kp, b⟩
/-- where it raises nothing it is a plain def -/
theorem fn_calm {k : Nat} {f : Addr} {fd : FuncData} {ps : List Str} {sp sp' : Sp} (F : FnOk P w K mg base (L2.CX P w) k f fd ps sp) (h : ∀ vs H Q E, sp' vs H Q E → sp vs H Q E0) : FnOk P w K mg base CX0 k f fd ps sp' := by
  refine ⟨fun vs H Q E q => F.len _ _ _ _ (h _ _ _ _ q), fun A outer s H args us vs Q E hr e0 b r q => codeAny_mono (F.run A outer s H args us vs Q E0 hr e0 b r (h _ _ _ _ q)) fun res s' z => ?_⟩
  cases res with
  | ok fl => cases fl <;> exact z
  | error e =>
    obtain ⟨_, _, _, _, _, _, _, _, _, _, _, _, no⟩ := z
    exact no.elim
theorem CalX.calm {x : Str} {k : Nat} {sp sp' : Sp} (c : CalX P w K mg base k x sp) (h : ∀ vs H Q E, sp' vs H Q E → sp vs H Q E0) : Cal P w K mg base k x sp' [] := by
  obtain ⟨f, fd, ps, F, hm, kp, b⟩ := c.ex
  exact ⟨f, fd, ps, [], fn_calm F h, hm, kp, b, .nil⟩
theorem CalX.imp {x : Str} {k j : Nat} {sp sp' : Sp} (c : CalX P w K mg base k x sp) (hk : k ≤ j) (h : ∀ vs H Q E, sp' vs H Q E → sp vs H Q E) : CalX P w K mg base j x sp' := by
  obtain ⟨f, fd, ps, F, hm, kp, b⟩ := c.ex
  exact ⟨f, fd, ps, (F.mono hk).imp h, hm, kp, b⟩
end
section
variable {X : Cx} {W : WX} {k j : Nat} {x : Str} {sp : Sp} {p pos : Pos} {e : Expr} {es : List Expr} {t : TA}
/-- a call that may raise, where W is wished of what is raised -/
theorem pe_cx (c : CalX X.prog X.w X.K X.mg X.base k x sp) (hr : Room j X.A) (hk : k ≤ j) (tk : Takes X W) (hg : Gl X x) (ha : PA X (e :: es) t)
    (hdb : (x == ("__debug__" : Str)) = false := by decide) (he : starEach (e :: es) X.env = (false, eval e X.env) :: starEach es X.env := by rfl) (hpl : (backTo pos (starEach es X.env)).any (·.1) = false := by rfl) :
    PE X (.Call (.Name x p) (e :: es) [] pos) (tCallS sp (WE W) t) := by
  obtain ⟨f, fd, ps, F, hm, kp, b⟩ := c.ex
  exact pe_callS F (hr.mono hk) hg hm kp b (passAt tk) ha hdb he hpl
/-- a call of such a def that raises nothing -/
theorem pe_cx0 (c : CalX X.prog X.w X.K X.mg X.base k x sp) (hr : Room j X.A) (hk : k ≤ j) (hg : Gl X x) (ha : PA X (e :: es) t)
    (hdb : (x == ("__debug__" : Str)) = false := by decide) (he : starEach (e :: es) X.env = (false, eval e X.env) :: starEach es X.env := by rfl) (hpl : (backTo pos (starEach es X.env)).any (·.1) = false := by rfl) :
    PE X (.Call (.Name x p) (e :: es) [] pos) (tCall sp [] E0 t) := by
  obtain ⟨f, fd, ps, F, hm, kp, b⟩ := c.ex
  exact L2.pe_call F (hr.mono hk) hg hm kp b .nil passL ha hdb he hpl
end

/-! ## methods and new objects that may raise -/
structure MetX (P : Program) (w : World) (K : PySem.W.Frag) (mg : Str → Option Value) (base : Heap) (k : Nat) (C : Addr) (m : Str) (sp : Sp) : Prop where
  ex : ∃ (f : Addr) (fd : FuncData) (ps : List Str), Cls K C ∧ Meth K C m f ∧ FnOk P w K mg base (L2.CX P w) k f fd ps sp ∧ L2.Binds K fd ps []
structure MakX (P : Program) (w : World) (K : PySem.W.Frag) (mg : Str → Option Value) (base : Heap) (k : Nat) (x : Str) (C : Addr) (sp : Sp) : Prop where
  ex : ∃ (f : Addr) (fd : FuncData) (ps : List Str), Mk K C f ∧ FnOk P w K mg base (L2.CX P w) k f fd ps sp ∧ mg x = some (.ref C) ∧ L2.Binds K fd ps []
section
variable {P : Program} {w : World} {K : PySem.W.Frag} {mg : Str → Option Value} {base : Heap} {C : Addr} {m x qual : Str} {st : Stmt} {ps N : List Str} {k : Nat} {sp : Sp}
theorem MetAt.metX (D : MetAt K C m qual st ps) (cl : Cls K C) (S : FnScope N ps (defScope st)) (len : ∀ vs H Q E, sp vs H Q E → vs.length = ps.length)
    (hb : ∀ (f : Addr) (cdv : Value) (A : Around) (outer : List Env) (s : Shared) (H : Hp) (vs : List V) (Q : VK) (E : XK), Room k (A.deeper (envOfC qual (defScope st) s.heap.objs.size f cdv)) → sp vs H Q E →
      (Takes (cxOf (L2.CX P w) P w K mg base N qual (defScope st) f cdv A outer s H E) fun cls d _ G => E cls d G) →
      ∃ t, PSs (cxOf (L2.CX P w) P w K mg base N qual (defScope st) f cdv A outer s H E) (defBody st) t ∧ t { nx := fun _ H' => Q .non H', rt := Q } (start N vs) H) : MetX P w K mg base (k + 1) C m sp := by
  obtain ⟨f, fd, F, hm, b⟩ := D.ex
  exact ⟨f, fd, ps, cl, hm, F.okX S len fun cdv A outer s H vs Q E hr hsp => hb f cdv A outer s H vs Q E hr hsp (takes_of rfl rfl rfl rfl), b⟩
theorem IniAt.makX (D : IniAt K mg C x qual st ps) (S : FnScope N ps (defScope st)) (len : ∀ vs H Q E, sp vs H Q E → vs.length = ps.length)
    (hb : ∀ (f : Addr) (cdv : Value) (A : Around) (outer : List Env) (s : Shared) (H : Hp) (vs : List V) (Q : VK) (E : XK), Room k (A.deeper (envOfC qual (defScope st) s.heap.objs.size f cdv)) → sp vs H Q E →
      (Takes (cxOf (L2.CX P w) P w K mg base N qual (defScope st) f cdv A outer s H E) fun cls d _ G => E cls d G) →
      ∃ t, PSs (cxOf (L2.CX P w) P w K mg base N qual (defScope st) f cdv A outer s H E) (defBody st) t ∧ t { nx := fun _ H' => Q .non H', rt := Q } (start N vs) H) : MakX P w K mg base (k + 1) x C sp := by
  obtain ⟨f, fd, F, hm, hg, b⟩ := D.ex
  exact ⟨f, fd, ps, hm, F.okX S len fun cdv A outer s H vs Q E hr hsp => hb f cdv A outer s H vs Q E hr hsp (takes_of rfl rfl rfl rfl), hg, b⟩
end
theorem MetX.calm {P : Program} {w : World} {K : PySem.W.Frag} {mg : Str → Option Value} {base : Heap} {C : Addr} {m : Str} {k : Nat} {sp sp' : Sp} (c : MetX P w K mg base k C m sp) (h : ∀ vs H Q E, sp' vs H Q E → sp vs H Q E0) : Met P w K mg base k C m sp' := by
  obtain ⟨f, fd, ps, c1, c2, F, b⟩ := c.ex
  exact ⟨f, fd, ps, c1, c2, fn_calm F h, b⟩
theorem MakX.calm {P : Program} {w : World} {K : PySem.W.Frag} {mg : Str → Option Value} {base : Heap} {C : Addr} {x : Str} {k : Nat} {sp sp' : Sp} (c : MakX P w K mg base k x C sp) (h : ∀ vs H Q E, sp' vs H Q E → sp vs H Q E0) : Mak P w K mg base k x C sp' := by
  obtain ⟨f, fd, ps, M, F, hm, b⟩ := c.ex
  exact ⟨f, fd, ps, M, fn_calm F h, hm, b⟩
def tMethS (C : Addr) (m : Str) (sp : Sp) (E : L2.St → XK) (ta : TE) (t : TA) : TE := fun σ H Q => ta σ H fun x H1 => ∃ a dx fs, x = .ref a ∧ H1 a = some (.ins C dx fs) ∧ fs.lookup m = none ∧ t σ H1 fun vs H2 => sp (x :: vs) H2 Q (E σ)
def tMakeS (C : Addr) (sp : Sp) (E : L2.St → XK) (t : TA) : TE := fun σ H Q => t σ H fun vs H1 => ∀ x dx, H1 x = none → H1 dx = none → dx ≠ x →
  sp (.ref x :: vs) (upd (upd H1 dx (.own x)) x (.ins C dx [])) (fun v H2 => v = .non ∧ Q (.ref x) H2) (E σ)
section
variable {X : Cx} {W : WX} {k j : Nat} {C : Addr} {x m : Str} {sp : Sp} {p pos apos : Pos} {e o : Expr} {es : List Expr} {ta : TE} {t : TA}
theorem pe_mx {pl : Sem Bool} (c : MetX X.prog X.w X.K X.mg X.base k C m sp) (hr : Room j X.A) (hk : k ≤ j) (tk : Takes X W) (he : PE X o ta) (ha : PA X (e :: es) t)
    (ht : eval (.Call (.Attribute o m apos) (e :: es) [] pos) X.env = (do
      let ov ← eval o X.env
      standAt apos.atName
      let (f, first) ← holding [ov] (getMethod ov m pl)
      callWith pos f first (backTo pos (starEach (e :: es) X.env)) (backToKw pos (keywordEach [] X.env))) := by rfl)
    (hst : starEach (e :: es) X.env = (false, eval e X.env) :: starEach es X.env := by rfl) (hpl : (backTo pos (starEach es X.env)).any (·.1) = false := by rfl) : PE X (.Call (.Attribute o m apos) (e :: es) [] pos) (tMethS C m sp (WE W) ta t) := by
  obtain ⟨f, fd, ps, cl, hm, F, b⟩ := c.ex
  refine ⟨fun pins s σ H Q I h => PySem.W.methodCall_KW (pl := pl) (thn (he.run pins s σ H _ I h) fun u s1 hh => ?_) ht⟩
  obtain ⟨x, H1, I1, rx, a, dx, fs, rfl, ea, l, q⟩ := hh
  obtain rfl : u = Value.ref a := rx
  refine getmeth_ok I1 ea cl hm l (PySem.W.callWith_K (first := [.ref a]) (h₀ := X.base) I.ok.mod.kin hm.kp (thn (ha.run pos pins s1 σ H1 _ I1 q) fun us s2 hh => ?_) hst hpl)
  obtain ⟨vs, H2, I2, r, q2⟩ := hh
  exact ⟨I2.kIn, run_fnS (us := .ref a :: us) (vs := .ref a :: vs) F (hr.mono hk) b (passAt tk σ) I2 (.cons rfl r) q2⟩
theorem pe_mkx (c : MakX X.prog X.w X.K X.mg X.base k x C sp) (hr : Room j X.A) (hk : k + 1 ≤ j) (tk : Takes X W) (hg : Gl X x) (ha : PA X (e :: es) t)
    (hdb : (x == ("__debug__" : Str)) = false := by decide) (he : starEach (e :: es) X.env = (false, eval e X.env) :: starEach es X.env := by rfl) (hpl : (backTo pos (starEach es X.env)).any (·.1) = false := by rfl) :
    PE X (.Call (.Name x p) (e :: es) [] pos) (tMakeS C sp (WE W) t) := by
  obtain ⟨f, fd, ps, M, F, hm, b⟩ := c.ex
  refine ⟨fun pins s σ H Q I h => wpAny_Call_Name_kw (ld_glob I hg hm ?_ hdb)⟩
  refine PySem.W.callWith_K (h₀ := X.base) I.ok.mod.kin M.kp (thn (ha.run pos pins s σ H _ I h) fun us s1 hh => ?_) he hpl
  obtain ⟨vs, H1, I1, r, q⟩ := hh
  refine ⟨I1.kIn, ?_⟩
  have hq := q (s1.heap.objs.size + 1) s1.heap.objs.size (I1.hok.fresh (Nat.le_succ _)) (I1.hok.fresh (Nat.le_refl _)) (Nat.ne_of_lt (Nat.lt_succ_self _))
  have I2 := Inv.made (C := C) I1
  have r2 : Vals (V.ref (s1.heap.objs.size + 1) :: vs) (Value.ref (s1.heap.objs.size + 1) :: us) := .cons rfl r
  have ln : (Value.ref (s1.heap.objs.size + 1) :: us).length = ps.length := by
    rw [← r2.length]
    exact F.len _ _ _ _ hq
  have bb := b _ (Value.ref (s1.heap.objs.size + 1) :: us) I2.kIn (by rw [List.append_nil]; exact ln)
  rw [List.append_nil] at bb
  show wpAny _ _ (call (.ref C) us) _ _ _
  refine wpAny_call (make_map (f := f) I1.kIn M.makes M.init (beq_iff_eq.mp M.fn) (codeAny_mono (F.run _ X.stack _ _ ⟨Value.ref (s1.heap.objs.size + 1) :: us, []⟩ _ _ _ (WE W σ) ((hr.mono hk).make C us []) (I2.env0.make C us []) bb r2 hq) fun r s' hq2 => ?_))
  cases r with
  | error er => exact passAt tk σ pins _ _ er s' I2 hq2
  | ok fl =>
    cases fl with
    | ret u =>
      obtain ⟨v, H', I3, rv, ev, q3⟩ := I2.after hq2
      subst ev
      exact ⟨rv, ⟨V.ref (s1.heap.objs.size + 1), H', I3, rfl, q3⟩⟩
    | next => exact False.elim hq2
    | brk => exact False.elim hq2
    | cont => exact False.elim hq2
theorem pe_mx0 {pl : Sem Bool} (c : MetX X.prog X.w X.K X.mg X.base k C m sp) (hr : Room j X.A) (hk : k ≤ j) (he : PE X o ta) (ha : PA X (e :: es) t)
    (ht : eval (.Call (.Attribute o m apos) (e :: es) [] pos) X.env = (do
      let ov ← eval o X.env
      standAt apos.atName
      let (f, first) ← holding [ov] (getMethod ov m pl)
      callWith pos f first (backTo pos (starEach (e :: es) X.env)) (backToKw pos (keywordEach [] X.env))) := by rfl)
    (hst : starEach (e :: es) X.env = (false, eval e X.env) :: starEach es X.env := by rfl) (hpl : (backTo pos (starEach es X.env)).any (·.1) = false := by rfl) : PE X (.Call (.Attribute o m apos) (e :: es) [] pos) (tMeth C m sp [] E0 ta t) := by
  obtain ⟨f, fd, ps, c1, c2, F, b⟩ := c.ex
  exact L2.pe_meth (pl := pl) he c1 c2 F (hr.mono hk) b .nil passL ha hst hpl ht
theorem pe_mkx0 (c : MakX X.prog X.w X.K X.mg X.base k x C sp) (hr : Room j X.A) (hk : k + 1 ≤ j) (hg : Gl X x) (ha : PA X (e :: es) t)
    (hdb : (x == ("__debug__" : Str)) = false := by decide) (he : starEach (e :: es) X.env = (false, eval e X.env) :: starEach es X.env := by rfl) (hpl : (backTo pos (starEach es X.env)).any (·.1) = false := by rfl) :
    PE X (.Call (.Name x p) (e :: es) [] pos) (tMake C sp [] E0 t) := by
  obtain ⟨f, fd, ps, M, F, hm, b⟩ := c.ex
  exact L2.pe_make M F (hr.mono hk) hg hm b .nil passL ha hdb he hpl
end

/-! ## an exception class of the text, out of what the top has written -/
theorem rai_mk {P : Program} {w : World} {K : PySem.W.Frag} {h base : Heap} {mg : Str → Option Value} {x : Str} {C f cc cda N : Addr} {nm q qual m file : Str} {bs bm sub : List Value} {sn : List Str} {ab : Bool} {col : Option Bool} {dd cld cdd od an : Option Addr} {k0 k1 k2 k3 k5 : Option Value}
    {cl ccl oc kV doc pm ct : Value} {csl ccs osl : Array (Option Value)} {cvs : Array Value} {tf : Tok} {p0 p1 p2 p3 p4 p5 p6 p7 p8 p9 q0 q1 : Pos} (X : K.In h) (G : h.Ns mainGlobals mg) (hm : mg x = some (.ref C))
    (lC : K.lookup C = some (excClassObj nm q C N bs bm true sn sub ab col dd k0 k1 k2 k3 k5 "ValueError.__new__")) (rC : PySem.HandSPX.refsVE bm = true) (sa : PySem.W.findIn K (.ref C) "__setattr__" = some (some (.builtin "object.__setattr__")))
    (ex : PySem.W.subIn K (.ref C) (.type "BaseException") = some true) (ty : PySem.W.typeIn K (.ref C) = some (.type "type")) (kc : PySem.W.keepIn K (.ref C) = true)
    (ini : PySem.W.findIn K (.ref C) "__init__" = some (some (.ref f))) (tyf : PySem.W.typeIn K (.ref f) = some (.type "function"))
    (l : K.lookup f = some ⟨oc, od, .func (PySem.W.ksFn "__init__" qual (xiArgs q0 q1) (xiBody m p0 p1 p2 p3 p4 p5 p6 p7 p8 p9) xiScope .none kV doc pm an (.ref cda) ct cc), osl⟩)
    (co : PySem.W.codeIn K (.ref cda) qual = true) (cell : K.lookup cc = some ⟨cl, cld, .cell (some (.ref C)), csl⟩) (rec_ : K.lookup cda = some ⟨ccl, cdd, .fields cvs, ccs⟩) (v2 : cvs[2]? = some (.str file tf)) (fl : ((P.main.file : Str) == file) = true)
    (top : (P.main.scope.names.lookup ("super" : Str)).isSome = false) (opq : PySem.W.nsIn K PySem.cStatics "thirdparty.any" = some none) (sup : PySem.W.ks_superIn K C C "__init__" = some (some (.builtin "ValueError.__init__"))) (veb : PySem.W.subIn K (.ref C) (.type "ValueError") = some true)
    (slf : PySem.W.mroIn K C (.ref C) = some true) (val : PySem.W.findIn K (.ref C) "value" = some none) (ms : PySem.W.nsIn K mainGlobals "super" = some none) (he : XiCall qual f cc cda m p0 p1 p2 p3 p4)
    (hb : ∀ us : List Value, us.length = 2 → bindArgs (PySem.W.ksFn "__init__" qual (xiArgs q0 q1) (xiBody m p0 p1 p2 p3 p4 p5 p6 p7 p8 p9) xiScope .none kV doc pm an (.ref cda) ct cc) ⟨us, []⟩ = pure ((["self", "value"] : List Str).zip us)) : Rai P w K mg base 1 x C :=
  ⟨f, _, ⟨⟨nm, q, N, bs, bm, sn, sub, ab, col, dd, k0, k1, k2, k3, k5, lC, rC⟩, sa, ex, ty, kc⟩, ini, tyf,
    ok_xi ⟨⟨nm, q, N, bs, bm, sn, sub, ab, col, dd, k0, k1, k2, k3, k5, lC, rC⟩, sa, ex, ty, kc⟩ ⟨co, ⟨cl, cld, csl, cell⟩, ⟨ccl, cdd, cvs, ccs, tf, rec_, v2⟩, fl, top, opq, sup, veb, slf, val⟩ l (PySem.W.mg_none_of X G ms) he, hm, L2.Binds.all hb⟩
end Sq


set_option Elab.async false
set_option maxRecDepth 100000
set_option maxHeartbeats 4000000
namespace Sq
open PySem PySem.Spec PyProof.Rows L2
/-! ## methods called by keywords alone -/
structure MetKX (P : Program) (w : World) (K : PySem.W.Frag) (mg : Str → Option Value) (base : Heap) (k : Nat) (C : Addr) (m : Str) (ks : List Str) (sp : Sp) : Prop where
  ex : ∃ (f : Addr) (fd : FuncData) (ps : List Str) (spf : Sp) (g : List Value → List Value → List Value) (gV : List V → List V → List V),
    Cls K C ∧ Meth K C m f ∧ FnOk P w K mg base (L2.CX P w) k f fd ps spf ∧ KBn K fd ps 1 ks g gV ∧ ∀ x zs H Q E, sp (x :: zs) H Q E → zs.length = ks.length ∧ spf (gV [x] zs) H Q E
def tMetK (C : Addr) (m : Str) (sp : Sp) (E : L2.St → XK) (ta : TE) (tk : TA) : TE := fun σ H Q => ta σ H fun x H1 => ∃ a dx fs, x = .ref a ∧ H1 a = some (.ins C dx fs) ∧ fs.lookup m = none ∧ tk σ H1 fun zs H2 => sp (x :: zs) H2 Q (E σ)
section
variable {X : Cx} {W : WX} {k j : Nat} {C : Addr} {m : Str} {ks : List Str} {sp : Sp} {pos apos : Pos} {o : Expr} {kws : List Keyword} {ta : TE} {t : TA}
theorem pe_mkwx {pl : Sem Bool} (c : MetKX X.prog X.w X.K X.mg X.base k C m ks sp) (hr : Room j X.A) (hk : k ≤ j) (tk : Takes X W) (he : PE X o ta) (ha : PK X kws t)
    (ht : eval (.Call (.Attribute o m apos) [] kws pos) X.env = (do
      let ov ← eval o X.env
      standAt apos.atName
      let (f, first) ← holding [ov] (getMethod ov m pl)
      callWith pos f first (backTo pos (starEach [] X.env)) (backToKw pos (keywordEach kws X.env))) := by rfl)
    (hall : (backToKw pos (keywordEach kws X.env)).all (·.1.isSome) = true := by rfl) (hks : (backToKw pos (keywordEach kws X.env)).filterMap (·.1) = ks := by rfl)
    (hpl : ((backTo pos (starEach [] X.env)).any (·.1) || (backToKw pos (keywordEach kws X.env)).any (·.1.isNone)) = false := by rfl) : PE X (.Call (.Attribute o m apos) [] kws pos) (tMetK C m sp (WE W) ta t) := by
  obtain ⟨f, fd, ps, spf, g, gV, cl, hm, F, hb, hs⟩ := c.ex
  refine ⟨fun pins s σ H Q I h => PySem.W.methodCall_KW (pl := pl) (thn (he.run pins s σ H _ I h) fun u s1 hh => ?_) ht⟩
  obtain ⟨x, H1, I1, rx, a, dx, fs, rfl, ea, l, q⟩ := hh
  obtain rfl : u = Value.ref a := rx
  refine getmeth_ok I1 ea cl hm l (PySem.W.callWith_KW0 (first := [.ref a]) (h₀ := X.base) I.ok.mod.kin hm.kp hall (thn (ha.run pos pins s1 σ H1 _ I1 q) fun ws s2 hh => ?_) hpl)
  obtain ⟨zs, H2, I2, rz, q2⟩ := hh
  obtain ⟨lz, q3⟩ := hs _ _ _ _ _ q2
  refine ⟨I2.kIn, ?_⟩
  rw [hks]
  have r1 : Vals [V.ref a] [Value.ref a] := .cons rfl .nil
  refine wpAny_call (codeAny_mono (F.run X.A X.stack s2 H2 ⟨[.ref a], ks.zip ws⟩ (g [.ref a] ws) (gV [.ref a] zs) Q (WE W σ) (hr.mono hk) I2.env0 (hb.to s2 [.ref a] ws I2.kIn rfl (rz.length.symm.trans lz)) (hb.rel r1 rz) q3) fun r s3 hq => ?_)
  cases r with
  | error er => exact passAt tk σ pins H2 s2 er s3 I2 hq
  | ok fl =>
    cases fl with
    | ret u => exact I2.after hq
    | next => exact False.elim hq
    | brk => exact False.elim hq
    | cont => exact False.elim hq
end
/-! ## new objects made by keywords alone -/
structure MakK (P : Program) (w : World) (K : PySem.W.Frag) (mg : Str → Option Value) (base : Heap) (k : Nat) (x : Str) (C : Addr) (ks : List Str) (sp : Sp) : Prop where
  ex : ∃ (f : Addr) (fd : FuncData) (ps : List Str) (spf : Sp) (g : List Value → List Value → List Value) (gV : List V → List V → List V),
    Mk K C f ∧ FnOk P w K mg base CX0 k f fd ps spf ∧ mg x = some (.ref C) ∧ KBn K fd ps 1 ks g gV ∧ ∀ x zs H Q E, sp (x :: zs) H Q E → zs.length = ks.length ∧ spf (gV [x] zs) H Q E
def tMakK (C : Addr) (sp : Sp) (tk : TA) : TE := fun σ H Q => tk σ H fun zs H1 => ∀ x dx, H1 x = none → H1 dx = none → dx ≠ x → sp (.ref x :: zs) (upd (upd H1 dx (.own x)) x (.ins C dx [])) (fun v H3 => v = .non ∧ Q (.ref x) H3) E0
section
variable {X : Cx} {k j : Nat} {C : Addr} {x : Str} {ks : List Str} {sp : Sp} {p pos : Pos} {kws : List Keyword} {t : TA}
theorem pe_mkk (c : MakK X.prog X.w X.K X.mg X.base k x C ks sp) (hr : Room j X.A) (hk : k + 1 ≤ j) (hg : Gl X x) (ha : PK X kws t)
    (hall : (backToKw pos (keywordEach kws X.env)).all (·.1.isSome) = true := by rfl) (hks : (backToKw pos (keywordEach kws X.env)).filterMap (·.1) = ks := by rfl) (hdb : (x == ("__debug__" : Str)) = false := by decide)
    (hpl : ((backTo pos (starEach [] X.env)).any (·.1) || (backToKw pos (keywordEach kws X.env)).any (·.1.isNone)) = false := by rfl) : PE X (.Call (.Name x p) [] kws pos) (tMakK C sp t) := by
  obtain ⟨f, fd, ps, spf, g, gV, M, F, hm, hb, hs⟩ := c.ex
  refine ⟨fun pins s σ H Q I h => wpAny_Call_Name_kw (ld_glob I hg hm (PySem.W.callWith_KW0 (h₀ := X.base) I.ok.mod.kin M.kp hall (thn (ha.run pos pins s σ H _ I h) fun ws s2 hh => ?_) hpl) hdb)⟩
  obtain ⟨zs, H2, I2, rz, q2⟩ := hh
  refine ⟨I2.kIn, ?_⟩
  rw [hks]
  have lz : zs.length = ks.length := (hs _ _ _ _ _ (q2 (s2.heap.objs.size + 1) s2.heap.objs.size (I2.hok.fresh (Nat.le_succ _)) (I2.hok.fresh (Nat.le_refl _)) (Nat.ne_of_lt (Nat.lt_succ_self _)))).1
  exact run_makeK (us := []) (vs := []) M F (hr.mono hk) hb pass0 I2 .nil rz rfl lz fun x dx n1 n2 n3 => (hs _ _ _ _ _ (q2 x dx n1 n2 n3)).2
end
/-! ## list.count of plain values -/
def rCntF (K : PySem.W.Frag) : V → List V → Hp → VK → Prop := fun x xs H Q => ∃ (a : Addr) (ys : List V) (y : V), x = .ref a ∧ xs = [y] ∧ SqL K H a ys ∧ flatV y = true ∧ ys.all flatV = true ∧ Q (.int ((ys.countP fun z => eqV z y : Nat) : Int)) H
theorem count_flat {y : V} : ∀ {ys : List V} {us : List Value}, Vals ys us → ys.all flatV = true → us.countP (eqU y) = ys.countP fun z => eqV z y
  | _, _, .nil, _ => rfl
  | _, _, .cons (a := z) (b := u) r t, f => by
    rw [List.all_cons, Bool.and_eq_true] at f
    rw [List.countP_cons, List.countP_cons, count_flat t f.2, eqU_of r f.1]
theorem mt_countF {X : Cx} : MtR X "list.count" (rCntF X.K) := by
  intro pins s σ H x xs v us Q I rx rxs h
  obtain ⟨a, ys, y, rfl, rfl, hs, fy, fys, q⟩ := h
  cases rx
  obtain ⟨uy, rfl, ry⟩ := rxs.one
  obtain ⟨its, rv, ⟨⟨cls, dd, data, sl⟩, n, ho, hc, hdn, hd⟩, hlen⟩ := I.list hs
  simp only at hc hd
  subst hc hd
  refine call_meets PySem.F.slot_list_count ⟨_, ho, rfl⟩ PySem.F.entry_list_count (PySem.F.args_list_count_2 _ _) (SeqAt.list_countAt a its.toArray n dd sl uy (eqU y)) ⟨ho, fun u2 hu2 => mem_eqAt ry fy rv fys u2 (by simpa using hu2), ?_⟩
  refine ⟨.int ((ys.countP fun z => eqV z y : Nat) : Int), H, I.tok _, ⟨s.toks, ?_⟩, q⟩
  show Value.int ((its.toArray.toList.countP (eqU y) : Nat) : Int) s.toks = _
  rw [List.toList_toArray, count_flat rv fys]
/-! ## a method, an __init__ called by place and by keywords -/
theorem kbn_self {K : PySem.W.Frag} {x qual : Str} {st : Stmt} {f : Addr} {fd : FuncData} {ps ks : List Str} (F : Fun K x qual st f fd) (g : {α : Type} → α → List α → List α) (hg : ∀ {v : V} {u : Value} {vs : List V} {us : List Value}, RelV v u → Vals vs us → Vals (g v vs) (g u us))
    (h : ∀ (kV doc pm : Value) (an : Option Addr) (cdv ct u : Value) (ws : List Value), ws.length = ks.length →
      bindArgs (PySem.W.fnOf x qual (defArgs st) (defBody st) (defScope st) .none kV doc pm an cdv ct) ⟨[u], ks.zip ws⟩ = pure (ps.zip (g u ws))) : KBn K fd ps 1 ks (fun us ws => match us with | [u] => g u ws | _ => ws) (fun us ws => match us with | [u] => g u ws | _ => ws) := by
  obtain ⟨oc, od, kV, doc, pm, an, cdv, ct, osl, rfl, lk, hcd⟩ := F.ex
  refine ⟨fun s us ws X l1 l2 => ?_, fun r1 r2 => ?_⟩
  · match us, l1 with
    | [u], _ => exact .of_eq (h kV doc pm an cdv ct u ws l2)
  · cases r1 with
    | nil => exact r2
    | cons a r => cases r with
      | nil => exact hg a r2
      | cons b r => exact r2
section
variable {P : Program} {w : World} {K : PySem.W.Frag} {mg : Str → Option Value} {base : Heap} {C : Addr} {m x qual : Str} {st : Stmt} {ps ks N : List Str} {k : Nat} {sp spk : Sp}
theorem MetAt.metKX (D : MetAt K C m qual st ps) (cl : Cls K C) (S : FnScope N ps (defScope st)) (len : ∀ vs H Q E, sp vs H Q E → vs.length = ps.length)
    (hb : ∀ (f : Addr) (cdv : Value) (A : Around) (outer : List Env) (s : Shared) (H : Hp) (vs : List V) (Q : VK) (E : XK), Room k (A.deeper (envOfC qual (defScope st) s.heap.objs.size f cdv)) → sp vs H Q E →
      (Takes (cxOf (L2.CX P w) P w K mg base N qual (defScope st) f cdv A outer s H E) fun cls d _ G => E cls d G) →
      ∃ t, PSs (cxOf (L2.CX P w) P w K mg base N qual (defScope st) f cdv A outer s H E) (defBody st) t ∧ t { nx := fun _ H' => Q .non H', rt := Q } (start N vs) H)
    (g : {α : Type} → α → List α → List α) (hg : ∀ {v : V} {u : Value} {vs : List V} {us : List Value}, RelV v u → Vals vs us → Vals (g v vs) (g u us))
    (h : ∀ (kV doc pm : Value) (an : Option Addr) (cdv ct u : Value) (ws : List Value), ws.length = ks.length →
      bindArgs (PySem.W.fnOf m qual (defArgs st) (defBody st) (defScope st) .none kV doc pm an cdv ct) ⟨[u], ks.zip ws⟩ = pure (ps.zip (g u ws)))
    (hs : ∀ x zs H Q E, spk (x :: zs) H Q E → zs.length = ks.length ∧ sp (g x zs) H Q E) : MetX P w K mg base (k + 1) C m sp ∧ MetKX P w K mg base (k + 1) C m ks spk := by
  obtain ⟨f, fd, F, hm, b⟩ := D.ex
  have ok := F.okX S len fun cdv A outer s H vs Q E hr hsp => hb f cdv A outer s H vs Q E hr hsp (takes_of rfl rfl rfl rfl)
  exact ⟨⟨f, fd, ps, cl, hm, ok, b⟩, ⟨f, fd, ps, sp, _, _, cl, hm, ok, kbn_self F g hg h, hs⟩⟩
theorem IniAt.makK (D : IniAt K mg C x qual st ps) (S : FnScope N ps (defScope st)) (len : ∀ vs H Q E, sp vs H Q E → vs.length = ps.length)
    (hb : ∀ (f : Addr) (cdv : Value) (A : Around) (outer : List Env) (s : Shared) (H : Hp) (vs : List V) (Q : VK) (E : XK), Room k (A.deeper (envOfC qual (defScope st) s.heap.objs.size f cdv)) → sp vs H Q E →
      (Takes (cxOf (L2.CX P w) P w K mg base N qual (defScope st) f cdv A outer s H E) fun cls d _ G => E cls d G) →
      ∃ t, PSs (cxOf (L2.CX P w) P w K mg base N qual (defScope st) f cdv A outer s H E) (defBody st) t ∧ t { nx := fun _ H' => Q .non H', rt := Q } (start N vs) H)
    (g : {α : Type} → α → List α → List α) (hg : ∀ {v : V} {u : Value} {vs : List V} {us : List Value}, RelV v u → Vals vs us → Vals (g v vs) (g u us))
    (h : ∀ (kV doc pm : Value) (an : Option Addr) (cdv ct u : Value) (ws : List Value), ws.length = ks.length →
      bindArgs (PySem.W.fnOf "__init__" qual (defArgs st) (defBody st) (defScope st) .none kV doc pm an cdv ct) ⟨[u], ks.zip ws⟩ = pure (ps.zip (g u ws)))
    (hs : ∀ x zs H Q E, spk (x :: zs) H Q E → zs.length = ks.length ∧ sp (g x zs) H Q E0) : MakX P w K mg base (k + 1) x C sp ∧ MakK P w K mg base (k + 1) x C ks spk := by
  obtain ⟨f, fd, F, hm, hg2, b⟩ := D.ex
  have ok := F.okX S len fun cdv A outer s H vs Q E hr hsp => hb f cdv A outer s H vs Q E hr hsp (takes_of rfl rfl rfl rfl)
  have ok0 : FnOk P w K mg base CX0 (k + 1) f fd ps (fun vs H Q _ => sp vs H Q E0) := fn_calm ok fun vs H Q E z => z
  exact ⟨⟨f, fd, ps, hm, ok, hg2, b⟩, ⟨f, fd, ps, _, _, _, hm, ok0, hg2, kbn_self F g hg h, hs⟩⟩
end
/-! ## [.. for i, x in enumerate(xs) ..] -/
theorem lc_enum {K : PySem.W.Frag} {a : Addr} {xs : List V} {g : TG} {tt : TT} {te : TE} {vs : List Nat} {σ : L2.St} {H1 : Hp} {D : Addr} {Qd : Hp → Prop} (Pv : Nat → Hp → Prop) (h0 : Pv 0 (upd H1 D (.lst []))) (hq : ∀ i H, Pv i H → SqL K H a xs)
    (hs : ∀ (i : Nat) (x : V) (T : Addr) (H : Hp), xs[i]? = some x → Pv i H → H T = none → g (.ref T) (wipe σ vs) (upd H T (.tup [.int (i : Nat), x])) fun σ2 H2 => wipe σ2 vs = wipe σ vs ∧ tt σ2 H2 fun b H3 =>
      if b = true then te σ2 H3 fun y H4 => ∃ acc, H4 D = some (.lst acc) ∧ acc.length < sizeLine ∧ Pv (i + 1) (upd H4 D (.lst (acc ++ [y]))) else Pv (i + 1) H3) (hd : ∀ H, Pv xs.length H → Qd H) :
    ∃ W : Nat → Nat → Hp → Prop, (∃ m, W 0 m (upd H1 D (.lst []))) ∧ ∀ i m H, W i m H →
      ((Ite K a).stop i H ∧ Qd H) ∨ ((Ite K a).go i H ∧ ∃ Nx : Hp → Prop, (∀ H', Nx H' → ∃ m', m' < m ∧ W (i + 1) m' H') ∧ ∀ x H', (Ite K a).yld i H x H' → g x (wipe σ vs) H' fun σ2 H2 => wipe σ2 vs = wipe σ vs ∧ tt σ2 H2 fun b H3 =>
        if b = true then te σ2 H3 fun y H4 => ∃ acc, H4 D = some (.lst acc) ∧ acc.length < sizeLine ∧ Nx (upd H4 D (.lst (acc ++ [y]))) else Nx H3) := by
  refine ⟨fun i m H => m + i = xs.length ∧ Pv i H, ⟨xs.length, rfl, h0⟩, fun i m H hW => ?_⟩
  obtain ⟨em, p⟩ := hW
  have q := hq i H p
  by_cases lt : i < xs.length
  · have ex : xs[i]? = some xs[i] := List.getElem?_eq_getElem lt
    refine .inr ⟨⟨xs, _, q, ex⟩, Pv (i + 1), fun H' p' => ⟨m - 1, by omega, by omega, p'⟩, fun v H' hy => ?_⟩
    obtain ⟨T, x, rfl, nT, rfl, f⟩ := hy
    exact hs i x T H (f xs q) p nT
  · have ei : i = xs.length := by omega
    subst ei
    exact .inl ⟨⟨xs, q, Nat.le_refl _⟩, hd H p⟩
/-! ## a kept exception stays -/
theorem Kept.same {H H' : Hp} {a C : Addr} {fs : List (Str × V)} (k : Kept H a C fs) (s : Same H H') : Kept H' a C fs := by
  obtain ⟨d, ⟨h1, h2⟩ | ⟨h1, h2⟩⟩ := k
  · exact ⟨d, .inl ⟨s _ _ h1, s _ _ h2⟩⟩
  · exact ⟨d, .inr ⟨s _ _ h1, s _ _ h2⟩⟩
theorem kept_new {H : Hp} {a C d : Addr} {fs : List (Str × V)} (na : H a = none) (hd : H d = some (.xd fs)) : Kept (upd H a (Xo a (.ref C) (some d))) a C fs := ⟨d, .inl ⟨upd_same, upd_keep na hd⟩⟩
theorem But.same {o : Addr} {H H1 H' : Hp} (b : But o H1 H') (s : Same H H1) (n : H o = none) : Same H H' := fun c u e => b c u (fun z => by
  rw [z, n] at e
  cases e) (s c u e)
theorem exm_mk {K : PySem.W.Frag} {C S : Addr} {b : Bool} (h1 : PySem.W.subIn K (.ref S) (.type "BaseException") = some true) (h2 : PySem.W.isClsIn K S = true) (h3 : PySem.W.typeIn K (.ref S) = some (.type "type")) (h4 : PySem.W.subIn K (.ref C) (.ref S) = some b) : PySem.W.exmOne K (.ref C) (.ref S) = some b := by
  have e1 : (PySem.W.subIn K (.ref S) (.type "BaseException") == some true) = true := by rw [h1] <;> rfl
  have e2 : ((PySem.W.clsIn K S).isSome && PySem.W.typeIn K (.ref S) == some (.type "type")) = true := by
    have h2' : (PySem.W.clsIn K S).isSome = true := h2
    rw [h2', h3] <;> rfl
  show (if (PySem.W.subIn K (.ref S) (.type "BaseException") == some true) = true then (if ((PySem.W.clsIn K S).isSome && PySem.W.typeIn K (.ref S) == some (.type "type")) = true then PySem.W.subIn K (.ref C) (.ref S) else none) else none) = some b
  rw [if_pos e1, if_pos e2]
  exact h4
end Sq


set_option Elab.async false
set_option maxRecDepth 100000
set_option maxHeartbeats 4000000
namespace Sq
open PySem PySem.Spec PyProof.Rows L2
/-! ## a, *b = a list -/
theorem star_list {prog : Program} {w : World} {A : Around} {E : Value → Shared → Prop} {s : Shared} {l : Addr} {items : Array Value} {n i : Nat} {Q : List Value → Shared → Prop} (hl : s.heap.IsList l items) (hh : A.handled = none) (hi : i < n) (hn : n ≤ items.size + 1) (hz : items.size ≤ 16384)
    (h : ∀ (h₂ : Heap) (tk : Nat), (∀ b o, s.heap.get? b = some o → h₂.get? b = some o) → Q (items.toList.take i ++ [.ref h₂.objs.size] ++ (items.toList.drop i).drop (items.size + 1 - n)) { s with heap := h₂.push { cls := .type "list", data := .seq ((items.toList.drop i).take (items.size + 1 - n)).toArray }, toks := tk }) :
    wpAny (model prog w) A (unpackItems (.ref l) n (some i)) Q E s := by
  have hlt : l ≠ s.heap.objs.size := by obtain ⟨o, ho, _⟩ := hl; exact Nat.ne_of_lt (Heap.lt_size ho)
  have hll : l < s.heap.objs.size := by obtain ⟨o, ho, _⟩ := hl; exact Heap.lt_size ho
  unfold unpackItems
  refine wpAny_bind ?_
  unfold notIterableAtAll
  refine wpAny_bind (wpAny_specialOf hl.typeIs PySem.F.slot_list_iter.lookup ?_)
  refine wpAny_pure ?_
  simp only [Bool.false_eq_true, if_false]
  refine wpAny_bind (wpAny_holding (wpAny_pyIter_list hl ?_))
  refine wpAny_bind (wpAny_holding (PySem.W.kun_draw hlt i 0 _ _ ⟨_, Heap.get?_push_size _ rfl, rfl, rfl⟩ (hl.push _) (by omega) fun h₁ hit₁ hs₁ => ?_))
  have hl₁ : h₁.IsList l items := (hl.push _).extBut hs₁.extBut hlt
  rw [Nat.zero_add] at hit₁
  have hit₁' := hit₁
  obtain ⟨oi, hoi, _⟩ := hit₁'
  have hl₁' := hl₁
  obtain ⟨ol, hol, _⟩ := hl₁'
  rw [List.drop_zero]
  have hfl : (items.toList.take i).length = i := by rw [List.length_take, Array.length_toList]; omega
  rw [if_neg (show ¬ ((items.toList.take i).length < i) by rw [hfl]; omega)]
  refine wpAny_bind (wpAny_holding (PySem.W.kun_collect (s := { s with heap := h₁ }) (T := "list_iterator") (.inr (.inr (.inl rfl))) (Walks.list (A := A.in1) hh s.heap.objs.size l hlt items) (fun j u st => st.1.typeIs) (k := i) (by omega) ⟨hit₁, hl₁⟩ (Heap.lt_size hoi) (Heap.lt_size hol) (fun h₂ tk hk => ?_) (by rw [sizeLine_eq]; omega)))
  have hrl : (items.toList.drop i).length = items.size - i := by rw [List.length_drop, Array.length_toList]
  have hmid : (items.toList.drop i).length - (n - 1 - i) = items.size + 1 - n := by rw [hrl]; omega
  show wpAny _ _ (if (items.toList.drop i).length < n - 1 - i then _ else _) _ _ _
  rw [if_neg (by rw [hrl]; omega)]
  show wpAny _ _ (newList ((items.toList.drop i).take ((items.toList.drop i).length - (n - 1 - i))) >>= fun d => pure (items.toList.take i ++ [d] ++ (items.toList.drop i).drop ((items.toList.drop i).length - (n - 1 - i)))) _ _ _
  rw [hmid]
  have he : ∀ b o, s.heap.get? b = some o → h₂.get? b = some o := fun b o e => hk b o (Nat.ne_of_lt (Heap.lt_size e)) (hs₁.extBut b o (Nat.ne_of_lt (Heap.lt_size e)) (Heap.get?_push_of_some _ e))
  exact wpAny_bind (wpAny_newList (wpAny_pure (h h₂ tk he)) (by rw [List.length_take, hrl, sizeLine_eq]; omega))
def gStar (K : PySem.W.Frag) (t : TGs) : TG := fun v σ H Q => ∃ a x xs, v = .ref a ∧ SqL K H a (x :: xs) ∧ xs.length ≤ 16000 ∧ ∀ D, H D = none → t [x, .ref D] σ (upd H D (.lst xs)) Q
section
variable {X : Cx} {K : PySem.W.Frag} {e : Expr} {es : List Expr} {t : TG} {u ts : TGs} {p pos : Pos} {k : Nat}
theorem pgs_star (h1 : PG X e t) (h2 : PGs X es u) (hs : (assignEach (.Starred e p :: es) X.env).map (·.2) = assign e X.env :: (assignEach es X.env).map (·.2) := by rfl) : PGs X (.Starred e p :: es) (gCons t u) := by
  refine ⟨fun pins s σ H vs us Q I r h => ?_⟩
  obtain ⟨v, vr, e1, h⟩ := h
  subst e1
  cases r with
  | cons r rr =>
    rw [hs]
    refine assignInOrder_cons (thn (h1.run pins s σ H _ _ _ I r h) fun _ s1 ⟨σ1, H1, I1, q1⟩ => ?_)
    exact h2.run pins s1 σ1 H1 _ _ Q I1 rr q1
/-- a, *b = a list -/
theorem pg_star (hc : X.calm = true) (h : PGs X es ts) (hn : (assignEach es X.env).length = 2 := by rfl) (hst : (assignEach es X.env).findIdx? (·.1) = some 1 := by rfl) (hK : X.K = K := by rfl) : PG X (.Tuple es k pos) (gStar K ts) := by
  subst hK
  refine ⟨fun pins s σ H v u Q I r hw => ?_⟩
  obtain ⟨a, x, xs, e1, hq, hl, hw⟩ := hw
  subst e1
  cases r
  obtain ⟨its, rv, pl, hz⟩ := I.list hq
  have hl' : s.heap.IsList a its.toArray := by
    obtain ⟨o, m, e, c, d, q⟩ := pl
    exact ⟨o, e, c, m, q⟩
  rw [PyProof.Rows.assign_Tuple]
  refine wpAny_bind (wpAny_standAt ?_)
  unfold unpack
  rw [hn, hst]
  cases rv with
  | @cons _ v0 _ vs0 r0 rr =>
    have hlen : vs0.length = xs.length := rr.length.symm
    refine wpAny_bind (wpAny_holding (star_list hl' (I.ok.hd hc) (by decide) (by rw [List.size_toArray, List.length_cons]; omega) (by rw [List.size_toArray, List.length_cons]; omega) fun h₂ tk kp => ?_))
    have I1 : Inv X pins σ H { s with heap := h₂, toks := tk } := I.kept kp
    have em : (((v0 :: vs0).toArray.toList.drop 1).take ((v0 :: vs0).toArray.size + 1 - 2)) = vs0 := by
      rw [List.toList_toArray, List.size_toArray, List.length_cons, List.drop_one, List.tail_cons]
      exact List.take_of_length_le (by omega)
    have el : (((v0 :: vs0).toArray.toList.drop 1).drop ((v0 :: vs0).toArray.size + 1 - 2)) = [] := by
      rw [List.toList_toArray, List.size_toArray, List.length_cons, List.drop_one, List.tail_cons]
      exact List.drop_eq_nil_of_le (by omega)
    have hf := I1.hok.fresh (Nat.le_refl _)
    have I2 : Inv X pins σ (upd H h₂.objs.size (.lst xs)) { s with heap := h₂.push { cls := .type "list", data := .seq vs0.toArray }, toks := tk } :=
      I1.laid (t' := tk) (fun b u q => Heap.get?_push_of_some _ q) (Nat.le_refl _) ⟨by rw [sizeLine_eq]; omega, vs0, _, rr, Heap.get?_push_size _ rfl⟩
    rw [em, el]
    exact h.run pins _ σ _ [x, .ref h₂.objs.size] [v0, .ref h₂.objs.size] Q I2 (.cons r0 (.cons rfl .nil)) (hw _ hf)
end
def tStarL (K : PySem.W.Frag) (te : TE) (t : TA) : TA := fun σ H Q => te σ H fun x H1 => ∃ (p : Addr) (xs : List V), x = V.ref p ∧ SqL K H1 p xs ∧ t σ H1 fun ys H2 => Q (xs ++ ys) H2
/-- *e in a display, e a list -/
theorem pa_starK {X : Cx} {K : PySem.W.Frag} {e : Expr} {es : List Expr} {te : TE} {t : TA} {p : Pos} (he : PE X e te) (hr : PA X es t) (hs : starEach (.Starred e p :: es) X.env = (true, eval e X.env) :: starEach es X.env := by rfl) (hK : X.K = K := by rfl) : PA X (.Starred e p :: es) (tStarL K te t) := by
  subst hK
  have z := StX.pa_star (pe_wk he) hr hs
  refine ⟨fun pos pins s σ H Q I h => z.run pos pins s σ H Q I ⟨_, h, fun v G q => ?_⟩⟩
  obtain ⟨a, xs, e, hq, q⟩ := q
  exact ⟨a, xs, e, .inr hq, q⟩
theorem pe_gc {X : Cx} {x : Str} {v : V} {pos : Pos} (hg : Gl X x) (h : ∃ u, X.mg x = some u ∧ RelV v u) (hdb : (x == ("__debug__" : Str)) = false := by decide) : PE X (.Name x pos) (tC v) := by
  obtain ⟨u, a, b⟩ := h
  exact pe_glob hg a b hdb
/-! ## texts of lists, sign by sign -/
def dig (c : Nat) : Bool := decide (48 ≤ c) && decide (c ≤ 57)
def wrd (n t : Nat) : List Nat := if 1 < t then TL.numL n ++ 94 :: TL.numL t else TL.numL n
/-- equal neighbours, and how often -/
def grpS (acc : List (Int × Nat)) (k : Int) : List (Int × Nat) := match acc.getLast? with
  | some (a, c) => if a = k then acc.dropLast ++ [(a, c + 1)] else acc ++ [(k, 1)]
  | none => [(k, 1)]
def grp (ns : List Int) : List (Int × Nat) := ns.foldl grpS []
def ungrp (ps : List (Int × Nat)) : List Int := ps.flatMap fun p => List.replicate p.2 p.1
theorem ungrp_app (a b : List (Int × Nat)) : ungrp (a ++ b) = ungrp a ++ ungrp b := List.flatMap_append
theorem last_split {α : Type} {l : List α} {x : α} (h : l.getLast? = some x) : l = l.dropLast ++ [x] := by
  have ne : l ≠ [] := fun e => by
    rw [e] at h
    cases h
  rw [List.getLast?_eq_some_getLast ne] at h
  have e := List.dropLast_concat_getLast ne
  rw [Option.some.inj h] at e
  exact e.symm
theorem ungrp_step (acc : List (Int × Nat)) (k : Int) : ungrp (grpS acc k) = ungrp acc ++ [k] := by
  unfold grpS
  cases h : acc.getLast? with
  | none =>
    have e : acc = [] := by
      cases acc with
      | nil => rfl
      | cons a t => simp at h
    subst e
    simp [ungrp]
  | some p =>
    obtain ⟨a, c⟩ := p
    have e := last_split h
    simp only
    split
    · rename_i z
      subst z
      rw [ungrp_app]
      conv => rhs; rw [e, ungrp_app]
      simp [ungrp, List.replicate_succ']
    · rw [ungrp_app]
      simp [ungrp]
theorem ungrp_fold : ∀ (ns : List Int) (acc : List (Int × Nat)), ungrp (ns.foldl grpS acc) = ungrp acc ++ ns
  | [], acc => by simp
  | k :: r, acc => by
    rw [List.foldl_cons, ungrp_fold r, ungrp_step, List.append_assoc]
    rfl
theorem ungrp_grp (ns : List Int) : ungrp (grp ns) = ns := by
  unfold grp
  rw [ungrp_fold]
  simp [ungrp]
/-- the counts are at least 1; what stands there stands in the list -/
def GrpOk (b : Int → Prop) (N : Nat) (ps : List (Int × Nat)) : Prop := ∀ p ∈ ps, b p.1 ∧ 1 ≤ p.2 ∧ p.2 ≤ N
theorem grp_step {b : Int → Prop} {N : Nat} {acc : List (Int × Nat)} {k : Int} (h : GrpOk b N acc) (hk : b k) : GrpOk b (N + 1) (grpS acc k) := by
  have up : ∀ p ∈ acc, b p.1 ∧ 1 ≤ p.2 ∧ p.2 ≤ N + 1 := fun p hp => ⟨(h p hp).1, (h p hp).2.1, Nat.le_succ_of_le (h p hp).2.2⟩
  unfold grpS
  cases e : acc.getLast? with
  | none =>
    intro p hp
    rw [List.mem_singleton.mp hp]
    exact ⟨hk, Nat.le_refl _, by simp⟩
  | some q =>
    obtain ⟨a, c⟩ := q
    have es := last_split e
    have hq := h (a, c) (by rw [es]; simp)
    simp only
    split
    · intro p hp
      rcases List.mem_append.mp hp with z | z
      · exact up p (List.dropLast_subset _ z)
      · rw [List.mem_singleton.mp z]
        exact ⟨hq.1, by simp, by have := hq.2.2; simp only at this ⊢; omega⟩
    · intro p hp
      rcases List.mem_append.mp hp with z | z
      · exact up p z
      · rw [List.mem_singleton.mp z]
        exact ⟨hk, Nat.le_refl _, by simp⟩
theorem grp_fold {b : Int → Prop} : ∀ (ns : List Int) (N : Nat) (acc : List (Int × Nat)), GrpOk b N acc → (∀ k ∈ ns, b k) → GrpOk b (N + ns.length) (ns.foldl grpS acc)
  | [], N, acc, h, _ => h
  | k :: r, N, acc, h, hk => by
    have := grp_fold r (N + 1) (grpS acc k) (grp_step h (hk k (List.mem_cons_self ..))) fun j hj => hk j (List.mem_cons_of_mem _ hj)
    rw [List.foldl_cons, List.length_cons, show N + (r.length + 1) = N + 1 + r.length by omega]
    exact this
theorem grp_ok {b : Int → Prop} {ns : List Int} (h : ∀ k ∈ ns, b k) : GrpOk b ns.length (grp ns) := by
  have := grp_fold ns 0 [] (fun p z => nomatch z) h
  rw [Nat.zero_add] at this
  exact this
theorem grp_snoc (ns : List Int) (k : Int) : grp (ns ++ [k]) = grpS (grp ns) k := by
  unfold grp
  rw [List.foldl_append]
  rfl
theorem grpS_len (acc : List (Int × Nat)) (k : Int) : (grpS acc k).length ≤ acc.length + 1 ∧ 0 < (grpS acc k).length := by
  unfold grpS
  cases e : acc.getLast? with
  | none => simp
  | some q =>
    obtain ⟨a, c⟩ := q
    have es := congrArg List.length (last_split e)
    simp only [List.length_append, List.length_singleton] at es
    simp only
    split <;> simp <;> omega
theorem grp_len (ns : List Int) : (grp ns).length ≤ ns.length := by
  have : ∀ (ns : List Int) (acc : List (Int × Nat)), (ns.foldl grpS acc).length ≤ acc.length + ns.length := by
    intro ns
    induction ns with
    | nil => intro acc; simp
    | cons k r ih =>
      intro acc
      have a := ih (grpS acc k)
      have b := (grpS_len acc k).1
      rw [List.foldl_cons, List.length_cons]
      omega
  have a := this ns []
  simpa [grp] using a
theorem grp_nil {ns : List Int} : grp ns = [] ↔ ns = [] := by
  constructor
  · intro h
    have e := ungrp_grp ns
    rw [h] at e
    exact e.symm
  · rintro rfl
    rfl
def noneL : List Nat := [110, 111, 110, 101]
def wrds (ns : List Int) : List (List Nat) := (grp ns).map fun p => wrd p.1.toNat p.2
def showL (ns : List Int) : List Nat := if ns = [] then noneL else TL.joinL [44, 32] (wrds ns)
/-! ## and read back -/
def numIn (w : List Nat) : Option Nat := if 1 ≤ w.length ∧ w.length ≤ 200 ∧ w.all dig = true then some (NumText.digitsVal w) else none
def numsIn (w : List Nat) : Option (List Int) := match TL.spl [94] 0 [] w with
  | [] => none
  | f :: o => match numIn f, (match o with | [] => some 1 | t :: _ => numIn t) with
    | some n, some t => if 1 < o.length ∨ n < 2 then none else some (List.replicate t (n : Int))
    | _, _ => none
theorem dig_num (n : Nat) : (TL.numL n).all dig = true := by
  rw [List.all_eq_true]
  intro c hc
  have := TL.numL_digits n c hc
  unfold dig
  rw [Bool.and_eq_true, decide_eq_true_eq, decide_eq_true_eq]
  exact this
theorem numIn_num {n : Nat} (h : (TL.numL n).length ≤ 200) : numIn (TL.numL n) = some n := by
  unfold numIn
  have l : 1 ≤ (TL.numL n).length := by
    cases e : TL.numL n with
    | nil => exact absurd e (TL.numL_ne n)
    | cons a t => simp
  rw [if_pos ⟨l, h, dig_num n⟩, TL.numL_val]
theorem free94 (n : Nat) : 94 ∉ TL.numL n := TL.numL_free (.inr (by decide))
theorem free44 (n t : Nat) : 44 ∉ wrd n t := by
  unfold wrd
  have a : ∀ m, 44 ∉ TL.numL m := fun m => TL.numL_free (.inl (by decide))
  split
  · simp only [List.mem_append, List.mem_cons, not_or]
    exact ⟨a n, by decide, a t⟩
  · exact a n
theorem spl_wrd (n t : Nat) : TL.spl [94] 0 [] (wrd n t) = if 1 < t then [TL.numL n, TL.numL t] else [TL.numL n] := by
  unfold wrd
  split
  · have e := TL.spl_part1 (s := 94) (S := []) (p := TL.numL n) (rest := TL.numL t) (acc := []) (free94 n)
    rw [show TL.numL n ++ 94 :: TL.numL t = TL.numL n ++ ([94] ++ TL.numL t) from rfl, e, TL.spl_last1 (free94 t)]
    rfl
  · rw [TL.spl_last1 (free94 n)]
    rfl
theorem nums_wrd {n t : Nat} (hn : (TL.numL n).length ≤ 200) (ht : (TL.numL t).length ≤ 200) (h2 : 2 ≤ n) (h1 : 1 ≤ t) : numsIn (wrd n t) = some (List.replicate t (n : Int)) := by
  unfold numsIn
  rw [spl_wrd]
  by_cases h : 1 < t
  · rw [if_pos h]
    simp only [numIn_num hn, numIn_num ht]
    rw [if_neg (by simp; omega)]
  · rw [if_neg h]
    simp only [numIn_num hn]
    rw [if_neg (by simp; omega), show t = 1 by omega]
theorem free110 (n t : Nat) : 110 ∉ wrd n t := by
  unfold wrd
  have a : ∀ m, 110 ∉ TL.numL m := fun m => TL.numL_free (.inr (by decide))
  split
  · simp only [List.mem_append, List.mem_cons, not_or]
    exact ⟨a n, by decide, a t⟩
  · exact a n
theorem wrds_ne {ns : List Int} (h : ns ≠ []) : wrds ns ≠ [] := fun e => h (grp_nil.mp (List.map_eq_nil_iff.mp e))
theorem spl_show {ns : List Int} (h : ns ≠ []) : TL.spl [44, 32] 0 [] (showL ns) = wrds ns := by
  unfold showL
  rw [if_neg h]
  refine TL.spl_join (wrds_ne h) fun p hp => ?_
  obtain ⟨q, _, rfl⟩ := List.mem_map.mp hp
  exact free44 _ _
theorem show_ne {ns : List Int} (h : ns ≠ []) : showL ns ≠ noneL := fun e => by
  have a := spl_show h
  rw [e, TL.spl_last1 (show 44 ∉ noneL by decide)] at a
  have m : noneL ∈ wrds ns := by
    rw [← a]
    simp
  obtain ⟨q, _, eq⟩ := List.mem_map.mp m
  have : 110 ∈ noneL := by decide
  rw [← eq] at this
  exact free110 _ _ this
theorem show_inj_nil {ns : List Int} : showL ns = noneL ↔ ns = [] := ⟨fun e => Classical.byContradiction fun h => show_ne h e, fun e => by
  subst e
  rfl⟩
/-- lists that are shown and read here -/
def Nice (ns : List Int) : Prop := (∀ k ∈ ns, 2 ≤ k ∧ k < 10 ^ 200) ∧ ns.length ≤ 5000
theorem num_len {k : Int} (h0 : 0 ≤ k) (h : k < 10 ^ 200) : (TL.numL k.toNat).length ≤ 200 := by
  have e : ((10 : Int) ^ 200) = ((10 ^ 200 : Nat) : Int) := by norm_cast
  refine TL.numL_len (by decide) ?_
  rw [e] at h
  omega
theorem lt5 {n : Nat} (h : n ≤ 5000) : n < sizeLine := by
  rw [sizeLine_eq]
  omega
theorem num_len3 {t : Nat} (h : t ≤ 5000) : (TL.numL t).length ≤ 4 := TL.numL_len (by decide) (by omega)
theorem Nice.grp {ns : List Int} (h : Nice ns) : GrpOk (fun k => 2 ≤ k ∧ k < 10 ^ 200) 5000 (grp ns) := fun p hp => by
  have := grp_ok h.1 p hp
  have l := h.2
  exact ⟨this.1, this.2.1, by omega⟩
theorem wrd_len {k : Int} {t : Nat} (h0 : 0 ≤ k) (h : k < 10 ^ 200) (ht : t ≤ 5000) : (wrd k.toNat t).length ≤ 205 := by
  have a := num_len h0 h
  have b := num_len3 ht
  unfold wrd
  split
  · rw [List.length_append, List.length_cons]
    omega
  · omega
theorem join_len (s : List Nat) : ∀ ws : List (List Nat), (TL.joinL s ws).length ≤ (ws.map (·.length)).sum + ws.length * s.length
  | [] => by simp [TL.joinL]
  | [p] => by simp [TL.joinL]
  | p :: q :: r => by
    have ih := join_len s (q :: r)
    simp only [TL.joinL, List.length_append, List.map_cons, List.sum_cons, List.length_cons] at ih ⊢
    have : (r.length + 1 + 1) * s.length = (r.length + 1) * s.length + s.length := by rw [Nat.add_mul (r.length + 1) 1]; omega
    omega
theorem sum_le {b : Nat} : ∀ {ws : List (List Nat)}, (∀ w ∈ ws, w.length ≤ b) → (ws.map (·.length)).sum ≤ ws.length * b
  | [], _ => by simp
  | w :: r, h => by
    have a := h w (List.mem_cons_self ..)
    have c := sum_le (ws := r) fun x hx => h x (List.mem_cons_of_mem _ hx)
    rw [List.map_cons, List.sum_cons, List.length_cons, Nat.add_mul]
    omega
theorem Nice.words {ns : List Int} (h : Nice ns) : (∀ w ∈ wrds ns, w.length ≤ 205) ∧ (wrds ns).length ≤ 5000 := by
  refine ⟨fun w hw => ?_, ?_⟩
  · obtain ⟨p, hp, rfl⟩ := List.mem_map.mp hw
    obtain ⟨a, b, c⟩ := h.grp p hp
    exact wrd_len (by omega) a.2 c
  · unfold wrds
    rw [List.length_map]
    exact Nat.le_trans (grp_len ns) h.2
theorem Nice.len {ns : List Int} (h : Nice ns) : (showL ns).length ≤ 1050000 := by
  obtain ⟨a, b⟩ := h.words
  unfold showL
  split
  · decide
  · have c := join_len [44, 32] (wrds ns)
    have d := sum_le a
    have e := Nat.mul_le_mul_right 205 b
    have f : (wrds ns).length * ([44, 32] : List Nat).length ≤ 5000 * 2 := Nat.mul_le_mul_right 2 b
    omega
theorem wrds_get {ns : List Int} {i : Nat} {w : List Nat} (h : (wrds ns)[i]? = some w) : ∃ p, (grp ns)[i]? = some p ∧ w = wrd p.1.toNat p.2 := by
  unfold wrds at h
  rw [List.getElem?_map] at h
  cases e : (grp ns)[i]? with
  | none =>
    rw [e] at h
    cases h
  | some p =>
    rw [e] at h
    exact ⟨p, rfl, (Option.some.inj h).symm⟩
theorem ungrp_take {ps : List (Int × Nat)} {i : Nat} {p : Int × Nat} (h : ps[i]? = some p) : ungrp (ps.take (i + 1)) = ungrp (ps.take i) ++ List.replicate p.2 p.1 := by
  rw [List.take_add_one, h, ungrp_app]
  simp [ungrp]
/-! ## the pairs in the heap -/
def Prs (H : Hp) (l : Addr) (ps : List (Int × Nat)) : Prop := ∃ ts : List Addr, H l = some (.lst (ts.map V.ref)) ∧ ts.length = ps.length ∧ ∀ (i : Nat) (t : Addr) (p : Int × Nat), ts[i]? = some t → ps[i]? = some p → H t = some (.tup [.int p.1, .int ((p.2 : Nat) : Int)])
theorem Prs.same {H H' : Hp} {l : Addr} {ps : List (Int × Nat)} (h : Prs H l ps) (s : Same H H') : Prs H' l ps := by
  obtain ⟨ts, a, b, c⟩ := h
  exact ⟨ts, s _ _ a, b, fun i t p h1 h2 => s _ _ (c i t p h1 h2)⟩
def dPs (ps : List (Int × Nat)) : PyData := .list (ps.map fun p => .tuple [.int p.1, .int ((p.2 : Nat) : Int)])
theorem dpall_prs {K : PySem.W.Frag} {H : Hp} : ∀ (ts : List Addr) (ps : List (Int × Nat)), ts.length = ps.length → (∀ (i : Nat) (t : Addr) (p : Int × Nat), ts[i]? = some t → ps[i]? = some p → H t = some (.tup [.int p.1, .int ((p.2 : Nat) : Int)])) →
    DpAll K H (ts.map V.ref) (ps.map fun p => .tuple [.int p.1, .int ((p.2 : Nat) : Int)])
  | [], [], _, _ => .nil
  | [], _ :: _, h, _ => by simp at h
  | _ :: _, [], h, _ => by simp at h
  | t :: ts, p :: ps, h, c => .cons (.tup (SqT.of (c 0 t p rfl rfl)) (.cons (.int _) (.cons (.int _) .nil))) (dpall_prs ts ps (by simpa using h) fun i t' p' h1 h2 => c (i + 1) t' p' (by simpa using h1) (by simpa using h2))
theorem dp_prs {K : PySem.W.Frag} {H : Hp} {l : Addr} {ps : List (Int × Nat)} (h : Prs H l ps) : Dp K H (.ref l) (dPs ps) := by
  obtain ⟨ts, a, b, c⟩ := h
  exact .lst (seqL_of a) (dpall_prs ts ps b c)
theorem can_prs : ∀ ps : List (Int × Nat), PyData.canLayAll0 (ps.map fun p => .tuple [.int p.1, .int ((p.2 : Nat) : Int)]) = true
  | [] => by simp [PyData.canLayAll0]
  | p :: r => by simp [PyData.canLayAll0, PyData.canLay0, can_prs r]
theorem dep_prs : ∀ ps : List (Int × Nat), PyData.depthAll (ps.map fun p => .tuple [.int p.1, .int ((p.2 : Nat) : Int)]) ≤ 1
  | [] => by simp [PyData.depthAll]
  | p :: r => by
    have := dep_prs r
    simp only [List.map_cons, PyData.depthAll, PyData.depth]
    omega
theorem shaped_prs (ps : List (Int × Nat)) : SeqAt.shaped (dPs ps) = true := by
  have := dep_prs ps
  unfold SeqAt.shaped dPs
  rw [Bool.and_eq_true, decide_eq_true_eq]
  refine ⟨by simp only [PyData.canLay0, can_prs], ?_⟩
  show PyData.depth _ ≤ 64
  rw [PyData.depth]
  omega
theorem eqv_prs0 (ps : List (Int × Nat)) : PyData.eqv (dPs ps) (dI []) = decide (ps = []) := by
  unfold dPs dI
  cases ps with
  | nil => simp [PyData.eqv, PyData.eqvAll]
  | cons a r => simp [PyData.eqv, PyData.eqvAll]
/-- found != [] -/
theorem r_nePs {K : PySem.W.Frag} {H : Hp} {l b : Addr} {ps : List (Int × Nat)} {Q : VK} (h1 : Prs H l ps) (h2 : SqL K H b (iv [])) (q : Q (.bl (!decide (ps = []))) H) : rNeQ K (.ref l) (.ref b) H Q :=
  rNeQ_of ⟨dPs ps, dI [], dp_prs h1, dp_iv h2, shaped_prs ps, shaped_dI [], by rw [eqv_prs0]; exact q⟩
theorem Prs.last {H : Hp} {l : Addr} {ps : List (Int × Nat)} {a : Int} {c : Nat} (h : Prs H l ps) (e : ps.getLast? = some (a, c)) :
    ∃ (ts : List Addr) (t : Addr) (j : Nat), H l = some (.lst (ts.map V.ref)) ∧ ixN (ts.map V.ref).length (-1) = some j ∧ atI (ts.map V.ref) (-1) = some (.ref t) ∧ H t = some (.tup [.int a, .int ((c : Nat) : Int)]) ∧
      ∀ (T : Addr) (k : Int) (H' : Hp), (∀ b o, b ≠ l → H b = some o → H' b = some o) → H' T = some (.tup [.int k, .int (((c + 1 : Nat) : Nat) : Int)]) → H' l = some (.lst ((ts.map V.ref).set j (.ref T))) → Prs H' l (ps.dropLast ++ [(k, c + 1)]) := by
  obtain ⟨ts, h1, h2, h3⟩ := h
  have ep := last_split e
  have lp := congrArg List.length ep
  simp only [List.length_append, List.length_singleton, List.length_dropLast] at lp
  have hpos : 0 < ts.length := by omega
  have lt : ts.length - 1 < ts.length := by omega
  have ix : ixN (ts.map V.ref).length (-1) = some (ts.length - 1) := by
    rw [List.length_map]
    unfold ixN
    rw [if_neg (by omega)]
    rw [if_pos (by omega)]
    congr 1
    omega
  have eg : ps[ts.length - 1]? = some (a, c) := by
    rw [h2, ep]
    simp
  refine ⟨ts, ts[ts.length - 1], ts.length - 1, h1, ix, ?_, h3 _ _ _ (List.getElem?_eq_getElem lt) eg, fun T k H' keep hT hl => ?_⟩
  · unfold atI
    rw [ix]
    show (ts.map V.ref)[ts.length - 1]? = _
    rw [List.getElem?_map, List.getElem?_eq_getElem lt]
    rfl
  · refine ⟨ts.set (ts.length - 1) T, by rw [hl, List.map_set], by rw [List.length_set, List.length_append, List.length_dropLast, List.length_singleton]; omega, fun i t p ht hp => ?_⟩
    have li : i < ts.length := by
      have := (List.getElem?_eq_some_iff.mp ht).1
      rw [List.length_set] at this
      exact this
    by_cases z : i = ts.length - 1
    · subst z
      rw [List.getElem?_set_self lt] at ht
      have et : T = t := Option.some.inj ht
      rw [List.getElem?_append_right (by rw [List.length_dropLast]; omega), List.length_dropLast, show ts.length - 1 - (ps.length - 1) = 0 by omega] at hp
      have epp : (k, c + 1) = p := by simpa using hp
      rw [← et, ← epp]
      exact hT
    · rw [List.getElem?_set_ne (by omega)] at ht
      rw [List.getElem?_append_left (by rw [List.length_dropLast]; omega), List.getElem?_dropLast, if_pos (by omega)] at hp
      have old := h3 i t p ht hp
      refine keep t _ (fun e => ?_) old
      rw [e, h1] at old
      cases old
theorem Prs.snoc {H H' : Hp} {l : Addr} {ps : List (Int × Nat)} {k : Int} (h : Prs H l ps) : ∃ ts : List Addr, H l = some (.lst (ts.map V.ref)) ∧ ts.length = ps.length ∧
    ∀ (T : Addr) (H' : Hp), (∀ b o, b ≠ l → H b = some o → H' b = some o) → H' T = some (.tup [.int k, .int ((1 : Nat) : Int)]) → H' l = some (.lst (ts.map V.ref ++ [.ref T])) → Prs H' l (ps ++ [(k, 1)]) := by
  obtain ⟨ts, h1, h2, h3⟩ := h
  refine ⟨ts, h1, h2, fun T H' keep hT hl => ⟨ts ++ [T], by rw [hl]; simp, by simp [h2], fun i t p ht hp => ?_⟩⟩
  by_cases z : i < ts.length
  · rw [List.getElem?_append_left z] at ht
    rw [List.getElem?_append_left (by omega)] at hp
    have old := h3 i t p ht hp
    refine keep t _ (fun e => ?_) old
    rw [e, h1] at old
    cases old
  · have li : i = ts.length := by
      have := (List.getElem?_eq_some_iff.mp ht).1
      simp at this
      omega
    subst li
    rw [List.getElem?_append_right (Nat.le_refl _), Nat.sub_self] at ht
    rw [h2, List.getElem?_append_right (Nat.le_refl _), Nat.sub_self] at hp
    have et : T = t := by simpa using ht
    have ep : (k, 1) = p := by simpa using hp
    rw [← et, ← ep]
    exact hT
theorem show_short {ns : List Int} (h : Nice ns) {n : Nat} (hn : ns.length ≤ n) : (showL ns).length ≤ n * 207 + 4 := by
  obtain ⟨a, b⟩ := h.words
  unfold showL
  split
  · show 4 ≤ _
    omega
  · have c := join_len [44, 32] (wrds ns)
    have d := sum_le a
    have l : (wrds ns).length ≤ n := by
      unfold wrds
      rw [List.length_map]
      exact Nat.le_trans (grp_len ns) hn
    have e := Nat.mul_le_mul_right 205 l
    have f : (wrds ns).length * ([44, 32] : List Nat).length ≤ n * 2 := Nat.mul_le_mul_right 2 l
    omega
theorem fold_rep (k : Int) : ∀ (c : Nat) (gs : List (Int × Nat)) (t : Nat), (List.replicate c k).foldl grpS (gs ++ [(k, t)]) = gs ++ [(k, t + c)]
  | 0, gs, t => by simp
  | c + 1, gs, t => by
    have e : grpS (gs ++ [(k, t)]) k = gs ++ [(k, t + 1)] := by
      unfold grpS
      simp
    rw [List.replicate_succ, List.foldl_cons, e, fold_rep k c gs (t + 1), show t + 1 + c = t + (c + 1) by omega]
theorem grp_add {ns : List Int} {gs : List (Int × Nat)} {k : Int} {c : Nat} (h : grp ns = gs) (hl : ∀ a t, gs.getLast? = some (a, t) → a ≠ k) (hc : 1 ≤ c) : grp (ns ++ List.replicate c k) = gs ++ [(k, c)] := by
  obtain ⟨c', rfl⟩ : ∃ c', c = c' + 1 := ⟨c - 1, by omega⟩
  unfold grp at h ⊢
  rw [List.foldl_append, h, List.replicate_succ, List.foldl_cons]
  have e : grpS gs k = gs ++ [(k, 1)] := by
    unfold grpS
    cases el : gs.getLast? with
    | none =>
      have : gs = [] := List.getLast?_eq_none_iff.mp el
      subst this
      rfl
    | some q =>
      obtain ⟨a, t⟩ := q
      simp only
      rw [if_neg (hl a t el)]
  rw [e, fold_rep k c' gs 1, show 1 + c' = c' + 1 by omega]
theorem grp_two {o : Int} {m : Nat} (h : 1 ≤ m) : grp ((o + 1) :: List.replicate m o) = [(o + 1, 1), (o, m)] :=
  grp_add (ns := [o + 1]) (gs := [(o + 1, 1)]) rfl (fun a t e => by
    have : a = o + 1 := by
      have := congrArg (Option.map Prod.fst) e
      simpa using this.symm
    omega) h
theorem show_two {o : Int} {m : Nat} (h : 2 ≤ m) : showL ((o + 1) :: List.replicate m o) = TL.numL (o + 1).toNat ++ ([44, 32] ++ (TL.numL o.toNat ++ 94 :: TL.numL m)) := by
  unfold showL wrds
  rw [if_neg (by simp), grp_two (by omega)]
  simp only [List.map_cons, List.map_nil, TL.joinL]
  unfold wrd
  rw [if_neg (by decide), if_pos (by omega)]
end Sq


set_option Elab.async false
set_option maxRecDepth 100000
set_option maxHeartbeats 4000000
namespace Sq
open PySem PySem.Spec PyProof.Rows L2
/-! ## lists of lists of ints in the heap -/
/-- at l: a list of lists, their numbers are rows; the lists are younger than G -/
def LL (G H : Hp) (l : Addr) (rows : List (List Int)) : Prop := ∃ ps : List Addr, H l = some (.lst (ps.map V.ref)) ∧ ps.length = rows.length ∧ (∀ p ∈ ps, p ≠ l ∧ G p = none) ∧ ∀ (i : Nat) (p : Addr) (ns : List Int), ps[i]? = some p → rows[i]? = some ns → H p = some (.lst (iv ns))
section
variable {G G' H H' : Hp} {l p : Addr} {rows rows2 : List (List Int)} {ns : List Int}
theorem LL.same (h : LL G H l rows) (s : Same H H') : LL G H' l rows := by
  obtain ⟨ps, a, b, c, d⟩ := h
  exact ⟨ps, s _ _ a, b, c, fun i p ns h1 h2 => s _ _ (d i p ns h1 h2)⟩
theorem LL.old (h : LL G' H l rows) (s : Same G G') : LL G H l rows := by
  obtain ⟨ps, a, b, c, d⟩ := h
  exact ⟨ps, a, b, fun p hp => ⟨(c p hp).1, s.free (c p hp).2⟩, d⟩
theorem LL.nil (h : H l = some (.lst [])) : LL G H l [] := ⟨[], h, rfl, (fun p hp => nomatch hp), fun i p ns h1 _ => by simp at h1⟩
/-- behind a store to another object -/
theorem LL.put {o : Addr} {u u' : HO} (h : LL G H l rows) (ho : G o = some u) (ne : o ≠ l) : LL G (upd H o u') l rows := by
  obtain ⟨ps, a, b, c, d⟩ := h
  refine ⟨ps, upd_off (Ne.symm ne) a, b, c, fun i p ns h1 h2 => upd_off (fun z => ?_) (d i p ns h1 h2)⟩
  have := (c p (List.mem_of_getElem? h1)).2
  rw [z, ho] at this
  cases this
theorem LL.get (h : LL G H l rows) {i : Nat} (e : rows[i]? = some ns) : ∃ p xs, H l = some (.lst xs) ∧ xs[i]? = some (.ref p) ∧ xs.length = rows.length ∧ H p = some (.lst (iv ns)) ∧ p ≠ l ∧ G p = none := by
  obtain ⟨ps, a, b, c, d⟩ := h
  have lt : i < ps.length := by
    rw [b]
    exact (List.getElem?_eq_some_iff.mp e).1
  have ep := List.getElem?_eq_getElem lt
  have cp := c _ (List.mem_of_getElem? ep)
  exact ⟨ps[i], ps.map V.ref, a, by rw [List.getElem?_map, ep]; rfl, by rw [List.length_map]; exact b, d i _ ns ep e, cp.1, cp.2⟩
theorem LL.len (h : LL G H l rows) : ∃ xs, H l = some (.lst xs) ∧ xs.length = rows.length := by
  obtain ⟨ps, a, b, _⟩ := h
  exact ⟨_, a, by rw [List.length_map]; exact b⟩
/-- one list more -/
theorem LL.snoc (h : LL G H l rows) (hp : H p = some (.lst (iv ns))) (np : p ≠ l) (gp : G p = none) : ∃ xs, H l = some (.lst xs) ∧ xs.length = rows.length ∧ LL G (upd H l (.lst (xs ++ [.ref p]))) l (rows ++ [ns]) := by
  obtain ⟨ps, a, b, c, d⟩ := h
  refine ⟨ps.map V.ref, a, by rw [List.length_map]; exact b, ps ++ [p], by rw [upd_same]; simp, by simp [b], fun q hq => ?_, fun i q ms h1 h2 => ?_⟩
  · rcases List.mem_append.mp hq with z | z
    · exact c q z
    · rw [List.mem_singleton.mp z]
      exact ⟨np, gp⟩
  · by_cases lt : i < ps.length
    · rw [List.getElem?_append_left lt] at h1
      rw [List.getElem?_append_left (by omega)] at h2
      exact upd_off (c q (List.mem_of_getElem? h1)).1 (d i q ms h1 h2)
    · rw [List.getElem?_append_right (by omega)] at h1
      rw [List.getElem?_append_right (by omega), ← b] at h2
      cases e : i - ps.length with
      | zero =>
        rw [e] at h1 h2
        have e1 : p = q := by simpa using h1
        have e2 : ns = ms := by simpa using h2
        rw [← e1, ← e2]
        exact upd_off np hp
      | succ k =>
        rw [e] at h1
        simp at h1
/-- the lists of another list behind it -/
theorem LL.ext {G2 : Hp} {d : Addr} {u : HO} (h : LL G H l rows) (h2 : LL G2 H d rows2) (s : Same G G2) (hl : G2 l = some u) : ∃ xs ys, H l = some (.lst xs) ∧ xs.length = rows.length ∧ H d = some (.lst ys) ∧ ys.length = rows2.length ∧ LL G (upd H l (.lst (xs ++ ys))) l (rows ++ rows2) := by
  obtain ⟨ps, a, b, c, e⟩ := h
  obtain ⟨qs, a2, b2, c2, e2⟩ := h2
  have nq : ∀ q ∈ qs, q ≠ l := fun q hq z => by
    have := (c2 q hq).2
    rw [z, hl] at this
    cases this
  refine ⟨ps.map V.ref, qs.map V.ref, a, by rw [List.length_map]; exact b, a2, by rw [List.length_map]; exact b2, ps ++ qs, by rw [upd_same]; simp, by simp [b, b2], fun q hq => ?_, fun i q ms h1 h2 => ?_⟩
  · rcases List.mem_append.mp hq with z | z
    · exact c q z
    · skip
      exact ⟨nq q z, s.free (c2 q z).2⟩
  · by_cases lt : i < ps.length
    · rw [List.getElem?_append_left lt] at h1
      rw [List.getElem?_append_left (by omega)] at h2
      exact upd_off (c q (List.mem_of_getElem? h1)).1 (e i q ms h1 h2)
    · rw [List.getElem?_append_right (by omega)] at h1
      rw [List.getElem?_append_right (by omega), ← b] at h2
      exact upd_off (nq q (List.mem_of_getElem? h1)) (e2 _ q ms h1 h2)
end
/-- all but the source is quiet from now on -/
theorem Sep.full {R : Rg} {G H : Hp} (s : Sep R G H) : ∃ G', Same G G' ∧ Sep R G' H ∧ ∀ a, ¬ R.S a → G' a = H a := by
  classical
  refine ⟨fun a => if R.S a then none else H a, fun b o e => ?_, ⟨s.inv, fun b o e => ?_, fun a ha => if_pos ha⟩, fun a ha => if_neg ha⟩
  · have nb : ¬ R.S b := fun z => by
      have := s.off b z
      rw [e] at this
      cases this
    show (if R.S b then none else H b) = some o
    rw [if_neg nb]
    exact s.same b o e
  · have e : (if R.S b then none else H b) = some o := e
    split at e
    · cases e
    · exact e
theorem LL.move {R : Rg} {G G' J J' : Hp} {l : Addr} {rows : List (List Int)} (h : LL J J' l rows) (hl : J l = none) (s : Sep R G J) (e : ∀ a, ¬ R.S a → G' a = J' a) : LL G G' l rows := by
  have ns : ∀ a, J a = none → ¬ R.S a := fun a ha z => R.has J a s.inv z ha
  obtain ⟨ps, a, b, c, d⟩ := h
  refine ⟨ps, by rw [e l (ns l hl)]; exact a, b, fun p hp => ⟨(c p hp).1, s.free (c p hp).2⟩, fun i p r h1 h2 => ?_⟩
  rw [e p (ns p (c p (List.mem_of_getElem? h1)).2)]
  exact d i p r h1 h2
open Classical in
/-- where the source stands -/
noncomputable def srcH (R : Rg) : Hp := fun a => if R.S a then some (.lst []) else none
theorem srcH_none {R : Rg} {a : Addr} : srcH R a = none ↔ ¬ R.S a := by
  unfold srcH
  split
  · rename_i c
    exact ⟨(fun z => nomatch z), (fun z => absurd c z)⟩
  · rename_i c
    exact ⟨fun _ => c, fun _ => rfl⟩
theorem LL.into {R : Rg} {G' J' : Hp} {l : Addr} {rows : List (List Int)} (h : LL (srcH R) J' l rows) (hl : ¬ R.S l) (e : ∀ a, ¬ R.S a → G' a = J' a) : LL (srcH R) G' l rows := by
  obtain ⟨ps, a, b, c, d⟩ := h
  refine ⟨ps, by rw [e l hl]; exact a, b, c, fun i p r h1 h2 => ?_⟩
  rw [e p (srcH_none.mp (c p (List.mem_of_getElem? h1)).2)]
  exact d i p r h1 h2
theorem Sep.src {R : Rg} {G H : Hp} {a : Addr} {o : HO} (s : Sep R G H) (h : G a = some o) : srcH R a = none := srcH_none.mpr fun z => by
  have := s.off a z
  rw [h] at this
  cases this
theorem Sep.srcN {R : Rg} {G H : Hp} {a : Addr} (s : Sep R G H) (h : H a = none) : ¬ R.S a := fun z => R.has H a s.inv z h
end Sq


set_option Elab.async false
set_option maxRecDepth 100000
set_option maxHeartbeats 2000000
/-! for in a generator's body; list(g(..)) -/
namespace Sq
open PySem PySem.Spec PyProof.Rows L2 GenW
section
variable {prog : Program} {w : World} {A : Around} {R : GenEnd} {Y : Protocol} {n : Nat} {s₀ : Shared} {c : Code} {fs : List Frame} {s : Shared} {env : Env}
  {K : Flow → Sem PySem.Fin} {H : Value → Sem PySem.Fin} {gd : Bool → Bool} {lv : List Value → List Value}
theorem seg_For {target iter : Expr} {body orelse : List Stmt} {pos : Pos}
    (h : wpAny (model prog w) (A.over c fs) (eval iter env) (fun x s₁ => wpAny (model prog w) (A.over c fs) (pyIter x) (fun it s₂ =>
      ∀ p, Seg (model prog w) A R Y n s₀ (.forLoop target it body orelse env) ((model prog w).den (.forLoop target it body orelse env))
        (.ret (fun r => ((match r with | .ok f => (.pure f : Sem Flow) | .error e => .raise e).onRaise (cameBack env)).wrap K H gd lv) none (gd false) (lv []) c p [] :: fs) s₂)
      (fun x s' => Seg (model prog w) A R Y n s₀ c (H x) fs s') s₁) (fun x s' => Seg (model prog w) A R Y n s₀ c (H x) fs s') s)
    (hs : ∀ x, foldedSetIterable iter env x = pure x := by intro _; rfl) :
    Seg (model prog w) A R Y n s₀ c ((exec (.For target iter body orelse pos) env).wrap K H gd lv) fs s := by
  rw [exec_For]
  refine seg_bind_wrap (wpAny_standAt (seg_bind_wrap (wpAny_mono h (fun x s₁ h₁ => ?_) fun _ _ z => z)))
  refine seg_bind_wrap (wpAny_of_eq (hs x) (seg_bind_wrap (wpAny_standAt (seg_bind_wrap (wpAny_holding (wpAny_mono h₁ (fun it s₂ h₂ => ?_) fun _ _ z => z))))))
  exact seg_call h₂
theorem seg_forLoop {target : Expr} {it : Value} {body : List Stmt}
    (h : wpAny (model prog w) (A.over (.forLoop target it body [] env) fs) (pyNext it) (fun r s₁ => match r with
      | none => Seg (model prog w) A R Y n s₀ (.block [] env) (.pure (.done .next)) fs s₁
      | some v => wpAny (model prog w) (A.over (.forLoop target it body [] env) fs) (letOwnedTupleGo target it v) (fun _ s₁' =>
          wpAny (model prog w) (A.over (.forLoop target it body [] env) fs) (assign target env v) (fun _ s₂ =>
            Seg (model prog w) A R Y n s₀ (.forLoop target it body [] env) ((execs body env).wrap (fun f => match f with
            | .next | .cont => .pure (.again (.forLoop target it body [] env))
            | .brk => .pure (.done .next)
            | .ret v => .pure (.done (.ret v))) (fun e => (do noteFrame e env; theTreesLotGoes e : Sem Unit).wrap (fun _ => .raise e) .raise id id) id id) fs s₂)
          (fun x s' => Seg (model prog w) A R Y n s₀ (.forLoop target it body [] env) ((do noteFrame x env; theTreesLotGoes x : Sem Unit).wrap (fun _ => .raise x) .raise id id) fs s') s₁')
          (fun x s' => Seg (model prog w) A R Y n s₀ (.forLoop target it body [] env) ((do noteFrame x env; theTreesLotGoes x : Sem Unit).wrap (fun _ => .raise x) .raise id id) fs s') s₁)
      (fun x s' => Seg (model prog w) A R Y n s₀ (.forLoop target it body [] env) ((do noteFrame x env; theTreesLotGoes x : Sem Unit).wrap (fun _ => .raise x) .raise id id) fs s') s) :
    Seg (model prog w) A R Y n s₀ (.forLoop target it body [] env) ((model prog w).den (.forLoop target it body [] env)) fs s := by
  show Seg _ A R Y n s₀ _ ((forTurn target it body [] env).onRaise (fun x => do noteFrame x env; theTreesLotGoes x)) fs s
  rw [Sem.onRaise_eq_wrap]
  have eN : ∀ (x : Value) (s' : Shared), Seg (model prog w) A R Y n s₀ (.forLoop target it body [] env) ((do noteFrame x env; theTreesLotGoes x : Sem Unit).wrap (fun _ => .raise x) .raise id id) fs s' →
      Seg (model prog w) A R Y n s₀ (.forLoop target it body [] env) ((do noteFrame x env; theTreesLotGoes x : Sem Unit).bind fun _ => .raise x) fs s' := fun x s' hx => by
    rw [Sem.bind_eq_wrap]
    exact hx
  unfold forTurn
  refine seg_bind_wrap (wpAny_standAt (seg_bind_wrap (wpAny_onRaise (wpAny_mono h (fun r s₁ h₁ => ?_) fun x s' hx => wpAny_standAt (eN x s' hx)))))
  cases r with
  | none => exact seg_again rfl h₁
  | some v =>
    refine seg_bind_wrap (wpAny_mono h₁ (fun _ s₁' h₁' => ?_) fun x s' hx => eN x s' hx)
    refine seg_bind_wrap (wpAny_mono h₁' (fun _ s₂ h₂ => ?_) fun x s' hx => eN x s' hx)
    rw [Sem.bind_eq_wrap', Sem.wrap_wrap]
    rw [Sem.wrap_congr (execs body env) _ _ (K' := fun f => match f with
            | .next | .cont => .pure (.again (.forLoop target it body [] env))
            | .brk => .pure (.done .next)
            | .ret v => .pure (.done (.ret v))) (H' := (fun e => (do noteFrame e env; theTreesLotGoes e : Sem Unit).wrap (fun _ => .raise e) .raise id id))
        (fun f => by cases f <;> rfl)
        (fun e => by first | exact Sem.bind_eq_wrap _ _ | (show (do noteFrame e env; theTreesLotGoes e : Sem Unit).bind (fun _ => .raise e) = _; rw [Sem.bind_eq_wrap]))]
    exact h₂
end
section
variable {X : Cx}
def tGFor (wi : TI) (g : TG) (tb : TGn) : TGn := fun D ys σ H => wi σ H fun J H1 => ∃ W : Nat → Nat → List V → L2.St → Hp → Prop, (∃ m, W 0 m ys σ H1) ∧ ∀ i m ys σ H, W i m ys σ H →
  (J.stop i H ∧ D.nx ys σ H) ∨ (J.go i H ∧ ∃ N : List V → L2.St → Hp → Prop, (∀ ys' σ' H', N ys' σ' H' → ∃ m', m' < m ∧ W (i + 1) m' ys' σ' H') ∧ ∀ x H', J.yld i H x H' → g x σ H' fun σ2 H2 => tb { D with nx := N, ct := N, bk := D.nx } ys σ2 H2)
theorem gs_for {tg iter : Expr} {body : List Stmt} {wi : TI} {g : TG} {tb : TGn} {pos : Pos} (hp : PassesOwn (model X.prog X.w) X.A X.env X.xe) (hc : X.calm = true) (hi : PI X tg iter wi) (hg : PG X tg g) (hb : GSs X body tb)
    (hs : ∀ x, foldedSetIterable iter X.env x = pure x := by intro _; rfl) : GS X (.For tg iter body [] pos) (tGFor wi g tb) := by
  refine ⟨fun A S ip R n ys s₀ c fs K J gd lv s σ H D gc hn k hI ht => ?_⟩
  obtain ⟨acc, cc, r, I⟩ := hI
  refine seg_For ?_ hs
  rw [gc.over]
  refine wpAny_mono (hi.run _ s σ H _ I ht) (fun v s1 h1 => wpAny_mono h1 (fun itv s2 h2 p => ?_) fun x s' hx => k.exc n s₀ x s' hx) fun x s' hx => k.exc n s₀ x s' hx
  obtain ⟨it, fp, tn, JI, H2, e, I2, T, st2, f2, W, ⟨m0, w0⟩, turn⟩ := h2
  subst e
  have gl := fun (kk : Result → Sem PySem.Fin) => gc_loop (k := kk) (c' := .forLoop tg (.ref it) body [] X.env) (l := lv []) (kp := []) (p := p) gc rfl rfl
  have fpS : ∀ b ∈ fp, b ≠ S := fun b hb z => (f2 b hb).2.2.2.2.2 (S, lstObj acc cc) (List.mem_append_right _ List.mem_cons_self) z.symm
  have stat : ∀ {acc' : Array Value} {c' : Nat} {H' : Hp}, (∀ b ∈ fp, H' b = none) → ∀ b ∈ fp, FpOk X ((S, lstObj acc' c') :: ip) H' b := fun {acc' c' H'} hn b hb => by
    obtain ⟨_, g1, g2, g3, g4, g5⟩ := f2 b hb
    refine ⟨hn b hb, g1, g2, g3, g4, fun q hq => ?_⟩
    rcases List.mem_append.mp hq with hq | hq
    · exact g5 q (List.mem_append_left _ hq)
    · rcases List.mem_cons.mp hq with hq | hq
      · rw [hq]
        exact (fpS b hb).symm
      · exact g5 q (List.mem_append_right _ (List.mem_cons_of_mem _ hq))
  have loop : ∀ (m i n : Nat) (ys : List V) (s₀ s : Shared) (σ : L2.St) (H : Hp), n + ys.length = sizeLine → W i m ys σ H → GI X S ip ys σ H s → tn i s.heap → (∀ b ∈ fp, H b = none) →
      Seg (model X.prog X.w) A R (GY X S) n s₀ (.forLoop tg (.ref it) body [] X.env) ((model X.prog X.w).den (.forLoop tg (.ref it) body [] X.env))
        (.ret (fun r => ((match r with | .ok f => (.pure f : Sem Flow) | .error e => .raise e).onRaise (cameBack X.env)).wrap K J gd lv) none (gd false) (lv []) c p [] :: fs) s := by
    intro m
    induction m using Nat.strongRecOn with
    | ind m ih =>
      intro i n ys s₀ s σ H hn w hI st fr
      have ee : ∀ (n : Nat) (s₀ : Shared) (x : Value) (s' : Shared), X.xe x s' → Seg (model X.prog X.w) A R (GY X S) n s₀ (.forLoop tg (.ref it) body [] X.env)
          ((do noteFrame x X.env; theTreesLotGoes x : Sem Unit).wrap (fun _ => .raise x) .raise id id)
          (.ret (fun r => ((match r with | .ok f => (.pure f : Sem Flow) | .error e => .raise e).onRaise (cameBack X.env)).wrap K J gd lv) none (gd false) (lv []) c p [] :: fs) s' := fun n s₀ x s' hx => by
        refine seg_wrap ?_
        rw [(gl _).over]
        refine wpAny_bind (wpAny_mono (hp x s' hx) (fun _ s'' hcb => wpAny_theTreesLotGoes ?_) fun y s'' hcb => ?_)
        · exact seg_leaf (.error x) (seg_cameBack gc k hcb)
        · exact seg_leaf (.error y) (seg_cameBack gc k hcb)
      refine seg_forLoop ?_
      rw [(gl _).over]
      obtain ⟨acc, cc, r, I⟩ := hI
      rcases turn i m ys σ H w with ⟨stop, qn⟩ | ⟨go, N, hN, step⟩
      · refine wpAny_mono (T.done X rfl rfl rfl hc i _ s σ H X.xe I (stat fr) st stop) (fun r s' hr => ?_) fun x s' hx => ee n s₀ x s' hx
        obtain ⟨hr, I4⟩ := hr
        subst hr
        exact seg_leaf (.ok .next) (k.ok n ys s₀ s' .next hn ⟨σ, H, ⟨acc, cc, r, I4⟩, qn⟩)
      · refine wpAny_mono (T.item X rfl rfl rfl hc i _ s σ H X.xe I (stat fr) st go) (fun r s4 hr => ?_) fun x s' hx => ee n s₀ x s' hx
        obtain ⟨u, hr, h4⟩ := hr
        subst hr
        refine wpAny_mono h4 (fun _ s5 h5 => ?_) fun x s' hx => ee n s₀ x s' hx
        obtain ⟨x, H5, I5, r5, y5, st5, fr5⟩ := h5
        have I5' := I5.pinned (stat fr5) (T.obj _ _ st5)
        refine wpAny_mono (hg.run _ s5 σ H5 x u _ I5' r5 (step x H5 y5)) (fun _ s6 h6 => ?_) fun x s' hx => ee n s₀ x s' hx
        obtain ⟨σ6, H6, I6, q6⟩ := h6
        have gb : GC X S (ip ++ pinsAt fp s5.heap) A (.forLoop tg (.ref it) body [] X.env) (.ret (fun r => ((match r with | .ok f => (.pure f : Sem Flow) | .error e => .raise e).onRaise (cameBack X.env)).wrap K J gd lv) none (gd false) (lv []) c p [] :: fs) id :=
          { gl _ with ip := fun q hq => (List.mem_append.mp hq).elim (gc.ip q) fun z => fpS _ (of_pinsAt z).1 }
        have again : ∀ {ys' : List V} {s7 : Shared} {σ7 : L2.St} {H7 : Hp}, GI X S (ip ++ pinsAt fp s5.heap) ys' σ7 H7 s7 → GI X S ip ys' σ7 H7 s7 ∧ tn (i + 1) s7.heap ∧ ∀ b ∈ fp, H7 b = none := fun {ys' s7 σ7 H7} h7 => by
          obtain ⟨acc7, cc7, r7, I7⟩ := h7
          have pin : ∀ b ∈ fp, ∀ o, s5.heap.get? b = some o → s7.heap.get? b = some o ∧ H7 b = none := fun b hb o e => by
            have z := I7.pin (b, o) (List.mem_append_right _ (List.mem_cons_of_mem _ (List.mem_append_right _ (mem_pinsAt hb e))))
            exact ⟨z.1, z.2.1⟩
          refine ⟨⟨acc7, cc7, r7, I7.pins_of fun q hq => ?_⟩, T.keep _ _ _ st5 fun b hb o e => (pin b hb o e).1, fun b hb => ?_⟩
          · rcases List.mem_cons.mp hq with z | z
            · exact I7.pin q (List.mem_append_right _ (by rw [z]; exact List.mem_cons_self))
            · exact I7.pin q (List.mem_append_right _ (List.mem_cons_of_mem _ (List.mem_append_left _ z)))
          · obtain ⟨o, e, d⟩ := T.obj _ _ st5 b hb
            exact (pin b hb o e).2
        refine hb.run A S (ip ++ pinsAt fp s5.heap) R n ys s₀ _ _ _ _ id id s6 σ6 H6 { D with nx := N, ct := N, bk := D.nx } gb hn ⟨fun n' ys' s₀' s7 f hn' hs7 => ?_, fun n' s₀' x s3 hx => ee n' s₀' x s3 hx⟩ ⟨acc, cc, r, I6⟩ q6
        cases f with
        | next =>
          obtain ⟨σ7, H7, I7, n7⟩ := hs7
          obtain ⟨m', hm, w7⟩ := hN ys' σ7 H7 n7
          obtain ⟨a1, a2, a3⟩ := again I7
          exact seg_again rfl (ih m' hm (i + 1) n' ys' s₀' s7 σ7 H7 hn' w7 a1 a2 a3)
        | cont =>
          obtain ⟨σ7, H7, I7, n7⟩ := hs7
          obtain ⟨m', hm, w7⟩ := hN ys' σ7 H7 n7
          obtain ⟨a1, a2, a3⟩ := again I7
          exact seg_again rfl (ih m' hm (i + 1) n' ys' s₀' s7 σ7 H7 hn' w7 a1 a2 a3)
        | brk =>
          obtain ⟨σ7, H7, I7, n7⟩ := hs7
          exact seg_leaf (.ok .next) (k.ok n' ys' s₀' s7 .next hn' ⟨σ7, H7, (again I7).1, n7⟩)
        | ret v =>
          obtain ⟨x7, σ7, H7, I7, r7, n7⟩ := hs7
          exact seg_leaf (.ok (.ret v)) (k.ok n' ys' s₀' s7 (.ret v) hn' ⟨x7, σ7, H7, (again I7).1, r7, n7⟩)
  exact loop m0 0 n ys s₀ s2 σ H2 hn w0 ⟨acc, cc, r, I2⟩ st2 fun b hb => (f2 b hb).1
/-- a comprehension's loop over a list, for any body -/
theorem it_list {K : PySem.W.Frag} {a : Addr} {xs : List V} {H0 : Hp} {Bd : V → Hp → (Hp → Prop) → Prop} {Qd : Hp → Prop} (Pv : Nat → Hp → Prop) (h0 : Pv 0 H0) (hl : ∀ i H, i ≤ xs.length → Pv i H → SqL K H a xs)
    (hs : ∀ i x H, xs[i]? = some x → Pv i H → Bd x H (Pv (i + 1))) (hd : ∀ H, Pv xs.length H → Qd H) :
    ∃ W : Nat → Nat → Hp → Prop, (∃ m, W 0 m H0) ∧ ∀ i m H, W i m H →
      ((Itl K a).stop i H ∧ Qd H) ∨ ((Itl K a).go i H ∧ ∃ Nx : Hp → Prop, (∀ H', Nx H' → ∃ m', m' < m ∧ W (i + 1) m' H') ∧ ∀ x H', (Itl K a).yld i H x H' → Bd x H' Nx) := by
  refine ⟨fun i m H => m = xs.length - i ∧ i ≤ xs.length ∧ Pv i H, ⟨xs.length, by simp, Nat.zero_le _, h0⟩, ?_⟩
  rintro i m H ⟨rfl, hi, p⟩
  have q := hl i H hi p
  by_cases hlt : i < xs.length
  · refine .inr ⟨⟨xs, xs[i], q, by simp [hlt]⟩, Pv (i + 1), fun H' p' => ⟨xs.length - (i + 1), by omega, rfl, hlt, p'⟩, fun x H' y => ?_⟩
    obtain ⟨e, y⟩ := y
    subst e
    exact hs i x _ (y xs q) p
  · have e : i = xs.length := by omega
    subst e
    exact .inl ⟨⟨xs, q, Nat.le_refl _⟩, hd H p⟩
theorem gfor_list {K : PySem.W.Frag} {a : Addr} {xs : List V} {g : TG} {tb : TGn} {D : GEnds} {ys : List V} {σ : L2.St} {H : Hp} (Pv : Nat → List V → L2.St → Hp → Prop) (h0 : Pv 0 ys σ H) (hl : ∀ i ys σ H, i ≤ xs.length → Pv i ys σ H → SqL K H a xs)
    (hs : ∀ i x ys σ H, xs[i]? = some x → Pv i ys σ H → g x σ H fun σ2 H2 => tb { D with nx := Pv (i + 1), ct := Pv (i + 1), bk := D.nx } ys σ2 H2) (hd : ∀ ys σ H, Pv xs.length ys σ H → D.nx ys σ H) :
    ∃ W : Nat → Nat → List V → L2.St → Hp → Prop, (∃ m, W 0 m ys σ H) ∧ ∀ i m ys σ H, W i m ys σ H →
      ((Itl K a).stop i H ∧ D.nx ys σ H) ∨ ((Itl K a).go i H ∧ ∃ N : List V → L2.St → Hp → Prop, (∀ ys' σ' H', N ys' σ' H' → ∃ m', m' < m ∧ W (i + 1) m' ys' σ' H') ∧ ∀ x H', (Itl K a).yld i H x H' → g x σ H' fun σ2 H2 => tb { D with nx := N, ct := N, bk := D.nx } ys σ2 H2) := by
  refine ⟨fun i m ys σ H => m = xs.length - i ∧ i ≤ xs.length ∧ Pv i ys σ H, ⟨xs.length, by simp, Nat.zero_le _, h0⟩, ?_⟩
  rintro i m ys σ H ⟨rfl, hi, p⟩
  have q := hl i ys σ H hi p
  by_cases hlt : i < xs.length
  · refine .inr ⟨⟨xs, xs[i], q, by simp [hlt]⟩, Pv (i + 1), fun ys' σ' H' p' => ⟨xs.length - (i + 1), by omega, rfl, hlt, p'⟩, fun x H' y => ?_⟩
    obtain ⟨e, y⟩ := y
    subst e
    exact hs i x ys σ _ (y xs q) p
  · have e : i = xs.length := by omega
    subst e
    exact .inl ⟨⟨xs, q, Nat.le_refl _⟩, hd ys σ H p⟩
end
/-- a generator def that may be called by its name -/
structure CalGn (P : Program) (w : World) (K : PySem.W.Frag) (mg : Str → Option Value) (base : Heap) (k : Nat) (x : Str) (ps : List Str) (sp : SpG) : Prop where
  ex : ∃ (f : Addr) (fd : FuncData), GFn P w K mg base k f fd ps sp ∧ mg x = some (.ref f) ∧ PySem.W.keepIn K (.ref f) = true ∧ Binds K fd ps []
section
variable {P : Program} {w : World} {K : PySem.W.Frag} {mg : Str → Option Value} {base : Heap}
theorem DefAt.gen {x : Str} {st : Stmt} {ps N : List Str} {k : Nat} {sp : SpG} (D : DefAt K mg x st ps) (S : GScope N ps (defScope st)) (len : ∀ vs H Q E, sp vs H Q E → vs.length = ps.length)
    (hb : ∀ (f : Addr) (cdv : Value) (A : Around) (outer : List Env) (s : Shared) (H : Hp) (vs : List V) (Q : List V → Hp → Prop) (E : XK) (pn : List (Addr × Obj)), Room k (A.deeper (envOfC x (defScope st) s.heap.objs.size f cdv)) →
      Takes (gcxOf P w K mg base N x (defScope st) f cdv A outer s H E pn) (fun cls d _ H' => E cls d H') → PassesOwn (model P w) (gcxOf P w K mg base N x (defScope st) f cdv A outer s H E pn).A (gcxOf P w K mg base N x (defScope st) f cdv A outer s H E pn).env (gcxOf P w K mg base N x (defScope st) f cdv A outer s H E pn).xe → sp vs H Q E →
      ∃ t, GSs (gcxOf P w K mg base N x (defScope st) f cdv A outer s H E pn) (defBody st) t ∧ t { nx := fun ys _ H' => Q ys H', rt := fun ys v H' => v = .non ∧ Q ys H' } [] (start N vs) H) : CalGn P w K mg base (k + 1) x ps sp := by
  obtain ⟨f, fd, ⟨⟨oc, od, kV, doc, pm, an, cdv, ct, osl, rfl, lk, hcd⟩, kp⟩, hm, b⟩ := D.ex
  exact ⟨f, _, gfn_of lk hcd S len fun A outer s H vs Q E pn hr hsp => hb f cdv A outer s H vs Q E pn hr takes_gcx owns_gcx hsp, hm, kp, b⟩
end
section
variable {X : Cx} {k j : Nat} {x : Str} {ps : List Str} {sp : SpG} {p p2 pos pos' : Pos} {e : Expr} {es : List Expr} {t : TA}
theorem noStop0 {K : PySem.W.Frag} : NoStop K E0 := fun _ _ _ h => False.elim h
theorem passesX0 {P : Program} {w : World} : Passes (CX P w) X E0 := fun pins σ H s e s' I h => by
  obtain ⟨_, _, _, _, _, _, _, _, _, _, _, _, z⟩ := h
  exact False.elim z
/-- list(g(e, ..)) -/
theorem pe_lg {nm : Str} (c : CalGn X.prog X.w X.K X.mg X.base k x ps sp) (hr : Room j X.A) (hk : k + 3 ≤ j) (hg : Gl X x) (ha : PA X (e :: es) t) (hgl : Gl X nm) (hmg : X.mg nm = none) (hv : bootBuiltins nm = some (.type "list")) (hnm : nm ≠ "__name__" := by decide)
    (hdn : (nm == ("__debug__" : Str)) = false := by decide) (hdb : (x == ("__debug__" : Str)) = false := by decide) (he : starEach (e :: es) X.env = (false, eval e X.env) :: starEach es X.env := by rfl) (hpl : (backTo pos (starEach es X.env)).any (·.1) = false := by rfl)
    (he2 : starEach [.Call (.Name x p) (e :: es) [] pos] X.env = (false, eval (.Call (.Name x p) (e :: es) [] pos) X.env) :: starEach [] X.env := by rfl) :
    PE X (.Call (.Name nm p2) [.Call (.Name x p) (e :: es) [] pos] [] pos') (tListG (tCallG sp [] E0 t)) := by
  obtain ⟨f, fd, F, hm, kp, b⟩ := c.ex
  exact pe_listG (pgen_call F (hr.mono (by omega)) hg hm kp b .nil ha hdb he hpl) passesX0 noStop0 (hr.mono hk) hgl hmg hv hnm hdn he2
end
end Sq


set_option Elab.async false
set_option maxRecDepth 100000
set_option maxHeartbeats 4000000
/-! a generator def with defaults, all of whose values are handed in -/
namespace Sq
open PySem PySem.Spec PyProof.Rows L2
section
variable {P : Program} {w : World} {K : PySem.W.Frag} {mg : Str → Option Value} {base : Heap}
theorem genD_ok {x : Str} {st : Stmt} {ps N : List Str} {k : Nat} {sp : SpG} {dvs : List V} {f : Addr} {fd : FuncData} (F : FunD K x x (defArgs st) (defBody st) (defScope st) dvs [] f fd) (S : GScope N ps (defScope st)) (len : ∀ vs H Q E, sp vs H Q E → vs.length = ps.length)
    (hb : ∀ (cdv : Value) (A : Around) (outer : List Env) (s : Shared) (H : Hp) (vs : List V) (Q : List V → Hp → Prop) (E : XK) (pn : List (Addr × Obj)), Room k (A.deeper (envOfC x (defScope st) s.heap.objs.size f cdv)) →
      Takes (gcxOf P w K mg base N x (defScope st) f cdv A outer s H E pn) (fun cls d _ H' => E cls d H') → PassesOwn (model P w) (gcxOf P w K mg base N x (defScope st) f cdv A outer s H E pn).A (gcxOf P w K mg base N x (defScope st) f cdv A outer s H E pn).env (gcxOf P w K mg base N x (defScope st) f cdv A outer s H E pn).xe → sp vs H Q E →
      ∃ t, GSs (gcxOf P w K mg base N x (defScope st) f cdv A outer s H E pn) (defBody st) t ∧ t { nx := fun ys _ H' => Q ys H', rt := fun ys v H' => v = .non ∧ Q ys H' } [] (start N vs) H) : GFn P w K mg base (k + 1) f fd ps sp := by
  obtain ⟨⟨oc, od, dV, kV, doc, pm, an, cdv, ct, osl, e, lk, hcd, _⟩, kp⟩ := F
  subst e
  exact gfn_of lk hcd S len fun A outer s H vs Q E pn hr hsp => hb cdv A outer s H vs Q E pn hr takes_gcx owns_gcx hsp
end
end Sq


set_option Elab.async false
set_option maxRecDepth 100000
set_option maxHeartbeats 4000000
/-! a method's call, where the context's K is to be named (as in MDfl: not both) -/
namespace Sq
open PySem PySem.Spec PyProof.Rows L2
section
variable {X : Cx} {K' : PySem.W.Frag} {name : Str} {T id : String} {r : V → List V → Hp → VK → Prop} {o e : Expr} {es : List Expr} {to : TE} {t : TA} {apos cpos : Pos}
/-- a method's call, where the context's K is to be named -/
theorem pe_bmK (pa : PlainAttrs T) (slot : Slot T name id) (hty : typeOf (.builtin id) = pure (.type "method_descriptor")) (hm : MtR X id r) (ho : PE X o to) (ha : PA X (e :: es) t) (hK : X.K = K' := by rfl)
    (hbase : attributeBase o name X.env (eval o X.env) = eval o X.env := by rfl)
    (hfew : ((backTo cpos (starEach (e :: es) X.env)).all (fun x => !x.1) && (backToKw cpos (keywordEach [] X.env)).all (fun x => x.1.isSome)
      && decide ((e :: es).length + ([] : List Keyword).length + (if ([] : List Keyword).isEmpty then 0 else 1) < 30)) = true := by rfl)
    (hline : (apos.endLine == cpos.line) = true := by rfl) (hs : starEach (e :: es) X.env = (false, eval e X.env) :: starEach es X.env := by rfl) (hplain : (backTo cpos (starEach es X.env)).any (·.1) = false := by rfl) :
    PE X (.Call (.Attribute o name apos) (e :: es) [] cpos) (tBM K' T r to t) := by
  subst hK
  exact pe_bm pa slot hty hm ho ha hbase hfew hline hs hplain
end
end Sq


set_option Elab.async false
set_option maxRecDepth 100000
set_option maxHeartbeats 4000000
/-! xs <= ys of two lists of ints -/
namespace Sq
open PySem PySem.Spec PyProof.Rows L2 PySem.SeqAt
open PySem.AutoSeq1 (wpAny_loadPart')
open PySem.MeetsSeq PySem.MeetsSeq2 PySem.MeetsSeq3 PySem.SeqRoads2
/-- the list's object -/
abbrev lob (dd : Option Addr) (its : Array Value) (n : Nat) (sl : Array (Option Value)) : Obj := { cls := .type "list", dict := dd, data := .seq its n, slots := sl }
theorem le_turns {l b : Addr} {xs ys : Array Value} {n n2 : Nat} {dd dd2 : Option Addr} {sl sl2 : Array (Option Value)} {e r : Nat → Bool} : ∀ (k i : Nat), min xs.size ys.size - i = k →
    Meets (Builtin.«list.__eq__.loop» ⟨[.ref l, .ref b, rawInt i, rawInt 1], []⟩) (fun A R s => s.heap.get? l = some (lob dd xs n sl) ∧ s.heap.get? b = some (lob dd2 ys n2 sl2) ∧
      (∀ j (h1 : j < xs.size) (h2 : j < ys.size), EqAt A.in1 s xs[j] ys[j] (e j)) ∧ (∀ j (h1 : j < xs.size) (h2 : j < ys.size), e j = false → Ob.RcOp .LtE A.in1 s xs[j] ys[j] (r j)) ∧
      R (.ok (.ret (.bool (Ob.lexAt e r (decide (xs.size ≤ ys.size)) i k)))) s) := by
  intro k
  induction k with
  | zero =>
    intro i hk prog w A R s h
    obtain ⟨hp, g, d, tk, os⟩ := s
    obtain ⟨hl, hb, he, hr, h⟩ := h
    rw [Ob.lexAt_zero] at h
    wp_walk using wpAny_loadPart' hl, wpAny_loadPart' hb
    by_cases c : xs.size ≤ i
    · have g1 : xs[((i : Nat) : Int).toNat]? = none := by simp; omega
      rw [g1]
      wp_walk using wpAny_loadPart' hl, wpAny_loadPart' hb
      exact h
    · have lt : i < xs.size := by omega
      have g1 : xs[((i : Nat) : Int).toNat]? = some xs[i] := by simp [lt]
      have g2 : ys[((i : Nat) : Int).toNat]? = none := by simp; omega
      rw [g1, g2]
      wp_walk using wpAny_loadPart' hl, wpAny_loadPart' hb
      exact h
  | succ k ih =>
    intro i hk prog w A R s h
    obtain ⟨hp, g, d, tk, os⟩ := s
    obtain ⟨hl, hb, he, hr, h⟩ := h
    have l1 : i < xs.size := by omega
    have l2 : i < ys.size := by omega
    have g1 : xs[((i : Nat) : Int).toNat]? = some xs[i] := by simp [l1]
    have g2 : ys[((i : Nat) : Int).toNat]? = some ys[i] := by simp [l2]
    have ei : ((i : Int) + 1) = ((i + 1 : Nat) : Int) := by push_cast; rfl
    rw [Ob.lexAt_succ] at h
    wp_walk using wpAny_loadPart' hl, wpAny_loadPart' hb
    rw [g1, g2]
    apply wpAny_bind
    refine he i l1 l2 prog w _ _ ?_
    cases c : e i with
    | true =>
      rw [c, if_pos rfl] at h
      wp_walk
      rw [ei]
      refine And.intro (plainId_quiet plain_eq_loop _) (codeAny_builtin entry_eq_loop ?_)
      rw [Around.under_plainId plain_eq_loop _]
      exact ih (i + 1) (by omega) prog w A R _ ⟨hl, hb, he, hr, h⟩
    | false =>
      rw [c, if_neg Bool.false_ne_true] at h
      wp_walk using wpAny_loadPart' hl, wpAny_loadPart' hb
      rw [g1, g2]
      have hri := hr i l1 l2 c prog w
      wp_walk using hri
      exact h
theorem list_le {l b : Addr} {xs ys : Array Value} {n n2 : Nat} {dd dd2 : Option Addr} {sl sl2 : Array (Option Value)} {e r : Nat → Bool} :
    Meets (Builtin.«list.__le__» ⟨[.ref l, .ref b], []⟩) (fun A R s => s.heap.get? l = some (lob dd xs n sl) ∧ s.heap.get? b = some (lob dd2 ys n2 sl2) ∧
      (∀ j (h1 : j < xs.size) (h2 : j < ys.size), EqAt A.in1 s xs[j] ys[j] (e j)) ∧ (∀ j (h1 : j < xs.size) (h2 : j < ys.size), e j = false → Ob.RcOp .LtE A.in1 s xs[j] ys[j] (r j)) ∧
      R (.ok (.ret (.bool (Ob.lexAt e r (decide (xs.size ≤ ys.size)) 0 (min xs.size ys.size))))) s) := by
  intro prog w A R s h
  obtain ⟨hp, g, d, tk, os⟩ := s
  obtain ⟨hl, hb, he, hr, h⟩ := h
  have f3 := AutoSeq1.sub_list_list
  wp_walk using wpAny_loadPart' hl, wpAny_loadPart' hb
  refine And.intro (plainId_quiet plain_eq_loop _) (codeAny_builtin entry_eq_loop ?_)
  rw [Around.under_plainId plain_eq_loop _]
  exact le_turns _ 0 (Nat.sub_zero _) prog w A R _ ⟨hl, hb, he, hr, h⟩
section
variable {A : Around} {s : Shared}
theorem rc_lists {l b : Addr} {xs ys : Array Value} {e r : Nat → Bool} (hl : s.heap.IsList l xs) (hb : s.heap.IsList b ys) (hu : A.units < cLine) (he : ∀ j (h1 : j < xs.size) (h2 : j < ys.size), EqAt A.in1 s xs[j] ys[j] (e j))
    (hr : ∀ j (h1 : j < xs.size) (h2 : j < ys.size), e j = false → Ob.RcOp .LtE A.in1 s xs[j] ys[j] (r j)) : Ob.RcOp .LtE A s (.ref l) (.ref b) (Ob.lexAt e r (decide (xs.size ≤ ys.size)) 0 (min xs.size ys.size)) := by
  intro prog w E Q h
  obtain ⟨⟨cl, dd, dt, sl⟩, ho, hc, n, hd⟩ := id hl
  obtain ⟨⟨cl2, dd2, dt2, sl2⟩, ho2, hc2, n2, hd2⟩ := id hb
  simp only at hc hd hc2 hd2
  subst hc hd hc2 hd2
  refine richCompare_meets_room (op := .LtE) ⟨_, ho, rfl⟩ ⟨_, ho2, rfl⟩ F.slot_list_le F.entry_list_le (F.args_list_le_2 _ _) (list_le (l := l) (b := b) (xs := xs) (ys := ys) (n := n) (n2 := n2) (dd := dd) (dd2 := dd2) (sl := sl) (sl2 := sl2) (e := e) (r := r)) ?_ hu
  exact ⟨ho, ho2, he, hr, (fun x => nomatch x), h⟩
end
/-- xs <= ys, in the order of lists -/
def lexLe : List Int → List Int → Bool
  | [], _ => true
  | _ :: _, [] => false
  | x :: xs, y :: ys => if x = y then lexLe xs ys else decide (x ≤ y)
theorem lex_at : ∀ (ns ms : List Int) (k i : Nat) (as bs : List Int), k = min ns.length ms.length → (∀ j, ns.getD j 0 = as.getD (i + j) 0) → (∀ j, ms.getD j 0 = bs.getD (i + j) 0) → ∀ z, z = decide (ns.length ≤ ms.length) →
    Ob.lexAt (fun j => decide (as.getD j 0 = bs.getD j 0)) (fun j => decide (as.getD j 0 ≤ bs.getD j 0)) z i k = lexLe ns ms
  | [], ms, k, i, as, bs, hk, _, _, z, hz => by
    subst hk hz
    simp [Ob.lexAt_zero, lexLe]
  | n :: ns, [], k, i, as, bs, hk, _, _, z, hz => by
    subst hk hz
    simp [Ob.lexAt_zero, lexLe]
  | n :: ns, m :: ms, k, i, as, bs, hk, ha, hb, z, hz => by
    have e1 := ha 0
    have e2 := hb 0
    simp only [List.getD_cons_zero, Nat.add_zero] at e1 e2
    have hk2 : k = min ns.length ms.length + 1 := by
      rw [hk]
      simp only [List.length_cons]
      omega
    rw [hk2, Ob.lexAt_succ, ← e1, ← e2]
    have ih := lex_at ns ms _ (i + 1) as bs rfl (fun j => by
      have := ha (j + 1)
      rw [List.getD_cons_succ] at this
      rw [this, show i + 1 + j = i + (j + 1) by omega]) (fun j => by
      have := hb (j + 1)
      rw [List.getD_cons_succ] at this
      rw [this, show i + 1 + j = i + (j + 1) by omega]) z (by
      rw [hz]
      simp)
    unfold lexLe
    by_cases c : n = m
    · rw [if_pos (decide_eq_true c), if_pos c]
      exact ih
    · rw [if_neg (by simpa using c), if_neg c]
section
variable {X : Cx} {K : PySem.W.Frag}
def rLeL (K : PySem.W.Frag) : R2 := fun x y H Q => ∃ (a b : Addr) (ns ms : List Int), x = .ref a ∧ y = .ref b ∧ SqL K H a (iv ns) ∧ SqL K H b (iv ms) ∧ Q (.bl (lexLe ns ms)) H
theorem op_leL (hu : X.A.units < cLine) (hK : X.K = K := by rfl) : OpR X (compareOp .LtE) (rLeL K) := by
  subst hK
  intro pins s σ H x y v u Q I rx ry h
  obtain ⟨a, b, ns, ms, rfl, rfl, ha, hb, q⟩ := h
  cases rx
  cases ry
  obtain ⟨its, r1, p1, _⟩ := I.list ha
  obtain ⟨its2, r2, p2, _⟩ := I.list hb
  have i1 : IntsAre its ns := Vals.ints r1
  have i2 : IntsAre its2 ms := Vals.ints r2
  have e1 : its.toArray.size = ns.length := by rw [List.size_toArray]; exact i1.length
  have e2 : its2.toArray.size = ms.length := by rw [List.size_toArray]; exact i2.length
  have g1 : ∀ j (h1 : j < its.toArray.size), ∃ t, its.toArray[j] = .int (ns.getD j 0) t := fun j h1 => PyProof.Rows.IntsAre.int_at i1 _ _ (by simp at h1; simp [h1])
  have g2 : ∀ j (h1 : j < its2.toArray.size), ∃ t, its2.toArray[j] = .int (ms.getD j 0) t := fun j h1 => PyProof.Rows.IntsAre.int_at i2 _ _ (by simp at h1; simp [h1])
  have R := rc_lists (A := X.A) (s := s) (e := fun j => decide (ns.getD j 0 = ms.getD j 0)) (r := fun j => decide (ns.getD j 0 ≤ ms.getD j 0)) p1.isList p2.isList hu (fun j h1 h2 => by
    obtain ⟨t, q1⟩ := g1 j h1
    obtain ⟨t', q2⟩ := g2 j h2
    rw [q1, q2, show decide (ns.getD j 0 = ms.getD j 0) = (ns.getD j 0 == ms.getD j 0) from (Bool.beq_eq_decide_eq _ _).symm]
    exact SeqAt.EqAt.int_int _ _ _ _) (fun j h1 h2 _ => by
    obtain ⟨t, q1⟩ := g1 j h1
    obtain ⟨t', q2⟩ := g2 j h2
    rw [q1, q2]
    exact Ob.RcOp.le_int _ _ _ _)
  rw [e1, e2, lex_at ns ms _ 0 ns ms rfl (fun j => by rw [Nat.zero_add]) (fun j => by rw [Nat.zero_add]) _ rfl] at R
  exact R X.prog X.w X.xe (EP X pins σ Q) ⟨.bl _, H, I, rfl, q⟩
end
end Sq

/-! ## own tactic words (local) -/
local macro_rules | `(tactic| walk_at "sq hp") => `(tactic| first
  | assumption
  | exact L2.upd_same
  | (refine Sq.Sep.get (by assumption) ?_; walk_at "sq hp")
  | (refine Sq.upd_keep (by assumption) ?_; walk_at "sq hp")
  | (refine Sq.Same.get (by assumption) ?_; walk_at "sq hp")
  | (refine Sq.upd_off (by assumption) ?_; walk_at "sq hp")
  | (refine Sq.upd_off (Ne.symm (by assumption)) ?_; walk_at "sq hp"))
local macro_rules | `(tactic| walk_at "sq sql") => `(tactic| first
  | assumption
  | exact Sq.seqL_of (by walk_at "sq hp")
  | exact L2.Same.seq (by assumption) (by assumption)
  | exact L2.Same.seq (Sq.Sep.same (by assumption)) (by assumption))
local macro_rules | `(tactic| walk_at "sq len") => `(tactic| (
  (try simp only [List.length_map, List.length_append, List.length_cons, List.length_nil, List.length_take, List.length_drop, List.length_reverse]); (try rw [PySem.sizeLine_eq]); omega))
local macro_rules | `(tactic| walk_at "sq side") => `(tactic| first
  | exact rfl
  | exact Nat.zero_le _
  | exact Sq.lit_len (Nat.le_of_ble_eq_true rfl)
  | ((with_reducible show L2.SqL _ _ _ _); walk_at "sq sql")
  | ((with_reducible show L2.SqT _ _ _ _); exact L2.SqT.of (by walk_at "sq hp"))
  | (apply Exists.intro; walk_at "sq sql")
  | ((with_reducible show _ = some _); walk_at "sq hp")
  | ((with_reducible show Sq.Sep _ _ _); assumption)
  | ((with_reducible show L2.ClsV _ _); first | exact .ty _ | exact .own _)
  | ((with_reducible show L2.TyX _ _ _ _); first | exact .base .non | exact .base (.bl _) | exact .base (.int _) | exact .base (.str _) | exact Sq.tyx_lst (by walk_at "sq sql") | exact Sq.tyx_tup (by exact L2.SqT.of (by walk_at "sq hp")) | assumption)
  | ((with_reducible show Sq.CPowW _ _); first | assumption | exact ⟨by decide, by decide, by decide⟩)
  | ((with_reducible show L2.CMulW _ _); first | assumption | exact (by decide +kernel))
  | ((with_reducible show L2.CDivW _ _); first | assumption | exact ⟨by decide, by decide⟩)
  | ((with_reducible show L2.tyV _ "list" _ _); exact Or.inl ⟨rfl, _, by walk_at "sq sql"⟩)
  | ((with_reducible show _ < PySem.sizeLine); walk_at "sq len")
  | ((with_reducible show _ ≤ PySem.sizeLine); walk_at "sq len")
  | ((with_reducible show (0 : Int) < _); first | assumption | decide | omega)
  | decide
  | omega)
local macro_rules | `(tactic| walk_at "sq go") => `(tactic| repeat (first
  | exact rfl
  | (fail_if_success (show ∃ W : Nat → Nat → L2.St → L2.Hp → Prop, _)
     fail_if_success (show ∃ W : Nat → Nat → L2.Hp → Prop, _)
     fail_if_success (show ∃ W : Nat → L2.St → L2.Hp → Prop, _)
     fail_if_success (show ∃ W : Nat → Nat → List L2.V → L2.St → L2.Hp → Prop, _)
     apply Exists.intro)
  | (apply And.intro; focus walk_at "sq side")
  | refine L2.iteT ?_
  | refine L2.iteF ?_))
namespace Sq
open PySem PySem.Spec PyProof.Rows L2
def topS (i : Nat) : Stmt := PySem.Challenge.pw_squeezelists_k08_great_best_lists.main.body.getD i (.Pass ⟨0, 0, 0, 0⟩)
structure Bt (mg : Str → Option Value) : Prop where
  «ValueError» : mg "ValueError" = none
  «bool» : mg "bool" = none
  «enumerate» : mg "enumerate" = none
  «int» : mg "int" = none
  «isinstance» : mg "isinstance" = none
  «len» : mg "len" = none
  «list» : mg "list" = none
  «max» : mg "max" = none
  «min» : mg "min" = none
  «range» : mg "range" = none
  «str» : mg "str" = none
  «tuple» : mg "tuple" = none
section
variable {P : Program} {w : World} {K : PySem.W.Frag} {mg : Str → Option Value} {base : Heap}

/-! ### check_list, of valid lists -/
abbrev s_check_list : Stmt := topS 5
theorem sc_check_list : FnScope ["replacements", "index", "replacement"] ["replacements"] (defScope s_check_list) := ⟨rfl, rfl, rfl, by decide +kernel, rfl, by decide +kernel, by decide +kernel⟩

def spCheckList (K : PySem.W.Frag) : Sp := fun vs H Q _ => ∃ (a : Addr) (ns : List Int), vs = [.ref a] ∧ SqL K H a (iv ns) ∧ Keep (Two ns) ∧ ∀ H', Same H H' → Q .non H'
theorem cal_check_list (D : DefAt K mg "check_list" s_check_list ["replacements"]) (B : Bt mg) : Cal P w K mg base 1 "check_list" (spCheckList K) [] := by
  refine D.cal sc_check_list (fun vs H Q E h => ?_) (fun f cdv A outer s H vs Q E hr h => ?_)
  · obtain ⟨a, ns, rfl, _⟩ := h
    rfl
  · obtain ⟨a, ns, rfl, hS, ⟨h2⟩, q⟩ := h
    refine ⟨_, (pss_one (ps_for PassesOwn.never rfl (pi_enumK (K := K) (by rfl) B.enumerate (pa_cons (pv 0) pa_nil)) (pg_tupK (K := K) (n := 2) rfl (pgs_cons (pg_name (i := 1) sc_check_list.nd rfl (Or.inl rfl)) (pgs_cons (pg_name (i := 2) sc_check_list.nd rfl (Or.inl rfl)) pgs_nil)))
   (pss_one (ps_if (pt_cmpR op_lt (pv 2) pe_int (nomark _)) (pss_one ps_never) pss_nil)))), ?_⟩
    walk_at "sq go"
    refine for_enum (K := K) (a := a) (xs := iv ns) (fun i σ H' => Keep (∃ x y, σ = [some (.ref a), x, y] ∧ Same H H')) ⟨none, none, rfl, .refl H⟩ (fun i σ H' h => ?_) (fun i x T σ H' hx h nT => ?_) (fun σ H' h => ?_)
    · obtain ⟨_, _, _, s⟩ := h.o
      exact s.seq hS
    · obtain ⟨y1, y2, rfl, s⟩ := h.o
      obtain ⟨n, hn, rfl⟩ := iv_get hx
      have hn2 := h2 n (List.mem_of_getElem? hn)
      walk_at "sq go"
      refine ifD (fun c => absurd c (by omega)) (fun c => ?_)
      exact ⟨_, _, rfl, s.trans (same_new nT)⟩
    · obtain ⟨y1, y2, rfl, s⟩ := h.o
      exact q H' s

/-! ### lengths of runs, of valid arguments -/
abbrev s_check_length : Stmt := topS 6
theorem sc_check_length : FnScope ["length"] ["length"] (defScope s_check_length) := ⟨rfl, rfl, rfl, by decide +kernel, rfl, by decide +kernel, by decide +kernel⟩

def spCheckLength : Sp := fun vs H Q _ => ∃ m : Int, vs = [.int m] ∧ Keep (0 ≤ m) ∧ Q .non H
theorem cal_check_length (D : DefAt K mg "check_length" s_check_length ["length"]) (B : Bt mg) : Cal P w K mg base 1 "check_length" spCheckLength [] := by
  refine D.cal sc_check_length (fun vs H Q E h => ?_) (fun f cdv A outer s H vs Q E hr h => ?_)
  · obtain ⟨m, rfl, _⟩ := h
    rfl
  · obtain ⟨m, rfl, ⟨h1⟩, q⟩ := h
    refine ⟨_, (pss_one (ps_if (pt_cmpR op_lt (pv 0) pe_int (nomark _)) (pss_one ps_never) pss_nil)), ?_⟩
    walk_at "sq go"
    exact ifD (fun c => absurd c (by omega)) (fun c => q)

/-! ### reaches, of valid arguments -/
abbrev s_check_most : Stmt := topS 9
theorem sc_check_most : FnScope ["most"] ["most"] (defScope s_check_most) := ⟨rfl, rfl, rfl, by decide +kernel, rfl, by decide +kernel, by decide +kernel⟩

def spCheckMost : Sp := fun vs H Q _ => ∃ m : Int, vs = [.int m] ∧ Keep (1 ≤ m) ∧ Q .non H
theorem cal_check_most (D : DefAt K mg "check_most" s_check_most ["most"]) (B : Bt mg) : Cal P w K mg base 1 "check_most" spCheckMost [] := by
  refine D.cal sc_check_most (fun vs H Q E h => ?_) (fun f cdv A outer s H vs Q E hr h => ?_)
  · obtain ⟨m, rfl, _⟩ := h
    rfl
  · obtain ⟨m, rfl, ⟨h1⟩, q⟩ := h
    refine ⟨_, (pss_one (ps_if (pt_cmpR op_lt (pv 0) pe_int (nomark _)) (pss_one ps_never) pss_nil)), ?_⟩
    walk_at "sq go"
    exact ifD (fun c => absurd c (by omega)) (fun c => q)
abbrev s_reach_before : Stmt := topS 10
theorem sc_reach_before : FnScope ["reached", "replacement"] ["reached", "replacement"] (defScope s_reach_before) := ⟨rfl, rfl, rfl, by decide +kernel, rfl, by decide +kernel, by decide +kernel⟩

theorem rb_Sm {a b : Nat} {R k : Int} (hR : Sm a R) (hk : Sm b k) (hb : 10 ≤ b) (hk2 : 2 ≤ k) (hR1 : 1 ≤ R) : Sm (a + b) (rb R k) := by
  unfold rb
  split
  · exact hR.mono (by omega)
  · rename_i c
    have h1 : 0 ≤ (R + 3 - k) * k - 2 := by
      have := Int.mul_le_mul (show (2 : Int) ≤ R + 3 - k by omega) hk2 (by decide) (by omega)
      omega
    have h2 : (R + 3 - k) * k - 2 ≤ (R + 1) * k := by
      have := Int.mul_le_mul_of_nonneg_right (show R + 3 - k ≤ R + 1 by omega) (show 0 ≤ k by omega)
      omega
    unfold Sm at *
    have e1 : (R + 1).natAbs ≤ 2 ^ a := by omega
    have e2 : ((R + 1) * k).natAbs < 2 ^ (a + b) := by
      rw [Int.natAbs_mul, Nat.pow_add]
      calc (R + 1).natAbs * k.natAbs ≤ 2 ^ a * k.natAbs := Nat.mul_le_mul_right _ e1
        _ < 2 ^ a * 2 ^ b := Nat.mul_lt_mul_of_pos_left hk (Nat.pow_pos (by decide))
    omega
def spReachBefore : Sp := fun vs H Q _ => ∃ R k : Int, vs = [.int R, .int k] ∧ Keep (∃ a b : Nat, 1 ≤ R ∧ 2 ≤ k ∧ Sm a R ∧ Sm b k ∧ 10 ≤ a ∧ 10 ≤ b ∧ a + b ≤ 900000) ∧ Q (.int (rb R k)) H
theorem cal_reach_before (D : DefAt K mg "reach_before" s_reach_before ["reached", "replacement"]) (B : Bt mg) : Cal P w K mg base 1 "reach_before" spReachBefore [] := by
  refine D.cal sc_reach_before (fun vs H Q E h => ?_) (fun f cdv A outer s H vs Q E hr h => ?_)
  · obtain ⟨R, k, rfl, _⟩ := h
    rfl
  · obtain ⟨R, k, rfl, ⟨a, b, hR1, hk2, hR, hk, ha, hb, hab⟩, q⟩ := h
    refine ⟨_, (pss_cons (ps_if (pt_cmpR op_gt (pv 1) (pe_op op_add (pv 0) pe_int) (nomark _)) (pss_one (ps_ret (pv 0))) pss_nil)
  (pss_one (ps_ret (pe_op op_sub (pe_op op_mulW (pe_op op_sub (pe_op op_add (pv 0) pe_int) (pv 1)) (pv 1)) pe_int)))), ?_⟩
    walk_at "sq go"
    refine ifD (fun c => ?_) (fun c => ?_)
    · have e : rb R k = R := if_pos c
      rw [e] at q
      walk_at "sq go"
      exact q
    · have e : rb R k = (R + 3 - k) * k - 2 := if_neg c
      rw [e] at q
      have wd : CMulW (R + 3 - k) k := Sm.wide (a := a + 1) (b := b) (Sm.le (hR.add (Sm.of (i := 1) (by decide) ha)) (by omega) (by omega)) hk (by omega) (by omega) (by omega)
      walk_at "sq go"
      exact q
abbrev s_reach_of : Stmt := topS 11
theorem sc_reach_of : FnScope ["replacements", "most", "reached", "replacement"] ["replacements", "most"] (defScope s_reach_of) := ⟨rfl, rfl, rfl, by decide +kernel, rfl, by decide +kernel, by decide +kernel⟩

/-- numbers of a list and a length of a bounded size -/
def Fit (ns : List Int) (m : Int) : Prop := ∃ b c : Nat, (∀ k ∈ ns, Sm b k) ∧ Sm c m ∧ 10 ≤ b ∧ 10 ≤ c ∧ c + (ns.length + 1) * b ≤ 900000
theorem reachOf_snoc (a : List Int) (k m : Int) : reachOf (a ++ [k]) m = reachOf a (rb m k) := by
  unfold reachOf
  rw [List.foldr_append]
  rfl
theorem foldr_take_rev {row : List Int} {m k : Int} {i : Nat} (h : row.reverse[i]? = some k) : (row.reverse.take (i + 1)).foldl rb m = rb ((row.reverse.take i).foldl rb m) k := by
  rw [List.take_add_one, h, List.foldl_append]
  rfl
theorem reachOf_rev (row : List Int) (m : Int) : row.reverse.foldl rb m = reachOf row m := by
  unfold reachOf
  rw [List.foldl_reverse]
theorem rbs_pos : ∀ {row : List Int} {m : Int}, 1 ≤ m → Two row → m ≤ row.foldl rb m
  | [], m, _, _ => Int.le_refl m
  | k :: r, m, h, t => by
    have p := rb_pos h (t k (List.mem_cons_self ..))
    exact Int.le_trans p (rbs_pos (row := r) (by omega) fun j hj => t j (List.mem_cons_of_mem _ hj))
theorem rbs_Sm : ∀ {row : List Int} {m : Int} {b c : Nat}, 1 ≤ m → Two row → (∀ k ∈ row, Sm b k) → Sm c m → 10 ≤ b → Sm (c + row.length * b) (row.foldl rb m)
  | [], m, b, c, _, _, _, h, _ => by simpa using h
  | k :: r, m, b, c, h1, t, hb, hc, h10 => by
    have hk := t k (List.mem_cons_self ..)
    have p := rb_pos h1 hk
    have ih := rbs_Sm (row := r) (m := rb m k) (b := b) (c := c + b) (by omega) (fun j hj => t j (List.mem_cons_of_mem _ hj)) (fun j hj => hb j (List.mem_cons_of_mem _ hj)) (rb_Sm hc (hb k (List.mem_cons_self ..)) h10 hk h1) h10
    have e : c + b + r.length * b = c + (k :: r).length * b := by
      rw [List.length_cons, Nat.add_mul]
      omega
    rw [e] at ih
    exact ih
def spReachOf (K : PySem.W.Frag) : Sp := fun vs H Q _ => ∃ (p : Addr) (ns : List Int) (m : Int), vs = [.ref p, .int m] ∧ SqL K H p (iv ns) ∧ Keep (Two ns ∧ 1 ≤ m ∧ Fit ns m) ∧ ∀ H', Same H H' → Q (.int (reachOf ns m)) H'
theorem cal_reach_of (D : DefAt K mg "reach_of" s_reach_of ["replacements", "most"]) (B : Bt mg) (c_reach_before : Cal P w K mg base 1 "reach_before" spReachBefore []) : Cal P w K mg base 2 "reach_of" (spReachOf K) [] := by
  refine D.cal sc_reach_of (fun vs H Q E h => ?_) (fun f cdv A outer s H vs Q E hr h => ?_)
  · obtain ⟨p, ns, m, rfl, _⟩ := h
    rfl
  · obtain ⟨p, ns, m, rfl, hS, ⟨h2, hm, b, c, hb, hc, h10, hc10, hz⟩, q⟩ := h
    refine ⟨_, (pss_cons (ps_set (i := 2) sc_reach_of.nd rfl (Or.inl rfl) (pv 1))
  (pss_cons (ps_for PassesOwn.never rfl (pi_listK (K := K) (pe_revLK (K := K) (pv 0))) (pg_name (i := 3) sc_reach_of.nd rfl (Or.inl rfl))
   (pss_one (ps_set (i := 2) sc_reach_of.nd rfl (Or.inl rfl) (pe_c c_reach_before hr (by first | decide | omega) (by rfl) (pa_cons (pv 2) (pa_cons (pv 3) pa_nil))))))
  (pss_one (ps_ret (pv 2))))), ?_⟩
    walk_at "sq go"
    intro t nt
    have sm := same_new (o := .lst (iv ns).reverse) nt
    have ht : SqL K (upd H t (.lst (iv ns).reverse)) t (iv ns.reverse) := by
      have e : iv ns.reverse = (iv ns).reverse := List.map_reverse ..
      rw [e]
      exact seqL_of upd_same
    walk_at "sq go"
    refine for_list (K := K) (a := t) (xs := iv ns.reverse) (fun i σ H' => Keep (∃ y, σ = [some (.ref p), some (.int m), some (.int ((ns.reverse.take i).foldl rb m)), y] ∧ H' = upd H t (.lst (iv ns).reverse))) ⟨none, rfl, rfl⟩ (fun i σ H' _ h => ?_) (fun i x σ H' hx h => ?_) (fun σ H' h => ?_)
    · obtain ⟨_, _, rfl⟩ := h.o
      exact ht
    · obtain ⟨y, rfl, rfl⟩ := h.o
      obtain ⟨k, hk, rfl⟩ := iv_get hx
      have mk : k ∈ ns := List.mem_reverse.mp (List.mem_of_getElem? hk)
      have tk : Two (ns.reverse.take i) := fun j hj => h2 j (List.mem_reverse.mp (List.mem_of_mem_take hj))
      have len : (ns.reverse.take i).length ≤ ns.length := by
        rw [List.length_take, List.length_reverse]
        omega
      have sR := rbs_Sm hm tk (fun j hj => hb j (List.mem_reverse.mp (List.mem_of_mem_take hj))) hc h10
      have sz : c + (ns.reverse.take i).length * b + b ≤ 900000 := by
        have := Nat.mul_le_mul_right b len
        rw [Nat.add_mul] at hz
        omega
      walk_at "sq go"
      refine ⟨⟨_, b, by have := rbs_pos hm tk; omega, h2 k mk, sR, hb k mk, by omega, h10, sz⟩, ?_⟩
      exact ⟨_, by rw [foldr_take_rev hk]; rfl, rfl⟩
    · obtain ⟨y, rfl, rfl⟩ := h.o
      have e : (iv ns.reverse).length = ns.reverse.length := iv_len _
      rw [e, List.take_length, reachOf_rev]
      walk_at "sq go"
      exact q _ sm
abbrev s_reach : Stmt := topS 12
theorem sc_reach : FnScope ["replacements", "most"] ["replacements", "most"] (defScope s_reach) := ⟨rfl, rfl, rfl, by decide +kernel, rfl, by decide +kernel, by decide +kernel⟩

def spReach (K : PySem.W.Frag) : Sp := fun vs H Q _ => ∃ (p : Addr) (ns : List Int) (m : Int), vs = [.ref p, .int m] ∧ SqL K H p (iv ns) ∧ Keep (Two ns ∧ 1 ≤ m ∧ Fit ns m) ∧ ∀ H', Same H H' → Q (.int (reachOf ns m)) H'
theorem ok_reach {f : Addr} {fd : FuncData} (F : FunD K "reach" "reach" (defArgs s_reach) (defBody s_reach) (defScope s_reach) [.int 1] [] f fd) (B : Bt mg) (c_check_list : Cal P w K mg base 1 "check_list" (spCheckList K) [])
    (c_check_most : Cal P w K mg base 1 "check_most" spCheckMost []) (c_reach_of : Cal P w K mg base 2 "reach_of" (spReachOf K) []) : FnOk P w K mg base CX0 3 f fd ["replacements", "most"] (spReach K) := by
  refine F.ok sc_reach (fun vs H Q E h => ?_) (fun cdv A outer s H vs Q E hr h => ?_)
  · obtain ⟨p, ns, m, rfl, _⟩ := h
    rfl
  · obtain ⟨p, ns, m, rfl, hS, ⟨h2, hm, hf⟩, q⟩ := h
    refine ⟨_, (PSs.nox (pss_cons (ps_expr (pe_c c_check_list hr (by first | decide | omega) (by rfl) (pa_cons (pv 0) pa_nil)))
  (pss_cons (ps_expr (pe_c c_check_most hr (by first | decide | omega) (by rfl) (pa_cons (pv 1) pa_nil)))
  (pss_one (ps_ret (pe_c c_reach_of hr (by first | decide | omega) (by rfl) (pa_cons (pv 0) (pa_cons (pv 1) pa_nil)))))))), ?_⟩
    walk_at "sq go"
    refine ⟨⟨h2⟩, fun H1 s1 => ?_⟩
    walk_at "sq go"
    refine ⟨⟨hm⟩, ?_⟩
    walk_at "sq go"
    exact ⟨⟨h2, hm, hf⟩, fun H2 s2 => q H2 (s1.trans s2)⟩

/-! ### greatest reaches, of valid arguments -/
abbrev s_check_steps : Stmt := topS 14
theorem sc_check_steps : FnScope ["steps", "most"] ["steps", "most"] (defScope s_check_steps) := ⟨rfl, rfl, rfl, by decide +kernel, rfl, by decide +kernel, by decide +kernel⟩

def spStepsC : Sp := fun vs H Q _ => ∃ k m : Int, vs = [.int k, .int m] ∧ Keep (0 ≤ k ∧ 1 ≤ m) ∧ Q .non H
theorem cal_stepsC (D : DefAt K mg "check_steps" s_check_steps ["steps", "most"]) (B : Bt mg) (c_check_most : Cal P w K mg base 1 "check_most" spCheckMost []) : Cal P w K mg base 2 "check_steps" spStepsC [] := by
  refine D.cal sc_check_steps (fun vs H Q E h => ?_) (fun f cdv A outer s H vs Q E hr h => ?_)
  · obtain ⟨k, m, rfl, _⟩ := h
    rfl
  · obtain ⟨k, m, rfl, ⟨k0, m1⟩, q⟩ := h
    refine ⟨_, (pss_cons (ps_if (pt_cmpR op_lt (pv 0) pe_int (nomark _)) (pss_one ps_never) pss_nil)
  (pss_one (ps_expr (pe_c c_check_most hr (by first | decide | omega) (by rfl) (pa_cons (pv 1) pa_nil))))), ?_⟩
    walk_at "sq go"
    refine ifD (fun c => absurd c (by omega)) (fun c => ?_)
    walk_at "sq go"
    exact ⟨⟨m1⟩, q⟩
theorem Sm.half {a : Nat} {R : Int} (h : Sm a R) (h10 : 10 ≤ a) (h1 : 1 ≤ R) : Sm a ((R + 3) / 2) := by
  have p : 2 ^ 10 ≤ 2 ^ a := Nat.pow_le_pow_right (by decide) h10
  unfold Sm at *
  omega
theorem bK_at (R : Int) : atI (iv (bK R)) 0 = some (.int ((R + 3) / 2)) := by
  unfold bK
  split <;> exact atI_nat (j := 0) rfl
theorem bR_sm {a : Nat} {R : Int} (h : Sm a R) (h10 : 10 ≤ a) (h1 : 1 ≤ R) : Sm (a + a) (bR R) := by
  rw [← bR_is h1]
  exact rb_Sm h (h.half h10 h1) h10 (by omega) h1
theorem bN_sm {m : Int} {c : Nat} (h : Sm c m) (h10 : 10 ≤ c) (h1 : 1 ≤ m) : ∀ n : Nat, Sm (c * 2 ^ n) (bN m n)
  | 0 => by simpa [bN] using h
  | n + 1 => by
    have ih := bN_sm h h10 h1 n
    have p : 1 ≤ 2 ^ n := Nat.pow_le_pow_right (n := 2) (i := 0) (by decide) (Nat.zero_le _)
    have q : c * 1 ≤ c * 2 ^ n := Nat.mul_le_mul_left c p
    have z := bR_sm ih (by omega) (bN_pos h1 n)
    rw [Nat.pow_succ, show c * (2 ^ n * 2) = c * 2 ^ n + c * 2 ^ n by rw [← Nat.mul_assoc]; omega]
    exact z
abbrev s_best_replacements : Stmt := topS 13
theorem sc_best_replacements : FnScope ["reached", "middle"] ["reached"] (defScope s_best_replacements) := ⟨rfl, rfl, rfl, by decide +kernel, rfl, by decide +kernel, by decide +kernel⟩

def spBestK : Sp := fun vs H Q _ => ∃ R : Int, vs = [.int R] ∧ Keep (1 ≤ R) ∧ ∀ p, H p = none → Q (.ref p) (upd H p (.lst (iv (bK R))))
theorem cal_bestK (D : DefAt K mg "best_replacements" s_best_replacements ["reached"]) (B : Bt mg) : Cal P w K mg base 1 "best_replacements" spBestK [] := by
  refine D.cal sc_best_replacements (fun vs H Q E h => ?_) (fun f cdv A outer s H vs Q E hr h => ?_)
  · obtain ⟨R, rfl, _⟩ := h
    rfl
  · obtain ⟨R, rfl, ⟨h1⟩, q⟩ := h
    refine ⟨_, (pss_cons (ps_set (i := 1) sc_best_replacements.nd rfl (Or.inl rfl) (pe_op op_fdivW (pe_op op_add (pv 0) pe_int) pe_int))
  (pss_one (ps_ret (pe_ifExp (pt_cmpR op_eq (pe_op op_mod (pv 0) pe_int) pe_int (nomark _)) (pe_lst (pa_cons (pv 1) pa_nil)) (pe_lst (pa_cons (pv 1) (pa_cons (pe_op op_add (pv 1) pe_int) pa_nil))))))), ?_⟩
    have c1 : CDivW (R + 3) 2 := div_ok (by decide) (by decide)
    have c2 : CDivW R 2 := div_ok (by decide) (by decide)
    walk_at "sq go"
    unfold bK at q
    refine ifI (fun c => ?_) (fun c => ?_)
    · rw [if_pos c] at q
      walk_at "sq go"
      exact q
    · rw [if_neg c] at q
      walk_at "sq go"
      exact q
abbrev s_best_reach : Stmt := topS 15
theorem sc_best_reach : FnScope ["steps", "most", "reached", "step"] ["steps", "most"] (defScope s_best_reach) := ⟨rfl, rfl, rfl, by decide +kernel, rfl, by decide +kernel, by decide +kernel⟩

def spBestC : Sp := fun vs H Q _ => ∃ (k m : Int) (c : Nat), vs = [.int k, .int m] ∧ Keep ((0 ≤ k ∧ k ≤ 20) ∧ 1 ≤ m ∧ Sm c m ∧ 10 ≤ c ∧ c * 2 ^ k.toNat ≤ 450000) ∧ ∀ H', Same H H' → Q (.int (bN m k.toNat)) H'
theorem ok_bestC {f : Addr} {fd : FuncData} (F : FunD K "best_reach" "best_reach" (defArgs s_best_reach) (defBody s_best_reach) (defScope s_best_reach) [.int 1] [] f fd) (B : Bt mg) (c_check_steps : Cal P w K mg base 2 "check_steps" spStepsC [])
    (c_reach_before : Cal P w K mg base 1 "reach_before" spReachBefore []) (c_best_replacements : Cal P w K mg base 1 "best_replacements" spBestK []) : FnOk P w K mg base CX0 3 f fd ["steps", "most"] spBestC := by
  refine F.ok sc_best_reach (fun vs H Q E h => ?_) (fun cdv A outer s H vs Q E hr h => ?_)
  · obtain ⟨k, m, c, rfl, _⟩ := h
    rfl
  · obtain ⟨k, m, c, rfl, ⟨⟨k0, k20⟩, m1, sm, c10, cb⟩, q⟩ := h
    refine ⟨_, (PSs.nox (pss_cons (ps_expr (pe_c c_check_steps hr (by first | decide | omega) (by rfl) (pa_cons (pv 0) (pa_cons (pv 1) pa_nil))))
  (pss_cons (ps_set (i := 2) sc_best_reach.nd rfl (Or.inl rfl) (pv 1))
  (pss_cons (ps_for PassesOwn.never rfl (pi_range1 (by rfl) B.range (pa_cons (pv 0) pa_nil)) (pg_name (i := 3) sc_best_reach.nd rfl (Or.inl rfl))
   (pss_one (ps_set (i := 2) sc_best_reach.nd rfl (Or.inl rfl) (pe_c c_reach_before hr (by first | decide | omega) (by rfl) (pa_cons (pv 2) (pa_cons (pe_ix (ix_listK (K := K)) (pe_c c_best_replacements hr (by first | decide | omega) (by rfl) (pa_cons (pv 2) pa_nil)) pe_int (fun _ _ => rfl)) pa_nil))))))
  (pss_one (ps_ret (pv 2))))))), ?_⟩
    walk_at "sq go"
    refine ⟨⟨k0, m1⟩, ?_⟩
    walk_at "sq go"
    refine for_range (lo := 0) (n := k.toNat) (fun i σ H' => Keep (∃ x, σ = [some (.int k), some (.int m), some (.int (bN m i)), x] ∧ Same H H')) ?_ (fun i σ H' hi h => ?_) (fun σ H' h => ?_)
    · exact ⟨none, rfl, .refl H⟩
    · obtain ⟨x, rfl, s1⟩ := h.o
      have R1 := bN_pos m1 i
      have sR := bN_sm sm c10 m1 i
      have pw : c * 2 ^ i ≤ c * 2 ^ k.toNat := Nat.mul_le_mul_left c (Nat.pow_le_pow_right (by decide) (by omega))
      have p1 : c * 1 ≤ c * 2 ^ i := Nat.mul_le_mul_left c (Nat.pow_le_pow_right (n := 2) (i := 0) (by decide) (Nat.zero_le _))
      walk_at "sq go"
      refine ⟨⟨R1⟩, fun p np => ?_⟩
      have e0 := bK_at (bN m i)
      walk_at "sq go"
      refine ⟨⟨_, _, R1, by omega, sR, sR.half (by omega) R1, by omega, by omega, by omega⟩, ?_⟩
      exact ⟨_, by rw [bR_is R1]; rfl, s1.trans (same_new np)⟩
    · obtain ⟨x, rfl, s1⟩ := h.o
      walk_at "sq go"
      exact q _ s1
abbrev s_fewest_steps : Stmt := topS 16
theorem sc_fewest_steps : FnScope ["length", "most", "steps", "reached"] ["length", "most"] (defScope s_fewest_steps) := ⟨rfl, rfl, rfl, by decide +kernel, rfl, by decide +kernel, by decide +kernel⟩

def spFewC : Sp := fun vs H Q _ => ∃ (n m : Int) (c : Nat), vs = [.int n, .int m] ∧ Keep (0 ≤ n ∧ 1 ≤ m ∧ Sm c n ∧ 10 ≤ c ∧ c ≤ 440000) ∧ ∀ (t : Nat) H', (∀ s : Nat, s < t → bN m s < n) → n ≤ bN m t → Same H H' → Q (.int t) H'
theorem ok_fewC {f : Addr} {fd : FuncData} (F : FunD K "fewest_steps" "fewest_steps" (defArgs s_fewest_steps) (defBody s_fewest_steps) (defScope s_fewest_steps) [.int 1] [] f fd) (B : Bt mg) (c_check_length : Cal P w K mg base 1 "check_length" spCheckLength []) (c_check_most : Cal P w K mg base 1 "check_most" spCheckMost [])
    (c_reach_before : Cal P w K mg base 1 "reach_before" spReachBefore []) (c_best_replacements : Cal P w K mg base 1 "best_replacements" spBestK []) : FnOk P w K mg base CX0 3 f fd ["length", "most"] spFewC := by
  refine F.ok sc_fewest_steps (fun vs H Q E h => ?_) (fun cdv A outer s H vs Q E hr h => ?_)
  · obtain ⟨n, m, c, rfl, _⟩ := h
    rfl
  · obtain ⟨n, m, c, rfl, ⟨n0, m1, sn, c10, cb⟩, q⟩ := h
    refine ⟨_, (PSs.nox (pss_cons (ps_expr (pe_c c_check_length hr (by first | decide | omega) (by rfl) (pa_cons (pv 0) pa_nil)))
  (pss_cons (ps_expr (pe_c c_check_most hr (by first | decide | omega) (by rfl) (pa_cons (pv 1) pa_nil)))
  (pss_cons (ps_set (i := 2) sc_fewest_steps.nd rfl (Or.inl rfl) pe_int)
  (pss_cons (ps_set (i := 3) sc_fewest_steps.nd rfl (Or.inl rfl) (pv 1))
  (pss_cons (ps_while PassesOwn.never (pt_cmpR op_lt (pv 3) (pv 0) (nomark _))
   (pss_cons (ps_set (i := 3) sc_fewest_steps.nd rfl (Or.inl rfl) (pe_c c_reach_before hr (by first | decide | omega) (by rfl) (pa_cons (pv 3) (pa_cons (pe_ix (ix_listK (K := K)) (pe_c c_best_replacements hr (by first | decide | omega) (by rfl) (pa_cons (pv 3) pa_nil)) pe_int (fun _ _ => rfl)) pa_nil))))
  (pss_one (ps_aug (i := 2) sc_fewest_steps.nd rfl (Or.inl rfl) pe_int ip_add))))
  (pss_one (ps_ret (pv 2))))))))), ?_⟩
    walk_at "sq go"
    refine ⟨⟨n0⟩, ?_⟩
    walk_at "sq go"
    refine ⟨⟨m1⟩, ?_⟩
    walk_at "sq go"
    refine ⟨fun z σ H' => Keep (∃ t : Nat, σ = [some (.int n), some (.int m), some (.int t), some (.int (bN m t))] ∧ z = (n - bN m t).toNat ∧ (∀ s : Nat, s < t → bN m s < n) ∧ Same H H'), ⟨_, 0, rfl, rfl, fun s hs => absurd hs (by omega), .refl H⟩, fun z σ H' h => ?_⟩
    obtain ⟨t, rfl, rfl, bef, s1⟩ := h.o
    clear h
    have R1 := bN_pos m1 t
    have up := bN_up m1 t
    walk_at "sq go"
    refine ifD (fun cc => ?_) (fun cc => ?_)
    · refine ⟨fun σ' H3 => Keep (σ' = [some (.int n), some (.int m), some (.int ((t + 1 : Nat) : Int)), some (.int (bN m (t + 1)))] ∧ Same H H3), fun σ' H3 h3 => ?_, ?_⟩
      · obtain ⟨rfl, s3⟩ := h3.o
        refine ⟨_, ?_, t + 1, rfl, rfl, fun s hs => ?_, s3⟩
        · omega
        · rcases (show s < t ∨ s = t by omega) with y | y
          · exact bef s y
          · rw [y]
            exact cc
      · walk_at "sq go"
        refine ⟨⟨R1⟩, fun p np => ?_⟩
        have e0 := bK_at (bN m t)
        have sR : Sm c (bN m t) := sn.le (by omega) (by omega)
        walk_at "sq go"
        refine ⟨⟨_, _, R1, by omega, sR, sR.half c10 R1, c10, c10, by omega⟩, ?_⟩
        walk_at "sq go"
        exact ⟨by rw [bR_is R1]; rfl, s1.trans (same_new np)⟩
    · walk_at "sq go"
      exact q t _ bef (by omega) s1

/-! ### best lists, all of them -/
/-- at ps: lists of these rows, younger than G -/
def RowsAt (G H : Hp) (ps : List Addr) (rows : List (List Int)) : Prop := ps.length = rows.length ∧ ∀ (i : Nat) (p : Addr) (ns : List Int), ps[i]? = some p → rows[i]? = some ns → H p = some (.lst (iv ns)) ∧ G p = none
theorem RowsAt.same {G H H' : Hp} {ps : List Addr} {rows : List (List Int)} (h : RowsAt G H ps rows) (s : Same H H') : RowsAt G H' ps rows := ⟨h.1, fun i p ns h1 h2 => ⟨s _ _ (h.2 i p ns h1 h2).1, (h.2 i p ns h1 h2).2⟩⟩
theorem RowsAt.snoc {G H : Hp} {ps : List Addr} {rows : List (List Int)} {p : Addr} {ns : List Int} (h : RowsAt G H ps rows) (hp : H p = some (.lst (iv ns))) (gp : G p = none) : RowsAt G H (ps ++ [p]) (rows ++ [ns]) := by
  refine ⟨by rw [List.length_append, List.length_append, h.1]; rfl, fun i q r h1 h2 => ?_⟩
  by_cases lt : i < ps.length
  · rw [List.getElem?_append_left lt] at h1
    rw [List.getElem?_append_left (by have := h.1; omega)] at h2
    exact h.2 i q r h1 h2
  · rw [List.getElem?_append_right (by omega)] at h1
    rw [List.getElem?_append_right (by have := h.1; omega), ← h.1] at h2
    cases e : i - ps.length with
    | zero =>
      rw [e] at h1 h2
      have e1 : p = q := by simpa using h1
      have e2 : ns = r := by simpa using h2
      rw [← e1, ← e2]
      exact ⟨hp, gp⟩
    | succ k =>
      rw [e] at h1
      simp at h1
theorem RowsAt.nil {G H : Hp} : RowsAt G H [] [] := ⟨rfl, fun i p ns h1 _ => by simp at h1⟩
abbrev s_best_lists : Stmt := topS 17
theorem sc_best_lists : GScope ["steps", "most", "choices", "reached", "step", "found", "choice", "replacements", "start", "replacement"] ["steps", "most"] (defScope s_best_lists) := ⟨rfl, rfl, rfl, by decide +kernel, rfl, by decide +kernel, by decide +kernel⟩

def spgBestK : SpG := fun vs H cont _ => ∃ (k m : Int), vs = [.int k, .int m] ∧ Keep ((0 ≤ k ∧ k ≤ 8) ∧ 1 ≤ m ∧ Sm 100 m) ∧ ∀ ps H', Same H H' → RowsAt H H' ps (bL m k.toNat) → cont (ps.map V.ref) H'
theorem same_putK {H H' : Hp} {a : Addr} {o : HO} (s : Same H H') (n : H a = none) : Same H (upd H' a o) := fun b u e => by
  by_cases hb : b = a
  · rw [hb, n] at e
    cases e
  · rw [upd_ne hb]
    exact s b u e
theorem flat_tk {α β : Type} {f : α → List β} {os : List α} {i : Nat} {m : α} (h : os[i]? = some m) : (os.take (i + 1)).flatMap f = (os.take i).flatMap f ++ f m := by
  rw [List.take_add_one, h, List.flatMap_append]
  simp
theorem flat_lek {α β : Type} (f : α → List β) (os : List α) (i : Nat) : ((os.take i).flatMap f).length ≤ (os.flatMap f).length := by
  conv => rhs; rw [← List.take_append_drop i os, List.flatMap_append, List.length_append]
  omega
local macro_rules | `(tactic| walk_at "sq side") => `(tactic| first
  | ((with_reducible show List.all _ _ = true); assumption)
  | ((with_reducible show _[_]? = some _); assumption))
theorem gen_bestK {f : Addr} {fd : FuncData} (F : FunD K "best_lists" "best_lists" (defArgs s_best_lists) (defBody s_best_lists) (defScope s_best_lists) [.int 1] [] f fd) (B : Bt mg) (c_check_steps : Cal P w K mg base 2 "check_steps" spStepsC [])
    (c_reach_before : Cal P w K mg base 1 "reach_before" spReachBefore []) (c_best_replacements : Cal P w K mg base 1 "best_replacements" spBestK []) : GFn P w K mg base 4 f fd ["steps", "most"] spgBestK := by
  refine genD_ok F sc_best_lists (fun vs H Q E h => ?_) (fun cdv A outer s H vs Q E pn hr tk po h => ?_)
  · obtain ⟨k, m, rfl, _⟩ := h
    rfl
  · obtain ⟨k, m, rfl, ⟨⟨k0, k8⟩, m1, sm⟩, q⟩ := h
    refine ⟨_, (gss_cons (gs_ps (ps_expr (pe_c c_check_steps hr (by first | decide | omega) (by rfl) (pa_cons (pv 0) (pa_cons (pv 1) pa_nil)))))
  (gss_cons (gs_ps (ps_set (i := 2) sc_best_lists.nd rfl (Or.inl rfl) (pe_lst pa_nil)))
  (gss_cons (gs_ps (ps_set (i := 3) sc_best_lists.nd rfl (Or.inl rfl) (pv 1)))
  (gss_cons (gs_ps (ps_for po rfl (pi_range1 (by rfl) B.range (pa_cons (pv 0) pa_nil)) (pg_name (i := 4) sc_best_lists.nd rfl (Or.inl rfl))
   (pss_cons (ps_expr (pe_bm PySem.F.plainAttrs_list PySem.F.slot_list_insert PySem.F.type_list_insert mt_insert (pv 2) (pa_cons pe_int (pa_cons (pe_c c_best_replacements hr (by first | decide | omega) (by rfl) (pa_cons (pv 3) pa_nil)) pa_nil))))
  (pss_one (ps_set (i := 3) sc_best_lists.nd rfl (Or.inl rfl) (pe_c c_reach_before hr (by first | decide | omega) (by rfl) (pa_cons (pv 3) (pa_cons (pe_ix (ix_listK (K := K)) (pe_ix (ix_listK (K := K)) (pv 2) pe_int (fun _ _ => rfl)) pe_int (fun _ _ => rfl)) pa_nil))))))))
  (gss_cons (gs_ps (ps_set (i := 5) sc_best_lists.nd rfl (Or.inl rfl) (pe_lst (pa_cons (pe_lst pa_nil) pa_nil))))
  (gss_cons (gs_ps (ps_for po rfl (pi_listK (K := K) (pv 2)) (pg_name (i := 6) sc_best_lists.nd rfl (Or.inr rfl))
   (pss_one (ps_setLc2 (i := 5) (own := [("start", 8), ("replacement", 9)]) (g := gName 8) (g1 := gName 9) (vs1 := [9]) (by rfl) sc_best_lists.nd rfl rfl (sw_true rfl rfl rfl (by decide +kernel)) (pi_listK (K := K) (pv 5)) (blkOk_by (own := [("start", 8), ("replacement", 9)]) (N := ["steps", "most", "choices", "reached", "step", "found", "choice", "replacements", "start", "replacement"]) (sc := defScope s_best_lists) (by decide +kernel)) (by decide) (fun _ _ _ _ _ => (pg_name (i := 8) sc_best_lists.nd rfl (Or.inl rfl))) (fun _ _ _ _ _ => pts_nil) (fun _ _ _ _ _ => (pi_listK (K := K) (pv 6))) (fun _ _ _ _ _ => (pg_name (i := 9) sc_best_lists.nd rfl (Or.inl rfl))) (fun _ _ _ _ _ => pts_nil) (fun _ _ _ _ _ => (pe_lst (pa_starK (K := K) (pv 8) (pa_cons (pv 9) pa_nil))))))))
  (gss_cons (gs_for po rfl (pi_listK (K := K) (pv 5)) (pg_name (i := 7) sc_best_lists.nd rfl (Or.inl rfl))
   (gss_cons (gs_yield (pv 7))
  gss_nil))
  gss_nil))))))), ?_⟩
    walk_at "sq go"
    refine ⟨⟨k0, m1⟩, ?_⟩
    walk_at "sq go"
    intro ch nch
    have k62 : k < 2 ^ 62 := by omega
    walk_at "sq go"
    refine for_range (lo := 0) (n := k.toNat) (fun i σ H' => Keep (∃ (x : Option V) (cs : List Addr), σ = [some (.int k), some (.int m), some (.ref ch), some (.int (bN m i)), x, none, none, none, none, none] ∧ Same H H' ∧ H' ch = some (.lst (cs.map V.ref)) ∧ cs.length = i ∧
      ∀ (t : Nat) (c : Addr), cs[t]? = some c → c ≠ ch ∧ H' c = some (.lst (iv (bK (bN m (i - 1 - t))))))) ?_ (fun i σ H' hi h => ?_) (fun σ H' h => ?_)
    · exact ⟨none, [], rfl, same_new nch, upd_same, rfl, fun t c e => by simp at e⟩
    · obtain ⟨x, cs, rfl, s1, gch, lcs, hcs⟩ := h.o
      have R1 := bN_pos m1 i
      walk_at "sq go"
      refine ⟨⟨R1⟩, fun p np => ?_⟩
      have e0 := bK_at (bN m i)
      have npc : p ≠ ch := fun z => by
        rw [z, gch] at np
        cases np
      have gch2 := upd_keep (o := .lst (iv (bK (bN m i)))) np gch
      have lz : (cs.map V.ref).length < sizeLine := small1000 (by rw [List.length_map]; omega)
      have gp3 : upd (upd H' p (.lst (iv (bK (bN m i))))) ch (.lst (List.take (Int.toNat 0) (cs.map V.ref) ++ [V.ref p] ++ List.drop (Int.toNat 0) (cs.map V.ref))) p = some (.lst (iv (bK (bN m i)))) := (upd_ne npc).trans upd_same
      have gc3 : upd (upd H' p (.lst (iv (bK (bN m i))))) ch (.lst (List.take (Int.toNat 0) (cs.map V.ref) ++ [V.ref p] ++ List.drop (Int.toNat 0) (cs.map V.ref))) ch = some (.lst (List.take (Int.toNat 0) (cs.map V.ref) ++ [V.ref p] ++ List.drop (Int.toNat 0) (cs.map V.ref))) := upd_same
      have a0 : atI (List.take (Int.toNat 0) (cs.map V.ref) ++ [V.ref p] ++ List.drop (Int.toNat 0) (cs.map V.ref)) 0 = some (.ref p) := atI_nat (j := 0) rfl
      have sR := bN_sm sm (by decide) m1 i
      have pw : 100 * 2 ^ i ≤ 100 * 2 ^ 8 := Nat.mul_le_mul_left 100 (Nat.pow_le_pow_right (by decide) (by omega))
      have p1 : 100 * 1 ≤ 100 * 2 ^ i := Nat.mul_le_mul_left 100 (Nat.pow_le_pow_right (n := 2) (i := 0) (by decide) (Nat.zero_le _))
      walk_at "sq go"
      refine ⟨⟨_, _, R1, by omega, sR, sR.half (by omega) R1, by omega, by omega, by omega⟩, ?_⟩
      refine ⟨_, p :: cs, by rw [bR_is R1]; rfl, same_putK (s1.trans (same_new np)) nch, gc3, by simp [lcs], fun t c e => ?_⟩
      cases t with
      | zero =>
        obtain rfl : p = c := by simpa using e
        exact ⟨npc, by rw [gp3]; rfl⟩
      | succ t =>
        obtain ⟨n1, g1⟩ := hcs t c (by simpa using e)
        refine ⟨n1, ?_⟩
        rw [show i + 1 - 1 - (t + 1) = i - 1 - t by omega]
        exact (upd_ne n1).trans (upd_keep (o := .lst (iv (bK (bN m i)))) np g1)
    · obtain ⟨x, cs, rfl, s1, gch, lcs, hcs⟩ := h.o
      walk_at "sq go"
      intro e0 ne0
      have s2 := same_new (o := .lst []) ne0
      walk_at "sq go"
      intro f0 nf0
      have s3 := same_new (o := .lst [.ref e0]) nf0
      have s23 := s2.trans s3
      have ge0 : upd (upd H' e0 (.lst [])) f0 (.lst [.ref e0]) e0 = some (.lst (iv [])) := upd_keep nf0 upd_same
      have gf0 : upd (upd H' e0 (.lst [])) f0 (.lst [.ref e0]) f0 = some (.lst [.ref e0]) := upd_same
      have ne0H := s1.free ne0
      have gch1 := s23 _ _ gch
      have hcs1 : ∀ (t : Nat) (c : Addr), cs[t]? = some c → upd (upd H' e0 (.lst [])) f0 (.lst [.ref e0]) c = some (.lst (iv (bK (bN m (k.toNat - 1 - t))))) := fun t c e => s23 _ _ (hcs t c e).2
      have s13 := s1.trans s23
      generalize upd (upd H' e0 (.lst [])) f0 (.lst [.ref e0]) = H1 at *
      walk_at "sq go"
      refine for_list (K := K) (a := ch) (xs := cs.map V.ref) (fun j σ H2 => Keep (∃ (fa : Addr) (fs : List Addr) (y6 y8 y9 : Option V), σ = [some (.int k), some (.int m), some (.ref ch), some (.int (bN m k.toNat)), x, some (.ref fa), y6, none, y8, y9] ∧ Same H1 H2 ∧ H2 fa = some (.lst (fs.map V.ref)) ∧ RowsAt H H2 fs (preL m k.toNat j))) ?_ (fun j σ H2 _ h => ?_) (fun j v σ H2 hv h => ?_) (fun σ H2 h => ?_)
      · exact ⟨f0, [e0], _, _, _, rfl, .refl _, gf0, RowsAt.nil.snoc ge0 ne0H⟩
      · obtain ⟨_, _, _, _, _, _, s4, _⟩ := h.o
        exact seqL_of (s4 _ _ gch1)
      · obtain ⟨fa, fs, y6, y8, y9, rfl, s4, gfa, ra⟩ := h.o
        obtain ⟨c, ec, rfl⟩ : ∃ c, cs[j]? = some c ∧ V.ref c = v := by
          rw [List.getElem?_map] at hv
          cases e : cs[j]? with
          | none => rw [e] at hv; cases hv
          | some c =>
            rw [e] at hv
            exact ⟨c, rfl, Option.some.inj hv⟩
        have gc := s4 _ _ (hcs1 j c ec)
        have lj := (List.getElem?_eq_some_iff.mp ec).1
        obtain ⟨pl1, pl2⟩ := preL_len m k.toNat j
        obtain ⟨pl3, _⟩ := preL_len m k.toNat (j + 1)
        have p2 : 2 ^ (j + 1) ≤ 2 ^ 8 := Nat.pow_le_pow_right (by decide) (by omega)
        have ks2 := bK_len (bN m (k.toNat - 1 - j))
        have eP : preL m k.toNat (j + 1) = (preL m k.toNat j).flatMap fun s => (bK (bN m (k.toNat - 1 - j))).map fun r => s ++ [r] := rfl
        rw [eP] at pl3 ⊢
        generalize bK (bN m (k.toNat - 1 - j)) = ks at *
        generalize preL m k.toNat j = os at *
        have s14 := s13.trans s4
        walk_at "sq go"
        intro D nD
        refine it_list (K := K) (a := fa) (xs := fs.map V.ref) (fun i Hh => Keep (∃ acc : List Addr, Same H2 Hh ∧ Hh D = some (.lst (acc.map V.ref)) ∧ D ∉ acc ∧ RowsAt H Hh acc ((os.take i).flatMap fun s => ks.map fun r => s ++ [r]))) ⟨[], same_new nD, upd_same, by simp, RowsAt.nil⟩ (fun i Hh _ h => ?_) (fun i u Hh hu h => ?_) (fun Hh h => ?_)
        · obtain ⟨acc, s5, _⟩ := h.o
          exact seqL_of (s5 _ _ gfa)
        · obtain ⟨acc, s5, gD, nDa, hacc⟩ := h.o
          obtain ⟨l, el, rfl⟩ : ∃ l, fs[i]? = some l ∧ V.ref l = u := by
            rw [List.getElem?_map] at hu
            cases e : fs[i]? with
            | none => rw [e] at hu; cases hu
            | some c =>
              rw [e] at hu
              exact ⟨c, rfl, Option.some.inj hu⟩
          have li : i < os.length := by
            have := (List.getElem?_eq_some_iff.mp el).1
            have := ra.1
            omega
          have eo := List.getElem?_eq_getElem li
          generalize os[i] = so at eo
          have gl := (ra.2 i l so el eo).1
          have lso := pl2 so (List.mem_of_getElem? eo)
          have gl5 := s5 _ _ gl
          have gc5 := s5 _ _ gc
          have f1 := flat_tk (f := fun s => ks.map fun r => s ++ [r]) eo
          have f2 := flat_lek (fun s => ks.map fun r => s ++ [r]) os (i + 1)
          rw [f1, List.length_append, List.length_map] at f2
          walk_at "sq go"
          refine it_list (K := K) (a := c) (xs := iv ks) (fun t H6 => Keep (∃ acc2 : List Addr, Same H2 H6 ∧ H6 D = some (.lst (acc2.map V.ref)) ∧ D ∉ acc2 ∧ RowsAt H H6 acc2 (((os.take i).flatMap fun s => ks.map fun r => s ++ [r]) ++ (ks.take t).map fun r => so ++ [r]))) ⟨acc, s5, gD, nDa, by simpa using hacc⟩ (fun t H6 _ h => ?_) (fun t r H6 hr2 h => ?_) (fun H6 h => ?_)
          · obtain ⟨acc2, s6, _⟩ := h.o
            exact seqL_of (s6 _ _ gc)
          · obtain ⟨acc2, s6, gD6, nD6, hacc6⟩ := h.o
            obtain ⟨rv, hrv, rfl⟩ := iv_get hr2
            have lt2 := (List.getElem?_eq_some_iff.mp hrv).1
            have gl6 := s6 _ _ gl
            have hl6 := seqL_of (K := K) gl6
            have la2 := hacc6.1
            rw [List.length_append, List.length_map, List.length_take] at la2
            have lz : (acc2.map V.ref).length < sizeLine := small1000 (by rw [List.length_map]; omega)
            have lz2 : (iv so ++ [V.int rv]).length ≤ sizeLine := by
              rw [List.length_append, iv_len, sizeLine_eq]
              simp only [List.length_singleton]
              omega
            walk_at "sq go"
            intro q2 nq
            have nDq : D ≠ q2 := fun z => by
              rw [z, nq] at gD6
              cases gD6
            have gq : H q2 = none := s14.free (s6.free nq)
            have hacc7 := (hacc6.same (same_new (o := .lst (iv so ++ [V.int rv])) nq)).snoc (p := q2) (ns := so ++ [rv]) (by rw [upd_same, iv_app]) gq
            refine ⟨acc2.map V.ref, upd_keep nq gD6, lz, ⟨acc2 ++ [q2], same_putK (s6.trans (same_new nq)) nD, by rw [upd_same, List.map_append]; rfl, by simp [nD6, nDq], ?_⟩⟩
            rw [List.take_add_one, hrv, List.map_append, ← List.append_assoc]
            refine ⟨hacc7.1, fun i2 p2 ns2 h1 h2 => ?_⟩
            obtain ⟨g1, g2⟩ := hacc7.2 i2 p2 ns2 h1 h2
            refine ⟨(upd_ne fun z => ?_).trans g1, g2⟩
            have := List.mem_of_getElem? h1
            rw [z] at this
            rcases List.mem_append.mp this with y | y
            · exact nD6 y
            · exact nDq (List.mem_singleton.mp y)
          · obtain ⟨acc2, s6, gD6, nD6, hacc6⟩ := h.o
            rw [iv_len, List.take_length, ← f1] at hacc6
            exact ⟨acc2, s6, gD6, nD6, hacc6⟩
        · obtain ⟨acc, s5, gD, nDa, hacc⟩ := h.o
          rw [List.length_map, ra.1, List.take_length] at hacc
          walk_at "sq go"
          exact ⟨D, acc, _, _, _, rfl, s4.trans s5, gD, hacc⟩
      · obtain ⟨fa, fs, y6, y8, y9, rfl, s4, gfa, ra⟩ := h.o
        rw [List.length_map, lcs, preL_all] at ra
        have lfs : fs.length ≤ 256 := by
          have := (preL_len m k.toNat k.toNat).1
          rw [preL_all] at this
          have p2 : 2 ^ k.toNat ≤ 2 ^ 8 := Nat.pow_le_pow_right (by decide) (by omega)
          rw [ra.1]
          omega
        walk_at "sq go"
        refine gfor_list (K := K) (a := fa) (xs := fs.map V.ref) (fun i ys σ H' => Keep (∃ y6 y7 y8 y9, σ = [some (.int k), some (.int m), some (.ref ch), some (.int (bN m k.toNat)), x, some (.ref fa), y6, y7, y8, y9] ∧ ys = (fs.take i).map V.ref ∧ H' = H2)) ⟨_, _, _, _, rfl, rfl, rfl⟩ (fun i ys σ H' _ h => ?_) (fun i v ys σ H' hv h => ?_) (fun ys σ H' h => ?_)
        · obtain ⟨_, _, _, _, _, _, rfl⟩ := h.o
          exact seqL_of gfa
        · obtain ⟨y6, y7, y8, y9, rfl, rfl, rfl⟩ := h.o
          have lz : ((fs.take i).map V.ref).length < sizeLine := small1000 (by rw [List.length_map, List.length_take]; omega)
          walk_at "sq go"
          refine ⟨_, _, _, _, rfl, ?_, rfl⟩
          rw [List.take_add_one, List.map_append]
          rw [List.getElem?_map] at hv
          cases e : fs[i]? with
          | none => rw [e] at hv; cases hv
          | some c =>
            rw [e] at hv
            cases hv
            rfl
        · obtain ⟨y6, y7, y8, y9, rfl, rfl, rfl⟩ := h.o
          rw [List.length_map, List.take_length]
          exact q fs _ (s13.trans s4) ra

/-! ### the source of draws (a list: great cells, the digits left, a mix, a count) -/
def RB (r d : Addr) (N : Int) (ds : List Int) (a mix n : Int) (H : Hp) : Prop :=
  H r = some (.lst [.ref d, .int a, .int mix, .int n]) ∧ H d = some (.lst (iv ds)) ∧ d ≠ r ∧ 0 ≤ mix ∧ mix < 2305843009213693952 ∧ 0 ≤ n ∧ n ≤ N
def rgB (r d : Addr) (N : Int) : Rg where
  I := fun H => ∃ ds a mix n, RB r d N ds a mix n H
  S := fun x => x = r ∨ x = d
  loc := fun H H' e ⟨ds, a, mix, n, h1, h2, h3⟩ => ⟨ds, a, mix, n, (e r (.inl rfl)).trans h1, (e d (.inr rfl)).trans h2, h3⟩
  has := fun H x ⟨ds, a, mix, n, h1, h2, _⟩ hx => by
    rcases hx with rfl | rfl
    · rw [h1]; exact fun z => nomatch z
    · rw [h2]; exact fun z => nomatch z
/-- the source is drawn from: all else stands -/
theorem SepB.redo {r d : Addr} {N N' : Int} {G H H' : Hp} (s : Sep (rgB r d N) G H) (e : ∀ b o, b ≠ r → b ≠ d → H b = some o → H' b = some o) (h : ∃ ds a mix n, RB r d N' ds a mix n H') : Sep (rgB r d N') G H' := by
  refine ⟨h, fun b o q => ?_, s.off⟩
  have nr : b ≠ r := fun z => by
    have := s.off b (.inl z)
    rw [q] at this
    cases this
  have nd : b ≠ d := fun z => by
    have := s.off b (.inr z)
    rw [q] at this
    cases this
  exact e b o nr nd (s.same b o q)
theorem SepB.mono {r d : Addr} {N N' : Int} {G H : Hp} (s : Sep (rgB r d N) G H) (h : N ≤ N') : Sep (rgB r d N') G H := by
  obtain ⟨ds, a, mix, n, h1, h2, h3, h4, h5, h6, h7⟩ := s.inv
  exact SepB.redo s (fun _ _ _ _ z => z) ⟨ds, a, mix, n, h1, h2, h3, h4, h5, h6, by omega⟩
abbrev s_law_source : Stmt := topS 19
theorem sc_law_source : FnScope ["script", "mix", "digits", "cell", "span"] ["script"] (defScope s_law_source) := ⟨rfl, rfl, rfl, by decide +kernel, rfl, by decide +kernel, by decide +kernel⟩

def spSource (K : PySem.W.Frag) : Sp := fun vs H Q _ => ∃ (p : Addr) (ns : List Int), vs = [.ref p] ∧ SqL K H p (iv ns) ∧ ns.length ≤ 63 ∧ ∀ r d H', Same H H' → Sep (rgB r d 0) H H' → Q (.ref r) H'
theorem cal_source (D : DefAt K mg "_law_source" s_law_source ["script"]) (B : Bt mg) : Cal P w K mg base 1 "_law_source" (spSource K) [] := by
  refine D.cal sc_law_source (fun vs H Q E h => ?_) (fun f cdv A outer s H vs Q E hr h => ?_)
  · obtain ⟨p, ns, rfl, _⟩ := h
    rfl
  · obtain ⟨p, ns, rfl, hS, hl, q⟩ := h
    refine ⟨_, (pss_cons (ps_set (i := 1) sc_law_source.nd rfl (Or.inl rfl) pe_int)
  (pss_cons (ps_set (i := 2) sc_law_source.nd rfl (Or.inl rfl) (pe_lst pa_nil))
  (pss_cons (ps_for PassesOwn.never rfl (pi_listK (K := K) (pv 0)) (pg_name (i := 3) sc_law_source.nd rfl (Or.inl rfl))
   (pss_cons (ps_set (i := 1) sc_law_source.nd rfl (Or.inl rfl) (pe_op op_mod (pe_op op_add (pe_op op_mulW (pv 1) pe_int) (pv 3)) (pe_op op_sub (pe_op op_powW pe_int pe_int) pe_int)))
  (pss_cons (ps_set (i := 4) sc_law_source.nd rfl (Or.inl rfl) (pe_callB (call_max2 rfl) (by rfl) B.max (by decide +kernel) (pa_cons (pv 3) (pa_cons (pe_op op_sub pe_int (pv 3)) pa_nil))))
  (pss_one (ps_if (pt_cmpR op_ge (pv 4) (pe_op op_powW pe_int pe_int) (nomark _)) (pss_one (ps_expr (pe_bm PySem.F.plainAttrs_list PySem.F.slot_list_append PySem.F.type_list_append mt_append (pv 2) (pa_cons (pe_op op_sub (pv 4) (pe_op op_powW pe_int pe_int)) pa_nil)))) pss_nil)))))
  (pss_one (ps_ret (pe_lst (pa_cons (pv 2) (pa_cons pe_int (pa_cons (pv 1) (pa_cons pe_int pa_nil)))))))))), ?_⟩
    walk_at "sq go"
    intro d nd
    have s1 : Same H (upd H d (.lst [])) := same_new nd
    have npd : ∀ H' : Hp, Same H H' → SqL K H' p (iv ns) := fun H' s => s.seq hS
    walk_at "sq go"
    refine for_list (K := K) (a := p) (xs := iv ns) (fun i σ H' => Keep (∃ ds mix y z, σ = [some (.ref p), some (.int mix), some (.ref d), y, z] ∧ H' = upd H d (.lst (iv ds)) ∧ ds.length ≤ i ∧ 0 ≤ mix ∧ mix < 2305843009213693952))
      ⟨[], 271828182845904, none, none, rfl, rfl, Nat.le_refl _, by decide, by decide⟩ (fun i σ H' _ h => ?_) (fun i x σ H' hx h => ?_) (fun σ H' h => ?_)
    · obtain ⟨ds, mix, y, z, _, rfl, _⟩ := h.o
      exact npd _ (same_new nd)
    · obtain ⟨ds, mix, y, z, rfl, rfl, hds, h0, h1⟩ := h.o
      obtain ⟨n, hn, rfl⟩ := iv_get hx
      have hi : i < ns.length := (List.getElem?_eq_some_iff.mp hn).1
      have hm : CMulW mix 1000033 := Sm.wide (a := 61) (b := 20) (by unfold Sm; omega) (by unfold Sm; decide) (by decide) (by decide) (by decide)
      have e61 : (2 : Int) ^ (61 : Int).toNat - 1 = 2305843009213693951 := by decide
      walk_at "sq go"
      have m0 := Int.emod_nonneg (mix * 1000033 + n) (show (2 : Int) ^ (61 : Int).toNat - 1 ≠ 0 by rw [e61]; decide)
      have m1 := Int.emod_lt_of_pos (mix * 1000033 + n) (show 0 < (2 : Int) ^ (61 : Int).toNat - 1 by rw [e61]; decide)
      rw [e61] at m1
      refine ifD (fun c => ?_) (fun c => ?_)
      · walk_at "sq go"
        rw [upd_upd, iv_app]
        exact ⟨_, _, _, _, rfl, rfl, by rw [List.length_append, List.length_singleton]; omega, m0, by rw [e61]; omega⟩
      · exact ⟨ds, _, _, _, rfl, rfl, by omega, m0, by rw [e61]; omega⟩
    · obtain ⟨ds, mix, y, z, rfl, rfl, hds, h0, h1⟩ := h.o
      walk_at "sq go"
      intro r nr
      have ndr : d ≠ r := fun e => by
        rw [← e, upd_same] at nr
        cases nr
      have s2 : Same H (upd H d (.lst (iv ds))) := same_new nd
      refine q r d _ (s2.trans (same_new nr)) ⟨⟨ds, 0, mix, 0, upd_same, by rw [upd_ne ndr, upd_same], ndr, h0, by omega, by decide, by decide⟩, s2.trans (same_new nr), fun a ha => ?_⟩
      rcases ha with rfl | rfl
      · exact s2.free nr
      · exact nd

abbrev s_law_draw : Stmt := topS 20
theorem sc_law_draw : FnScope ["source", "many", "drawn", "mixed"] ["source", "many"] (defScope s_law_draw) := ⟨rfl, rfl, rfl, by decide +kernel, rfl, by decide +kernel, by decide +kernel⟩

def spDraw : Sp := fun vs H Q _ => ∃ (r d : Addr) (m N : Int) (G : Hp), vs = [.ref r, .int m] ∧ Sep (rgB r d N) G H ∧ Keep (0 < m ∧ m < 2 ^ 240 ∧ N < 2 ^ 60) ∧ ∀ v H', 0 ≤ v → v < m → Sep (rgB r d (N + 1)) G H' → Q (.int v) H'
theorem cal_draw (D : DefAt K mg "_law_draw" s_law_draw ["source", "many"]) (B : Bt mg) : Cal P w K mg base 1 "_law_draw" spDraw [] := by
  refine D.cal sc_law_draw (fun vs H Q E h => ?_) (fun f cdv A outer s H vs Q E hr h => ?_)
  · obtain ⟨r, d, m, N, G, rfl, _⟩ := h
    rfl
  · obtain ⟨r, d, m, N, G, rfl, hS, ⟨hm, hmb, hN⟩, q⟩ := h
    have hmz : m.natAbs.log2 < 9000 := Nat.lt_trans ((show Sm 240 m by unfold Sm; omega).lg (by decide)) (by decide)
    obtain ⟨ds0, a0, mix, n, hr0, hd0, ndr, h0, h1, n0, n1⟩ := id hS.inv
    refine ⟨_, (pss_cons (ps_while PassesOwn.never (PW.pt (pw_and (pt_cmpR op_lt (pe_ix (ix_listK (K := K)) (pv 0) pe_int (fun _ _ => rfl)) pe_int (nomark _)) (pw_and1 (pt_cmpR (op_neDK (K := K) hr.units) (pe_ix (ix_listK (K := K)) (pv 0) pe_int (fun _ _ => rfl)) (pe_lst pa_nil) (nomark _)))))
   (pss_one (ps_asg (pe_bm PySem.F.plainAttrs_list PySem.F.slot_list_pop PySem.F.type_list_pop mt_popAt (pe_ix (ix_listK (K := K)) (pv 0) pe_int (fun _ _ => rfl)) (pa_cons pe_int pa_nil)) (pg_sub (pv 0) pe_int set_list))))
  (pss_cons (ps_if (pt_cmpR op_ge (pe_ix (ix_listK (K := K)) (pv 0) pe_int (fun _ _ => rfl)) pe_int (nomark _)) (pss_cons (ps_set (i := 2) sc_law_draw.nd rfl (Or.inl rfl) (pe_op op_mod (pe_ix (ix_listK (K := K)) (pv 0) pe_int (fun _ _ => rfl)) (pv 1)))
  (pss_cons (ps_asg (pe_op op_fdivW (pe_ix (ix_listK (K := K)) (pv 0) pe_int (fun _ _ => rfl)) (pv 1)) (pg_sub (pv 0) pe_int set_list))
  (pss_one (ps_ret (pv 2))))) pss_nil)
  (pss_cons (ps_asg (pe_op op_add (pe_ix (ix_listK (K := K)) (pv 0) pe_int (fun _ _ => rfl)) pe_int) (pg_sub (pv 0) pe_int set_list))
  (pss_cons (ps_set (i := 3) sc_law_draw.nd rfl (Or.inl rfl) (pe_op op_mulW (pe_op op_add (pe_ix (ix_listK (K := K)) (pv 0) pe_int (fun _ _ => rfl)) pe_int) (pe_op op_powW (pe_op op_add (pe_ix (ix_listK (K := K)) (pv 0) pe_int (fun _ _ => rfl)) pe_int) pe_int)))
  (pss_cons (ps_set (i := 3) sc_law_draw.nd rfl (Or.inl rfl) (pe_op op_mod (pe_op op_add (pv 3) (pe_op op_mulW pe_int (pe_ix (ix_listK (K := K)) (pv 0) pe_int (fun _ _ => rfl)))) (pe_op op_sub (pe_op op_powW pe_int pe_int) pe_int)))
  (pss_one (ps_ret (pe_op op_mod (pe_op op_fdivW (pe_op op_mod (pe_op op_powW (pv 3) pe_int) (pe_op op_add (pe_op op_powW pe_int pe_int) pe_int)) pe_int) (pv 1))))))))), ?_⟩
    refine ⟨fun k σ H' => Keep (∃ ds a, σ = [some (.ref r), some (.int m), none, none] ∧ k = ds.length ∧ RB r d N ds a mix n H' ∧ ∀ b o, b ≠ r → b ≠ d → H b = some o → H' b = some o), ⟨_, ds0, a0, rfl, rfl, ⟨hr0, hd0, ndr, h0, h1, n0, n1⟩, fun _ _ _ _ z => z⟩, fun k σ H' h => ?_⟩
    obtain ⟨ds, a, rfl, rfl, ⟨gr, gd, _⟩, ge⟩ := h.o
    clear h
    have cm : CDivW a m := ⟨hm, hmz⟩
    have p3 : CPowW (n + 1 + 3) 3 := ⟨by decide, by decide, Nat.lt_trans ((show Sm 61 (n + 1 + 3) by unfold Sm; omega).lg (by decide)) (by decide)⟩
    have m3 : CMulW (mix + 7) ((n + 1 + 3) ^ (3 : Int).toNat) := by
      have e1 : Sm 62 (mix + 7) := by unfold Sm; omega
      have e2 : Sm 61 (n + 1 + 3) := by unfold Sm; omega
      have e3 : (n + 1 + 3) ^ (3 : Int).toNat = (n + 1 + 3) * (n + 1 + 3) * (n + 1 + 3) := by
        show (n + 1 + 3) ^ 3 = _
        rw [Int.pow_succ, Int.pow_succ, Int.pow_succ, Int.pow_zero, Int.one_mul]
      rw [e3]
      exact e1.wide ((e2.mul e2).mul e2) (by decide) (by decide) (by decide)
    have m4 : CMulW 1000081 (n + 1) := Sm.wide (a := 20) (b := 61) (by unfold Sm; decide) (by unfold Sm; omega) (by decide) (by decide) (by decide)
    have e61 : (2 : Int) ^ (61 : Int).toNat - 1 = 2305843009213693951 := by decide
    have p5 : CPowW (((mix + 7) * (n + 1 + 3) ^ (3 : Int).toNat + 1000081 * (n + 1)) % (2 ^ (61 : Int).toNat - 1)) 5 := by
      rw [e61]
      generalize (mix + 7) * (n + 1 + 3) ^ (3 : Int).toNat + 1000081 * (n + 1) = y
      exact ⟨by decide, by decide, Nat.lt_trans ((show Sm 61 (y % 2305843009213693951) by unfold Sm; omega).lg (by decide)) (by decide)⟩
    walk_at "sq go"
    refine ifD (fun c => ?_) (fun c => ?_)
    · walk_at "sq go"
      intro e ne
      refine r_neI (xs := ds) (ys := []) (by walk_at "sq sql") (by walk_at "sq sql") ?_
      walk_at "sq go"
      have ge2 : ∀ b o, b ≠ r → b ≠ d → H b = some o → upd H' e (.lst []) b = some o := fun b o h1 h2 z => upd_keep ne (ge b o h1 h2 z)
      have gr2 := upd_keep (o := .lst []) ne gr
      have gd2 := upd_keep (o := .lst []) ne gd
      generalize upd H' e (.lst []) = H2 at ge2 gr2 gd2
      clear ge gr gd ne
      refine ifN (fun c2 => ?_) (fun c2 => ?_)
      · obtain ⟨x, rest, rfl⟩ : ∃ x rest, ds = x :: rest := by
          cases ds with
          | nil => exact absurd rfl c2
          | cons x rest => exact ⟨x, rest, rfl⟩
        refine ⟨fun σ' H3 => Keep (σ' = [some (.ref r), some (.int m), none, none] ∧ RB r d N rest x mix n H3 ∧ ∀ b o, b ≠ r → b ≠ d → H b = some o → H3 b = some o), fun σ' H3 h3 => ?_, ?_⟩
        · obtain ⟨e1, e2, e3⟩ := h3.o
          exact ⟨rest.length, by rw [List.length_cons]; omega, rest, x, e1, rfl, e2, e3⟩
        · walk_at "sq go"
          refine ⟨seqIx0 (by simp), ?_⟩
          walk_at "sq go"
          exact ⟨rfl, ⟨upd_same, by rw [upd_ne ndr, upd_same]; rfl, ndr, h0, h1, n0, n1⟩, fun b o k1 k2 z => upd_off k1 (upd_off k2 (ge2 b o k1 k2 z))⟩
      · have gd := gd2
        have gr := gr2
        have ge := ge2
        walk_at "sq go"
        refine ifD (fun c4 => ?_) (fun c4 => ?_)
        · walk_at "sq go"
          have v0 := Int.emod_nonneg a (show m ≠ 0 by omega)
          have v1 := Int.emod_lt_of_pos a hm
          refine q _ _ v0 v1 (SepB.redo hS (fun b o k1 k2 z => upd_off k1 (ge b o k1 k2 z)) ⟨ds, a / m, mix, n, upd_same, ?_, ndr, h0, h1, n0, by omega⟩)
          rw [upd_ne ndr]
          exact gd
        · walk_at "sq go"
          have v0 : ∀ y : Int, 0 ≤ y % m := fun y => Int.emod_nonneg y (show m ≠ 0 by omega)
          have v1 : ∀ y : Int, y % m < m := fun y => Int.emod_lt_of_pos y hm
          refine q _ _ (v0 _) (v1 _) ?_
          refine SepB.redo hS (fun b o k1 k2 z => upd_off k1 (ge b o k1 k2 z)) ⟨ds, a, mix, n + 1, upd_same, ?_, ndr, h0, h1, by omega, by omega⟩
          rw [upd_ne ndr]
          exact gd
    · skip
      walk_at "sq go"
      refine ifD (fun c4 => ?_) (fun c4 => ?_)
      · walk_at "sq go"
        have v0 := Int.emod_nonneg a (show m ≠ 0 by omega)
        have v1 := Int.emod_lt_of_pos a hm
        refine q _ _ v0 v1 (SepB.redo hS (fun b o k1 k2 z => upd_off k1 (ge b o k1 k2 z)) ⟨ds, a / m, mix, n, upd_same, ?_, ndr, h0, h1, n0, by omega⟩)
        rw [upd_ne ndr]
        exact gd
      · walk_at "sq go"
        have v0 : ∀ y : Int, 0 ≤ y % m := fun y => Int.emod_nonneg y (show m ≠ 0 by omega)
        have v1 : ∀ y : Int, y % m < m := fun y => Int.emod_lt_of_pos y hm
        refine q _ _ (v0 _) (v1 _) ?_
        refine SepB.redo hS (fun b o k1 k2 z => upd_off k1 (ge b o k1 k2 z)) ⟨ds, a, mix, n + 1, upd_same, ?_, ndr, h0, h1, by omega, by omega⟩
        rw [upd_ne ndr]
        exact gd

abbrev s_law_same : Stmt := topS 21
theorem sc_law_same : FnScope ["found", "wanted", "k"] ["found", "wanted"] (defScope s_law_same) := ⟨rfl, rfl, rfl, by decide +kernel, rfl, by decide +kernel, by decide +kernel⟩

mutual
def plain : PyData → Bool
  | .none => true
  | .bool _ => true
  | .int _ => true
  | .str x => PyData.canLay0 (.str x)
  | .list xs => decide (xs.length ≤ 1000000) && plainAll xs
  | .tuple _ => false
  | .dict _ => false
def plainAll : List PyData → Bool
  | [] => true
  | x :: xs => plain x && plainAll xs
end
theorem plain_get : ∀ (ds : List PyData) (i : Nat) (d : PyData), plainAll ds = true → ds[i]? = some d → plain d = true
  | [], _, _, _, e => by simp at e
  | x :: r, i, d, h, e => by
    simp only [plainAll, Bool.and_eq_true] at h
    cases i with
    | zero =>
      have z : x = d := by simpa using e
      rw [← z]
      exact h.1
    | succ i => exact plain_get r i d h.2 (by simpa using e)
theorem depth_get : ∀ (ds : List PyData) (i : Nat) (d : PyData), ds[i]? = some d → d.depth ≤ PyData.depthAll ds
  | [], _, _, e => by simp at e
  | x :: r, i, d, e => by
    simp only [PyData.depthAll]
    cases i with
    | zero =>
      have z : x = d := by simpa using e
      rw [← z]
      exact Nat.le_max_left _ _
    | succ i => exact Nat.le_trans (depth_get r i d (by simpa using e)) (Nat.le_max_right _ _)
/-- x and y hold the same data d, of depth n at most -/
def Alike (K : PySem.W.Frag) (H : Hp) (n : Nat) (x y : V) : Prop := ∃ d, Dp K H x d ∧ Dp K H y d ∧ plain d = true ∧ d.depth ≤ n
def spSame (K : PySem.W.Frag) (n : Nat) : Sp := fun vs H Q _ => ∃ x y, vs = [x, y] ∧ Keep (Alike K H n x y) ∧ ∀ H', Same H H' → Q (.bl true) H'
theorem cal_same0 (D : DefAt K mg "_law_same" s_law_same ["found", "wanted"]) : Cal P w K mg base 1 "_law_same" (fun _ _ _ _ => False) [] := by
  refine D.cal sc_law_same (fun vs H Q E h => ?_) (fun f cdv A outer s H vs Q E hr h => ?_)
  · exact h.elim
  · exact h.elim
theorem cal_same1 (D : DefAt K mg "_law_same" s_law_same ["found", "wanted"]) (B : Bt mg) {k n : Nat} {sp : Sp} (c_law_same : Cal P w K mg base k "_law_same" sp [])
    (hsp : ∀ (x y : V) (H : Hp) (Q : VK) (E : XK) (m : Nat), Alike K H m x y → m < n → (∀ H', Same H H' → Q (.bl true) H') → sp [x, y] H Q E) : Cal P w K mg base (k + 1) "_law_same" (spSame K n) [] := by
  refine D.cal sc_law_same (fun vs H Q E h => ?_) (fun f cdv A outer s H vs Q E hr h => ?_)
  · obtain ⟨x, y, rfl, _⟩ := h
    rfl
  · obtain ⟨x, y, rfl, ⟨d, hx, hy, hc, hd⟩, q⟩ := h
    refine ⟨_, (pss_cons (ps_if (pt_cmpR op_isN (pv 1) pe_non (nomark _)) (pss_one (ps_ret (pe_cmpR op_isN (pv 0) pe_non (nomark _)))) pss_nil)
  (pss_cons (ps_if (pt_val (pe_callB (isiK (K := K)) (by rfl) B.isinstance (by decide +kernel) (pa_cons (pv 1) (pa_cons (pe_bltn (v := .ty "bool") (by rfl) B.bool (by decide +kernel) rfl) pa_nil)))) (pss_one (ps_ret (pe_and (pe_callB (isiK (K := K)) (by rfl) B.isinstance (by decide +kernel) (pa_cons (pv 0) (pa_cons (pe_bltn (v := .ty "bool") (by rfl) B.bool (by decide +kernel) rfl) pa_nil))) (pe_one (pe_cmpR (op_eqDK (K := K) hr.units) (pv 0) (pv 1) (nomark _)))))) pss_nil)
  (pss_cons (ps_if (pt_val (pe_callB (isiK (K := K)) (by rfl) B.isinstance (by decide +kernel) (pa_cons (pv 1) (pa_cons (pe_bltn (v := .ty "int") (by rfl) B.int (by decide +kernel) rfl) pa_nil)))) (pss_one (ps_ret (pe_and (pe_callB (isiK (K := K)) (by rfl) B.isinstance (by decide +kernel) (pa_cons (pv 0) (pa_cons (pe_bltn (v := .ty "int") (by rfl) B.int (by decide +kernel) rfl) pa_nil))) (pe_and (pe_not (pe_callB (isiK (K := K)) (by rfl) B.isinstance (by decide +kernel) (pa_cons (pv 0) (pa_cons (pe_bltn (v := .ty "bool") (by rfl) B.bool (by decide +kernel) rfl) pa_nil)))) (pe_one (pe_cmpR (op_eqDK (K := K) hr.units) (pv 0) (pv 1) (nomark _))))))) pss_nil)
  (pss_cons (ps_if (pt_val (pe_callB (isiK (K := K)) (by rfl) B.isinstance (by decide +kernel) (pa_cons (pv 1) (pa_cons (pe_bltn (v := .ty "str") (by rfl) B.str (by decide +kernel) rfl) pa_nil)))) (pss_one (ps_ret (pe_and (pe_callB (isiK (K := K)) (by rfl) B.isinstance (by decide +kernel) (pa_cons (pv 0) (pa_cons (pe_bltn (v := .ty "str") (by rfl) B.str (by decide +kernel) rfl) pa_nil))) (pe_one (pe_cmpR (op_eqDK (K := K) hr.units) (pv 0) (pv 1) (nomark _)))))) pss_nil)
  (pss_cons (ps_if (pt_cmpR op_ne (pe_callB (isiK (K := K)) (by rfl) B.isinstance (by decide +kernel) (pa_cons (pv 0) (pa_cons (pe_bltn (v := .ty "list") (by rfl) B.list (by decide +kernel) rfl) pa_nil))) (pe_callB (isiK (K := K)) (by rfl) B.isinstance (by decide +kernel) (pa_cons (pv 1) (pa_cons (pe_bltn (v := .ty "list") (by rfl) B.list (by decide +kernel) rfl) pa_nil))) (nomark _)) (pss_one (ps_ret pe_bl)) pss_nil)
  (pss_cons (ps_if (PW.pt (pw_or (pt_cmpR op_ne (pe_callB (isiK (K := K)) (by rfl) B.isinstance (by decide +kernel) (pa_cons (pv 0) (pa_cons (pe_bltn (v := .ty "tuple") (by rfl) B.tuple (by decide +kernel) rfl) pa_nil))) (pe_callB (isiK (K := K)) (by rfl) B.isinstance (by decide +kernel) (pa_cons (pv 1) (pa_cons (pe_bltn (v := .ty "tuple") (by rfl) B.tuple (by decide +kernel) rfl) pa_nil))) (nomark _)) (pw_or1 (pt_cmpR op_ne (pe_callB (len_seqK (K := K)) (by rfl) B.len boot_len (pa_cons (pv 0) pa_nil)) (pe_callB (len_seqK (K := K)) (by rfl) B.len boot_len (pa_cons (pv 1) pa_nil)) (nomark _))))) (pss_one (ps_ret pe_bl)) pss_nil)
  (pss_one (ps_ret (pe_cmpR (op_eqDK (K := K) hr.units) (pe_lc (own := [("k", 2)]) (g := gName 2) (by rfl) sc_law_same.nd (pi_range1 (by rfl) B.range (pa_cons (pe_callB (len_seqK (K := K)) (by rfl) B.len boot_len (pa_cons (pv 1) pa_nil)) pa_nil)) (blkOk_by (own := [("k", 2)]) (N := ["found", "wanted", "k"]) (sc := defScope s_law_same) (by decide +kernel)) (fun _ _ _ _ _ => (pg_name (i := 2) sc_law_same.nd rfl (Or.inl rfl))) (fun _ _ _ _ _ => (pts_one (pt_not (pt_val (pe_c c_law_same hr (by first | decide | omega) (by rfl) (pa_cons (pe_ix (ix_listK (K := K)) (pv 0) (pv 2) (fun _ _ => rfl)) (pa_cons (pe_ix (ix_listK (K := K)) (pv 1) (pv 2) (fun _ _ => rfl)) pa_nil))))))) (fun _ _ _ _ _ => (pv 2))) (pe_lst pa_nil) (nomark _)))))))))), ?_⟩
    cases d with
    | none =>
      cases hx; cases hy
      walk_at "sq go"
      exact q H (.refl H)
    | bool v =>
      cases hx; cases hy
      walk_at "sq go"
      refine rEqQ_of ⟨_, _, .bl v, .bl v, by simp [SeqAt.shaped, PyData.canLay0, PyData.depth], by simp [SeqAt.shaped, PyData.canLay0, PyData.depth], ?_⟩
      have e : PyData.eqv (.bool v) (.bool v) = true := by simp [PyData.eqv]
      rw [e]
      exact q H (.refl H)
    | int v =>
      cases hx; cases hy
      walk_at "sq go"
      refine rEqQ_of ⟨_, _, .int v, .int v, by simp [SeqAt.shaped, PyData.canLay0, PyData.depth], by simp [SeqAt.shaped, PyData.canLay0, PyData.depth], ?_⟩
      have e : PyData.eqv (.int v) (.int v) = true := by simp [PyData.eqv]
      rw [e]
      exact q H (.refl H)
    | str v =>
      cases hx; cases hy
      walk_at "sq go"
      have sh : SeqAt.shaped (.str v) = true := by
        simp only [plain, PyData.canLay0] at hc
        simp [SeqAt.shaped, PyData.canLay0, PyData.depth, hc]
      refine rEqQ_of ⟨_, _, .str v, .str v, sh, sh, ?_⟩
      have e : PyData.eqv (.str v) (.str v) = true := by simp [PyData.eqv]
      rw [e]
      exact q H (.refl H)
    | list ds =>
      cases hx with
      | @lst a xs _ ha hxs =>
      cases hy with
      | @lst b ys _ hb hys =>
      have lx := dpall_len _ _ hxs
      have ly := dpall_len _ _ hys
      simp only [plain, Bool.and_eq_true, decide_eq_true_eq] at hc
      simp only [PyData.depth] at hd
      obtain ⟨hlen, hc⟩ := hc
      walk_at "sq go"
      refine ifIN (fun c => absurd (by rw [lx, ly]) c) (fun _ => ?_)
      walk_at "sq go"
      intro D nD
      refine lc_range (lo := 0) (n := ((ys.length : Nat) : Int).toNat) (fun i H' => Keep (Same H H' ∧ H' D = some (.lst []))) ⟨same_new nD, upd_same⟩ (fun i H' hi h => ?_) (fun H' h => ?_)
      · obtain ⟨s1, eD⟩ := h.o
        have hi2 : i < ds.length := by omega
        obtain ⟨x, ex, dx⟩ := dpall_get _ _ hxs i _ (List.getElem?_eq_getElem hi2)
        obtain ⟨y, ey, dy⟩ := dpall_get _ _ hys i _ (List.getElem?_eq_getElem hi2)
        have ax : atI xs (0 + (i : Int)) = some x := by rw [Int.zero_add]; exact atI_nat ex
        have ay : atI ys (0 + (i : Int)) = some y := by rw [Int.zero_add]; exact atI_nat ey
        have ha' := s1.seq ha
        have hb' := s1.seq hb
        walk_at "sq go"
        refine hsp x y H' _ _ _ ⟨_, dp_same s1 _ _ dx, dp_same s1 _ _ dy, plain_get _ i _ hc (List.getElem?_eq_getElem hi2), depth_get _ i _ (List.getElem?_eq_getElem hi2)⟩ (by omega) (fun H2 s2 => ?_)
        walk_at "sq go"
        exact ⟨s1.trans s2, s2 _ _ eD⟩
      · obtain ⟨s1, eD⟩ := h.o
        walk_at "sq go"
        intro e ne
        have s2 := s1.trans (same_new (o := .lst []) ne)
        refine r_eqI (xs := []) (ys := []) (seqL_of (upd_keep ne eD)) (seqL_of upd_same) ?_
        exact q _ s2
    | tuple ds => simp [plain] at hc
    | dict kvs => nomatch hx
theorem Alike.mono {K : PySem.W.Frag} {H : Hp} {m n : Nat} {x y : V} (h : Alike K H m x y) (hm : m ≤ n) : Alike K H n x y := by
  obtain ⟨d, h1, h2, h3, h4⟩ := h
  exact ⟨d, h1, h2, h3, by omega⟩
theorem cal_same (D : DefAt K mg "_law_same" s_law_same ["found", "wanted"]) (B : Bt mg) : ∀ n : Nat, Cal P w K mg base (n + 2) "_law_same" (spSame K n) []
  | 0 => cal_same1 D B (cal_same0 D) fun x y H Q E m h lt q => absurd lt (by omega)
  | n + 1 => cal_same1 D B (cal_same D B n) fun x y H Q E m h lt q => ⟨x, y, rfl, ⟨h.mono (by omega)⟩, q⟩
theorem alike_ints {K : PySem.W.Frag} {H : Hp} {a b : Addr} {ns : List Int} {n : Nat} (h1 : SqL K H a (iv ns)) (h2 : SqL K H b (iv ns)) (hl : ns.length ≤ 1000000) (hn : 1 ≤ n) : Alike K H n (.ref a) (.ref b) := by
  have pl : ∀ ns : List Int, plainAll (ns.map .int) = true := by
    intro ns
    induction ns with
    | nil => simp [plainAll]
    | cons x r ih => simp [plainAll, plain, ih]
  refine ⟨dI ns, dp_iv h1, dp_iv h2, ?_, ?_⟩
  · unfold dI
    simp only [plain, pl, List.length_map, decide_eq_true hl, Bool.and_self]
  · unfold dI
    simp only [PyData.depth, dep_ints]
    omega
theorem alike_int {K : PySem.W.Frag} {H : Hp} {i : Int} {n : Nat} : Alike K H n (.int i) (.int i) := ⟨.int i, .int i, .int i, by simp [plain], by simp [PyData.depth]⟩

/-! ### the least run with more characters -/
def lr (g k : Int) : Int := (g - (if g < k - 1 then g else k - 1)) * k + (if g < k - 1 then g else k - 1)
theorem lr_rb {R k : Int} (hR : 1 ≤ R) (hk : 2 ≤ k) : lr (R + 1) k = rb R k + 1 := by
  unfold lr rb
  by_cases h : k > R + 1
  · rw [if_pos h]
    by_cases h2 : R + 1 < k - 1
    · rw [if_pos h2, Int.sub_self, Int.zero_mul, Int.zero_add]
    · rw [if_neg h2, show k - 1 = R + 1 by omega, Int.sub_self, Int.zero_mul, Int.zero_add]
  · rw [if_neg h, if_neg (by omega)]
    have : (R + 3 - k) * k = (R + 1 - (k - 1)) * k + k := by
      rw [show R + 3 - k = (R + 1 - (k - 1)) + 1 by omega, Int.add_mul, Int.one_mul]
    omega
abbrev s_law_least_run : Stmt := topS 24
theorem sc_law_least_run : FnScope ["row", "goal", "one", "rest"] ["row", "goal"] (defScope s_law_least_run) := ⟨rfl, rfl, rfl, by decide +kernel, rfl, by decide +kernel, by decide +kernel⟩

def spLeast (K : PySem.W.Frag) : Sp := fun vs H Q _ => ∃ (p : Addr) (ns : List Int) (m : Int), vs = [.ref p, .int (m + 1)] ∧ SqL K H p (iv ns) ∧ Keep (Two ns ∧ 1 ≤ m ∧ Fit ns m) ∧ ∀ H', Same H H' → Q (.int (reachOf ns m + 1)) H'
theorem cal_least (D : DefAt K mg "_law_least_run" s_law_least_run ["row", "goal"]) (B : Bt mg) : Cal P w K mg base 1 "_law_least_run" (spLeast K) [] := by
  refine D.cal sc_law_least_run (fun vs H Q E h => ?_) (fun f cdv A outer s H vs Q E hr h => ?_)
  · obtain ⟨p, ns, m, rfl, _⟩ := h
    rfl
  · obtain ⟨p, ns, m, rfl, hS, ⟨h2, hm, b, c, hb, hc, h10, hc10, hz⟩, q⟩ := h
    refine ⟨_, (pss_cons (ps_for PassesOwn.never rfl (pi_listK (K := K) (pe_revLK (K := K) (pv 0))) (pg_name (i := 2) sc_law_least_run.nd rfl (Or.inl rfl))
   (pss_cons (ps_set (i := 3) sc_law_least_run.nd rfl (Or.inl rfl) (pe_callB (call_min2 rfl) (by rfl) B.min (by decide +kernel) (pa_cons (pe_op op_sub (pv 2) pe_int) (pa_cons (pv 1) pa_nil))))
  (pss_one (ps_set (i := 1) sc_law_least_run.nd rfl (Or.inl rfl) (pe_op op_add (pe_op op_mulW (pe_op op_sub (pv 1) (pv 3)) (pv 2)) (pv 3))))))
  (pss_one (ps_ret (pv 1)))), ?_⟩
    walk_at "sq go"
    intro t nt
    have sm := same_new (o := .lst (iv ns).reverse) nt
    have ht : SqL K (upd H t (.lst (iv ns).reverse)) t (iv ns.reverse) := by
      have e : iv ns.reverse = (iv ns).reverse := List.map_reverse ..
      rw [e]
      exact seqL_of upd_same
    walk_at "sq go"
    refine for_list (K := K) (a := t) (xs := iv ns.reverse) (fun i σ H' => Keep (∃ y z, σ = [some (.ref p), some (.int ((ns.reverse.take i).foldl rb m + 1)), y, z] ∧ H' = upd H t (.lst (iv ns).reverse))) ⟨none, none, rfl, rfl⟩ (fun i σ H' _ h => ?_) (fun i x σ H' hx h => ?_) (fun σ H' h => ?_)
    · obtain ⟨_, _, _, rfl⟩ := h.o
      exact ht
    · obtain ⟨y, z, rfl, rfl⟩ := h.o
      obtain ⟨k, hk, rfl⟩ := iv_get hx
      have mk : k ∈ ns := List.mem_reverse.mp (List.mem_of_getElem? hk)
      have tk : Two (ns.reverse.take i) := fun j hj => h2 j (List.mem_reverse.mp (List.mem_of_mem_take hj))
      have len : (ns.reverse.take i).length ≤ ns.length := by
        rw [List.length_take, List.length_reverse]
        omega
      have sR := rbs_Sm hm tk (fun j hj => hb j (List.mem_reverse.mp (List.mem_of_mem_take hj))) hc h10
      have sz : c + (ns.reverse.take i).length * b + b ≤ 900000 := by
        have := Nat.mul_le_mul_right b len
        rw [Nat.add_mul] at hz
        omega
      have pR := rbs_pos hm tk
      have e2 := foldr_take_rev (m := m) hk
      generalize (ns.reverse.take i).foldl rb m = R at sR pR e2 ⊢
      have k2 := h2 k mk
      have sk := hb k mk
      have wm : CMulW (R + 1 - (if R + 1 < k - 1 then R + 1 else k - 1)) k := Sm.wide (a := c + (ns.reverse.take i).length * b + 1) (b := b) (by
        refine Sm.le (j := R + 1) (Sm.add sR (Sm.of (by decide) (by omega))) ?_ ?_
        · split <;> omega
        · split <;> omega) sk (by omega) (by omega) (by omega)
      walk_at "sq go"
      refine ⟨_, _, by rw [e2, ← lr_rb (by omega) k2]; rfl, rfl⟩
    · obtain ⟨y, z, rfl, rfl⟩ := h.o
      have e : (iv ns.reverse).length = ns.reverse.length := iv_len _
      rw [e, List.take_length, reachOf_rev]
      walk_at "sq go"
      exact q _ sm

/-! ### the greatest reach that one replacement makes, found by comparing neighbours -/
theorem rb_quad {R m : Int} (h2 : 2 ≤ m) (hm : m ≤ R + 2) : rb R m = (R + 3 - m) * m - 2 := by
  unfold rb
  split
  · rw [show m = R + 2 by omega, show R + 3 - (R + 2) = 1 by omega, Int.one_mul]
    omega
  · rfl
theorem rb_next_iff {R m : Int} (h2 : 2 ≤ m) (hm : m + 1 ≤ R + 2) : rb R m < rb R (m + 1) ↔ m + 1 ≤ (R + 3) / 2 := by
  rw [rb_quad h2 (by omega), rb_quad (by omega) hm]
  have e : (R + 3 - (m + 1)) * (m + 1) = (R + 3 - m) * m + (R + 2 - 2 * m) := by
    rw [show R + 3 - (m + 1) = (R + 3 - m) - 1 by omega, Int.sub_mul, Int.one_mul, Int.mul_add, Int.mul_one]
    omega
  omega
theorem same_putA {H H' : Hp} {a : Addr} {o : HO} (s : Same H H') (n : H a = none) : Same H (upd H' a o) := fun b u e => by
  by_cases hb : b = a
  · rw [hb, n] at e
    cases e
  · rw [upd_ne hb]
    exact s b u e
abbrev s_law_most_of : Stmt := topS 25
theorem sc_law_most_of : FnScope ["reached", "low", "high", "middle", "one"] ["reached"] (defScope s_law_most_of) := ⟨rfl, rfl, rfl, by decide +kernel, rfl, by decide +kernel, by decide +kernel⟩

def spMostOf : Sp := fun vs H Q _ => ∃ (R : Int) (c : Nat), vs = [.int R] ∧ Keep (1 ≤ R ∧ Sm c R ∧ 10 ≤ c ∧ c ≤ 200000) ∧ ∀ H', Same H H' → Q (.int (bR R)) H'
theorem fit_one {R k : Int} {c : Nat} (h1 : Sm c R) (h2 : Sm (c + 2) k) (h10 : 10 ≤ c) (hc : c ≤ 200000) : Fit [k] R := ⟨c + 2, c, fun j hj => by rw [List.mem_singleton.mp hj]; exact h2, h1, by omega, h10, by simp; omega⟩
theorem reach_one (k R : Int) : reachOf [k] R = rb R k := rfl
theorem cal_mostOf (D : DefAt K mg "_law_most_of" s_law_most_of ["reached"]) (B : Bt mg) (c_law_least_run : Cal P w K mg base 1 "_law_least_run" (spLeast K) []) : Cal P w K mg base 2 "_law_most_of" spMostOf [] := by
  refine D.cal sc_law_most_of (fun vs H Q E h => ?_) (fun f cdv A outer s H vs Q E hr h => ?_)
  · obtain ⟨R, c, rfl, _⟩ := h
    rfl
  · obtain ⟨R, c, rfl, ⟨R1, sR, c10, cb⟩, q⟩ := h
    refine ⟨_, (pss_cons (ps_par (i := 1) (j := 2) rfl sc_law_most_of.nd rfl rfl (by decide) rfl rfl (pa_cons pe_int (pa_cons (pe_op op_add (pv 0) pe_int) pa_nil)) (by rfl))
  (pss_cons (ps_while PassesOwn.never (PW.pt (pw_and (pt_cmpR op_lt (pv 1) (pv 2) (nomark _)) (pw_and1 (pt_cmpR op_lt (pv 0) (pe_op op_powW pe_int pe_int) (nomark _)))))
   (pss_cons (ps_set (i := 3) sc_law_most_of.nd rfl (Or.inl rfl) (pe_op op_fdivW (pe_op op_add (pv 1) (pv 2)) pe_int))
  (pss_one (ps_if (pt_cmpR op_lt (pe_c c_law_least_run hr (by first | decide | omega) (by rfl) (pa_cons (pe_lst (pa_cons (pv 3) pa_nil)) (pa_cons (pe_op op_add (pv 0) pe_int) pa_nil))) (pe_c c_law_least_run hr (by first | decide | omega) (by rfl) (pa_cons (pe_lst (pa_cons (pe_op op_add (pv 3) pe_int) pa_nil)) (pa_cons (pe_op op_add (pv 0) pe_int) pa_nil))) (nomark _)) (pss_one (ps_set (i := 1) sc_law_most_of.nd rfl (Or.inl rfl) (pe_op op_add (pv 3) pe_int))) (pss_one (ps_set (i := 2) sc_law_most_of.nd rfl (Or.inl rfl) (pv 3)))))))
  (pss_cons (ps_if (pt_cmpR op_lt (pv 1) (pv 2) (nomark _)) (pss_one (ps_set (i := 1) sc_law_most_of.nd rfl (Or.inl rfl) (pe_op op_fdivW (pe_op op_add (pv 0) pe_int) pe_int))) pss_nil)
  (pss_one (ps_ret (pe_callB (cr_maxK (K := K) rfl) (by rfl) B.max (by decide +kernel) (pa_cons (pe_lc (own := [("one", 4)]) (g := gName 4) (by rfl) sc_law_most_of.nd (pi_range2W (by rfl) B.range (pa_cons (pe_callB (call_max2 rfl) (by rfl) B.max (by decide +kernel) (pa_cons pe_int (pa_cons (pe_op op_sub (pv 1) pe_int) pa_nil))) (pa_cons (pe_op op_add (pv 1) pe_int) pa_nil))) (blkOk_by (own := [("one", 4)]) (N := ["reached", "low", "high", "middle", "one"]) (sc := defScope s_law_most_of) (by decide +kernel)) (fun _ _ _ _ _ => (pg_name (i := 4) sc_law_most_of.nd rfl (Or.inl rfl))) (fun _ _ _ _ _ => pts_nil) (fun _ _ _ _ _ => (pe_op op_sub (pe_c c_law_least_run hr (by first | decide | omega) (by rfl) (pa_cons (pe_lst (pa_cons (pv 4) pa_nil)) (pa_cons (pe_op op_add (pv 0) pe_int) pa_nil))) pe_int))) pa_nil))))))), ?_⟩
    have p10 : 2 ^ 10 ≤ 2 ^ c := Nat.pow_le_pow_right (by decide) c10
    have p2 : 2 ^ (c + 2) = 2 ^ c * 4 := by rw [Nat.pow_add]
    have sk : ∀ k : Int, 2 ≤ k → k ≤ R + 5 → Sm (c + 2) k := fun k h1 h2 => by
      unfold Sm at *
      omega
    have c9 : CPowW 10 9 := ⟨by decide, by decide, by decide⟩
    obtain ⟨m0, em⟩ : ∃ m0, m0 = (R + 3) / 2 := ⟨_, rfl⟩
    walk_at "sq go"
    refine ⟨fun z σ H' => Keep (∃ lo hi x3, σ = [some (.int R), some (.int lo), some (.int hi), x3, none] ∧ 2 ≤ lo ∧ lo ≤ m0 ∧ m0 ≤ hi ∧ hi ≤ R + 2 ∧ z = (hi - lo).toNat ∧ (R < 10 ^ 9 ∨ (lo = 2 ∧ hi = R + 2)) ∧ Same H H'), ⟨_, 2, R + 2, none, rfl, by decide, by omega, by omega, by omega, rfl, .inr ⟨rfl, rfl⟩, .refl H⟩, fun z σ H' h => ?_⟩
    obtain ⟨lo, hi, x3, rfl, lo2, lom, mhi, hiR, rfl, big, s1⟩ := h.o
    clear h
    have e9 : (10 : Int) ^ (9 : Int).toNat = 1000000000 := rfl
    have rest : ∀ H2 : Hp, Same H H2 → ∀ Q' : VK, (∀ H', Same H H' → Q' (.int (bR R)) H') → True := fun _ _ _ _ => trivial
    walk_at "sq go"
    refine ifD (fun cc => ?_) (fun cc => ?_)
    · walk_at "sq go"
      refine ifD (fun c2 => ?_) (fun c2 => ?_)
      · have cR : R < 10 ^ 9 := c2
        refine ⟨fun σ' H3 => Keep (∃ z', z' < (hi - lo).toNat ∧ ∃ lo hi x3, σ' = [some (.int R), some (.int lo), some (.int hi), x3, none] ∧ 2 ≤ lo ∧ lo ≤ m0 ∧ m0 ≤ hi ∧ hi ≤ R + 2 ∧ z' = (hi - lo).toNat ∧ (R < 10 ^ 9 ∨ (lo = 2 ∧ hi = R + 2)) ∧ Same H H3), fun σ' H3 h => ?_, ?_⟩
        · obtain ⟨z', hz, r⟩ := h.o
          exact ⟨z', hz, ⟨r⟩⟩
        · have cd2 : CDivW (lo + hi) 2 := div_ok (by decide) (by decide)
          walk_at "sq go"
          intro e1 ne1
          obtain ⟨mid, emid⟩ : ∃ mid, mid = (lo + hi) / 2 := ⟨_, rfl⟩
          have md : lo ≤ mid ∧ mid < hi := by omega
          have w1 := same_new (o := .lst (iv [(lo + hi) / 2])) ne1
          have he1 : SqL K (upd H' e1 (.lst (iv [(lo + hi) / 2]))) e1 (iv [(lo + hi) / 2]) := seqL_of upd_same
          have tw : ∀ k : Int, 2 ≤ k → Two [k] := fun k hk j hj => by rw [List.mem_singleton.mp hj]; exact hk
          walk_at "sq go"
          refine ⟨⟨tw _ (by omega), R1, fit_one sR (sk _ (by omega) (by omega)) c10 cb⟩, fun H2 s2 => ?_⟩
          walk_at "sq go"
          intro e2 ne2
          have he2 : SqL K (upd H2 e2 (.lst (iv [(lo + hi) / 2 + 1]))) e2 (iv [(lo + hi) / 2 + 1]) := seqL_of upd_same
          have w2 := same_new (o := .lst (iv [(lo + hi) / 2 + 1])) ne2
          walk_at "sq go"
          refine ⟨⟨tw _ (by omega), R1, fit_one sR (sk _ (by omega) (by omega)) c10 cb⟩, fun H3 s3 => ?_⟩
          have s4 := s1.trans (w1.trans (s2.trans (w2.trans s3)))
          have key := rb_next_iff (R := R) (m := (lo + hi) / 2) (by omega) (by omega)
          walk_at "sq go"
          rw [reach_one, reach_one]
          refine ifD (fun c3 => ?_) (fun c3 => ?_)
          · have lt := key.mp (by omega)
            walk_at "sq go"
            exact ⟨(hi - ((lo + hi) / 2 + 1)).toNat, by omega, _, _, _, rfl, by omega, by omega, mhi, hiR, rfl, .inl cR, s4⟩
          · have ge : ¬ (lo + hi) / 2 + 1 ≤ (R + 3) / 2 := fun y => c3 (by have := key.mpr y; omega)
            walk_at "sq go"
            exact ⟨((lo + hi) / 2 - lo).toNat, by omega, _, _, _, rfl, lo2, lom, by omega, by omega, rfl, .inl cR, s4⟩
      · have cR : ¬ R < 10 ^ 9 := c2
        have lh : lo = 2 ∧ hi = R + 2 := by omega
        walk_at "sq go"
        refine ifD (fun _ => ?_) (fun y => absurd cc y)
        have cd3 : CDivW (R + 3) 2 := div_ok (by decide) (by decide)
        walk_at "sq go"
        obtain ⟨L, eL⟩ : ∃ L, (R + 3) / 2 = L := ⟨_, rfl⟩
        rw [eL]
        intro Dl nDl
        obtain ⟨l0, el0⟩ : ∃ l0, l0 = if L - 2 > 2 then L - 2 else 2 := ⟨_, rfl⟩
        have l02 : 2 ≤ l0 ∧ l0 ≤ L ∧ L + 3 - l0 ≤ 5 := by
          rw [el0]
          split <;> omega
        rw [← el0]
        refine lc_range (lo := l0) (n := (L + 3 - l0).toNat) (fun t H3 => Keep (Same H' H3 ∧ H3 Dl = some (.lst (iv ((List.range t).map fun (t : Nat) => rb R (l0 + (t : Int))))))) ⟨same_new nDl, upd_same⟩ (fun t H3 ht h => ?_) (fun H3 h => ?_)
        · obtain ⟨s3, hD⟩ := h.o
          walk_at "sq go"
          intro e1 ne1
          have w1 := same_new (o := .lst (iv [l0 + (t : Int)])) ne1
          have he1 : SqL K (upd H3 e1 (.lst (iv [l0 + (t : Int)]))) e1 (iv [l0 + (t : Int)]) := seqL_of upd_same
          have hD1 := upd_keep (o := .lst (iv [l0 + (t : Int)])) ne1 hD
          have tw : Two [l0 + (t : Int)] := fun j hj => by rw [List.mem_singleton.mp hj]; omega
          walk_at "sq go"
          refine ⟨⟨tw, R1, fit_one sR (sk _ (by omega) (by omega)) c10 cb⟩, fun H4 s4 => ?_⟩
          have hD4 := s4 _ _ hD1
          have lz : (iv ((List.range t).map fun (t : Nat) => rb R (l0 + (t : Int)))).length < sizeLine := by
            rw [iv_len, List.length_map, List.length_range, sizeLine_eq]
            omega
          walk_at "sq go"
          refine ⟨same_putA (s3.trans (w1.trans s4)) nDl, ?_⟩
          rw [upd_same, iv_app, List.range_succ, List.map_append, reach_one]
          show some (HO.lst (iv (_ ++ [rb R (l0 + (t : Int)) + 1 - 1]))) = some (HO.lst (iv (_ ++ [rb R (l0 + (t : Int))])))
          rw [show rb R (l0 + (t : Int)) + 1 - 1 = rb R (l0 + (t : Int)) by omega]
        · obtain ⟨s3, hD⟩ := h.o
          have hD2 := seqL_of (K := K) hD
          walk_at "sq go"
          refine ⟨?_, fun mx mm ge => ?_⟩
          · rw [List.length_map, List.length_range]
            omega
          · have e1 : mx = bR R := by
              obtain ⟨t, ht, rfl⟩ := List.mem_map.mp mm
              have b1 := (bR_max (R := R) (k := l0 + (t : Int)) R1 (by omega)).1
              have b2 := ge (rb R (l0 + (((L - l0).toNat : Nat) : Int))) (List.mem_map.mpr ⟨(L - l0).toNat, List.mem_range.mpr (by omega), rfl⟩)
              rw [show l0 + (((L - l0).toNat : Nat) : Int) = L by omega, ← eL, bR_is R1] at b2
              omega
            rw [e1]
            walk_at "sq go"
            exact q _ (s1.trans s3)
    · have el : lo = m0 := by omega
      walk_at "sq go"
      refine ifD (fun y => absurd y cc) (fun _ => ?_)
      obtain ⟨L, eL2⟩ : ∃ L, lo = L := ⟨_, rfl⟩
      rw [eL2]
      have eL : (R + 3) / 2 = L := by omega
      walk_at "sq go"
      intro Dl nDl
      obtain ⟨l0, el0⟩ : ∃ l0, l0 = if L - 2 > 2 then L - 2 else 2 := ⟨_, rfl⟩
      have l02 : 2 ≤ l0 ∧ l0 ≤ L ∧ L + 3 - l0 ≤ 5 := by
        rw [el0]
        split <;> omega
      rw [← el0]
      refine lc_range (lo := l0) (n := (L + 3 - l0).toNat) (fun t H3 => Keep (Same H' H3 ∧ H3 Dl = some (.lst (iv ((List.range t).map fun (t : Nat) => rb R (l0 + (t : Int))))))) ⟨same_new nDl, upd_same⟩ (fun t H3 ht h => ?_) (fun H3 h => ?_)
      · obtain ⟨s3, hD⟩ := h.o
        walk_at "sq go"
        intro e1 ne1
        have w1 := same_new (o := .lst (iv [l0 + (t : Int)])) ne1
        have he1 : SqL K (upd H3 e1 (.lst (iv [l0 + (t : Int)]))) e1 (iv [l0 + (t : Int)]) := seqL_of upd_same
        have hD1 := upd_keep (o := .lst (iv [l0 + (t : Int)])) ne1 hD
        have tw : Two [l0 + (t : Int)] := fun j hj => by rw [List.mem_singleton.mp hj]; omega
        walk_at "sq go"
        refine ⟨⟨tw, R1, fit_one sR (sk _ (by omega) (by omega)) c10 cb⟩, fun H4 s4 => ?_⟩
        have hD4 := s4 _ _ hD1
        have lz : (iv ((List.range t).map fun (t : Nat) => rb R (l0 + (t : Int)))).length < sizeLine := by
          rw [iv_len, List.length_map, List.length_range, sizeLine_eq]
          omega
        walk_at "sq go"
        refine ⟨same_putA (s3.trans (w1.trans s4)) nDl, ?_⟩
        rw [upd_same, iv_app, List.range_succ, List.map_append, reach_one]
        show some (HO.lst (iv (_ ++ [rb R (l0 + (t : Int)) + 1 - 1]))) = some (HO.lst (iv (_ ++ [rb R (l0 + (t : Int))])))
        rw [show rb R (l0 + (t : Int)) + 1 - 1 = rb R (l0 + (t : Int)) by omega]
      · obtain ⟨s3, hD⟩ := h.o
        have hD2 := seqL_of (K := K) hD
        walk_at "sq go"
        refine ⟨?_, fun mx mm ge => ?_⟩
        · rw [List.length_map, List.length_range]
          omega
        · have e1 : mx = bR R := by
            obtain ⟨t, ht, rfl⟩ := List.mem_map.mp mm
            have b1 := (bR_max (R := R) (k := l0 + (t : Int)) R1 (by omega)).1
            have b2 := ge (rb R (l0 + (((L - l0).toNat : Nat) : Int))) (List.mem_map.mpr ⟨(L - l0).toNat, List.mem_range.mpr (by omega), rfl⟩)
            rw [show l0 + (((L - l0).toNat : Nat) : Int) = L by omega, ← eL, bR_is R1] at b2
            omega
          rw [e1]
          walk_at "sq go"
          exact q _ (s1.trans s3)

/-! ### all best lists are right -/
theorem LL.of {G H : Hp} {l : Addr} {ps : List Addr} {rows : List (List Int)} (ra : RowsAt G H ps rows) (nl : H l = none) : LL G (upd H l (.lst (ps.map V.ref))) l rows := by
  have at_ : ∀ (i : Nat) (p : Addr), ps[i]? = some p → ∃ ns, rows[i]? = some ns ∧ H p = some (.lst (iv ns)) ∧ G p = none := fun i p e => by
    have li : i < rows.length := by
      rw [← ra.1]
      exact (List.getElem?_eq_some_iff.mp e).1
    exact ⟨_, List.getElem?_eq_getElem li, ra.2 i p _ e (List.getElem?_eq_getElem li)⟩
  refine ⟨ps, upd_same, ra.1, fun p hp => ?_, fun i p ns h1 h2 => upd_keep nl (ra.2 i p ns h1 h2).1⟩
  obtain ⟨i, hi⟩ := List.mem_iff_getElem?.mp hp
  obtain ⟨ns, _, e, g⟩ := at_ i p hi
  exact ⟨(fun z => by rw [z, nl] at e; cases e), g⟩
theorem LL.pickB {G H : Hp} {l : Addr} {rows : List (List Int)} {xs : List V} {i : Nat} {v : V} (h : LL G H l rows) (hl : H l = some (.lst xs)) (e : xs[i]? = some v) : ∃ p ns, rows[i]? = some ns ∧ v = .ref p ∧ H p = some (.lst (iv ns)) := by
  obtain ⟨ys, hy, ly⟩ := h.len
  rw [hl] at hy
  have ey := HO.lst.inj (Option.some.inj hy)
  subst ey
  have lt : i < rows.length := by
    rw [← ly]
    exact (List.getElem?_eq_some_iff.mp e).1
  obtain ⟨p, xs', e1, e2, _, e3, _⟩ := h.get (List.getElem?_eq_getElem lt)
  rw [hl] at e1
  have ey := HO.lst.inj (Option.some.inj e1)
  subst ey
  rw [e] at e2
  exact ⟨p, rows[i], List.getElem?_eq_getElem lt, Option.some.inj e2, e3⟩
theorem ne_newB {H : Hp} {a b : Addr} {u : HO} (e : H a = some u) (n : H b = none) : a ≠ b := fun z => by
  rw [z, n] at e
  cases e
theorem lex_no : ∀ {a b : List Int}, lexLt a b → lexLe b a = false
  | [], [], h => h.elim
  | [], _ :: _, _ => rfl
  | _ :: _, [], h => h.elim
  | x :: r, y :: t, h => by
    unfold lexLe
    rcases h with z | ⟨z, w⟩
    · rw [if_neg (by omega), decide_eq_false (by omega)]
    · rw [if_pos z.symm]
      exact lex_no w
theorem evens_le (goal : Int) : ∀ n, evens goal n ≤ n
  | 0 => Nat.le_refl _
  | n + 1 => by
    have := evens_le goal n
    unfold evens
    split <;> omega
theorem bK_sm {a : Nat} {R k : Int} (h : Sm a R) (h10 : 10 ≤ a) (h1 : 1 ≤ R) (hk : k ∈ bK R) : Sm (a + 1) k := by
  have p : 2 ^ 10 ≤ 2 ^ a := Nat.pow_le_pow_right (by decide) h10
  have e : 2 ^ (a + 1) = 2 ^ a * 2 := Nat.pow_succ ..
  have b : 2 ≤ k ∧ k ≤ R + 2 := by
    refine ⟨bK_two h1 k hk, ?_⟩
    unfold bK at hk
    split at hk
    · rw [List.mem_singleton.mp hk]
      omega
    · rcases List.mem_cons.mp hk with z | z
      · omega
      · rw [List.mem_singleton.mp z]
        omega
  unfold Sm at *
  omega
theorem bL_sm {goal : Int} {c : Nat} (h1 : 1 ≤ goal) (sg : Sm c goal) (c10 : 10 ≤ c) : ∀ n, ∀ row ∈ bL goal n, ∀ k ∈ row, Sm (c * 2 ^ n + 1) k
  | 0, row, hr, k, hk => by
    rw [List.mem_singleton.mp hr] at hk
    cases hk
  | n + 1, row, hr, k, hk => by
    obtain ⟨j, hj, hr2⟩ := List.mem_flatMap.mp hr
    obtain ⟨t, ht, rfl⟩ := List.mem_map.mp hr2
    have p : c * 2 ^ n ≤ c * 2 ^ (n + 1) := Nat.mul_le_mul_left c (Nat.pow_le_pow_right (by decide) (by omega))
    have p1 : c * 1 ≤ c * 2 ^ n := Nat.mul_le_mul_left c (Nat.pow_le_pow_right (n := 2) (i := 0) (by decide) (Nat.zero_le _))
    rcases List.mem_cons.mp hk with z | z
    · rw [z]
      exact (bK_sm (bN_sm sg c10 h1 n) (by omega) (bN_pos h1 n) hj).mono (by omega)
    · exact (bL_sm h1 sg c10 n t ht k z).mono (by omega)
theorem bL_fit {goal : Int} (h1 : 1 ≤ goal) (sg : Sm 100 goal) {n : Nat} (n8 : n ≤ 8) {row : List Int} (hr : row ∈ bL goal n) : Fit row goal := by
  have l := (bL_ok h1 row hr).1
  have p : 100 * 2 ^ n ≤ 100 * 2 ^ 8 := Nat.mul_le_mul_left 100 (Nat.pow_le_pow_right (by decide) n8)
  exact ⟨30000, 100, fun k hk => (bL_sm h1 sg (by decide) n row hr k hk).mono (by omega), sg, by decide, by decide, by rw [l]; omega⟩
theorem rep_flat (x : Int) : ∀ k : Nat, (List.replicate k [V.int x]).flatten = iv (List.replicate k x)
  | 0 => rfl
  | k + 1 => by
    rw [List.replicate_succ, List.flatten_cons, rep_flat x k, List.replicate_succ]
    rfl
theorem dpall_ofB {K : PySem.W.Frag} {H : Hp} : ∀ (xs : List V) (ds : List PyData), xs.length = ds.length → (∀ (i : Nat) (x : V) (d : PyData), xs[i]? = some x → ds[i]? = some d → Dp K H x d) → DpAll K H xs ds
  | [], [], _, _ => .nil
  | [], _ :: _, h, _ => by cases h
  | _ :: _, [], h, _ => by cases h
  | x :: xs, d :: ds, h, f => .cons (f 0 x d rfl rfl) (dpall_ofB xs ds (by simpa using h) fun i y e h1 h2 => f (i + 1) y e (by simpa using h1) (by simpa using h2))
theorem rows_can : ∀ rows : List (List Int), PyData.canLayAll0 (rows.map dI) = true ∧ PyData.depthAll (rows.map dI) ≤ 1
  | [] => by simp [PyData.canLayAll0, PyData.depthAll]
  | r :: t => by
    obtain ⟨h1, h2⟩ := rows_can t
    simp only [List.map_cons, PyData.canLayAll0, PyData.depthAll]
    rw [h1]
    simp [dI, PyData.canLay0, can_ints, PyData.depth, dep_ints]
    omega
theorem iv_set (ns : List Int) (j : Nat) (v : Int) : (iv ns).set j (.int v) = iv (ns.set j v) := by simp
theorem two_set {ns : List Int} {j : Nat} {v : Int} (h : Two ns) (hv : 2 ≤ v) : Two (ns.set j v) := fun k hk => by
  rcases List.mem_or_eq_of_mem_set hk with z | z
  · exact h k z
  · omega
theorem fit_set {goal : Int} (h1 : 1 ≤ goal) (sg : Sm 100 goal) {n : Nat} (n8 : n ≤ 8) {row : List Int} (hr : row ∈ bL goal n) {j : Nat} {az v : Int} (sa : Sm (100 * 2 ^ n + 1) az) (h2 : 2 ≤ az) (v2 : 2 ≤ v) (va : v ≤ az + 2) : Fit (row.set j v) goal := by
  have l := (bL_ok h1 row hr).1
  have p : 100 * 2 ^ n ≤ 100 * 2 ^ 8 := Nat.mul_le_mul_left 100 (Nat.pow_le_pow_right (by decide) n8)
  refine ⟨30000, 100, fun k hk => ?_, sg, by decide, by decide, by rw [List.length_set, l]; omega⟩
  rcases List.mem_or_eq_of_mem_set hk with z | z
  · exact (bL_sm h1 sg (by decide) n row hr k z).mono (by omega)
  · rw [z]
    have sa3 : Sm 29999 az := sa.mono (by omega)
    exact Sm.le (Sm.add sa3 (Sm.of (b := 29999) (by decide) (by decide))) (by omega) va
/-- a list in a list of lists -/
theorem r_inLL {K : PySem.W.Frag} {G H : Hp} {l x : Addr} {rows : List (List Int)} {ns : List Int} {Q : VK} (h : LL G H l rows) (hx : SqL K H x (iv ns)) (q : Q (.bl (decide (ns ∈ rows))) H) : rInQ K (.ref x) (.ref l) H Q := by
  obtain ⟨ps, a, b, c, d⟩ := h
  refine rInQ_of ⟨dI ns, rows.map dI, dp_iv hx, .lst (seqL_of a) (dpall_ofB _ _ (by simp [b]) fun i y e h1 h2 => ?_), shaped_dI ns, ?_, ?_⟩
  · rw [List.getElem?_map] at h1 h2
    cases e1 : ps[i]? with
    | none => rw [e1] at h1; cases h1
    | some p =>
      cases e2 : rows[i]? with
      | none => rw [e2] at h2; cases h2
      | some r =>
        rw [e1] at h1
        rw [e2] at h2
        cases h1
        cases h2
        exact dp_iv (seqL_of (d i p r e1 e2))
  · obtain ⟨h1, h2⟩ := rows_can rows
    unfold SeqAt.shaped
    simp only [PyData.canLay0, h1, PyData.depth, Bool.true_and]
    exact decide_eq_true (by omega)
  · have e : ((rows.map dI).any fun z => PyData.eqv z (dI ns)) = decide (ns ∈ rows) := by
      rw [List.any_map]
      have e2 : ((fun z => PyData.eqv z (dI ns)) ∘ dI) = fun r => decide (r = ns) := by
        funext r
        exact eqv_dI r ns
      rw [e2]
      rcases Classical.em (ns ∈ rows) with c | c
      · rw [decide_eq_true c]
        exact List.any_eq_true.mpr ⟨ns, c, by simp⟩
      · rw [decide_eq_false c]
        exact List.any_eq_false.mpr fun r hr => by
          simp
          intro z
          rw [z] at hr
          exact c hr
    rw [e]
    exact q
abbrev s_law_lists_right : Stmt := topS 26
theorem sc_law_lists_right : FnScope ["source", "many", "goal", "due", "even", "rows", "row", "saved", "power", "time", "falls", "reaches_here", "at", "more", "told", "spot"] ["source", "many", "goal", "due", "even"] (defScope s_law_lists_right) := ⟨rfl, rfl, rfl, by decide +kernel, rfl, by decide +kernel, by decide +kernel⟩

def spListsR : Sp := fun vs H Q _ => ∃ (r d : Addr) (many goal N : Int) (G : Hp), vs = [.ref r, .int many, .int goal, .int (bN goal many.toNat), .int (evens goal many.toNat : Nat)] ∧ Sep (rgB r d N) G H ∧ Keep ((0 ≤ many ∧ many ≤ 8) ∧ 1 ≤ goal ∧ Sm 100 goal ∧ 0 ≤ N ∧ N < 2 ^ 58) ∧ ∀ H', Sep (rgB r d (N + 30)) G H' → Q (.bl true) H'
theorem cal_listsR (D : DefAt K mg "_law_lists_right" s_law_lists_right ["source", "many", "goal", "due", "even"]) (B : Bt mg) (c_law_draw : Cal P w K mg base 1 "_law_draw" spDraw []) (c_best_lists : CalGn P w K mg base 4 "best_lists" ["steps", "most"] spgBestK)
    (c_reach : Cal P w K mg base 3 "reach" (spReach K) []) (c_law_least_run : Cal P w K mg base 1 "_law_least_run" (spLeast K) []) : Cal P w K mg base 8 "_law_lists_right" spListsR [] := by
  refine D.cal sc_law_lists_right (fun vs H Q E h => ?_) (fun f cdv A outer s H vs Q E hr h => ?_)
  · obtain ⟨r, d, many, goal, N, G, rfl, _⟩ := h
    rfl
  · obtain ⟨r, d, many, goal, N, G, rfl, hS, ⟨⟨m0, m8⟩, g1, sg, n0, nb⟩, q⟩ := h
    refine ⟨_, (pss_cons (ps_set (i := 5) sc_law_lists_right.nd rfl (Or.inr rfl) (pe_lg c_best_lists hr (by first | decide | omega) (by rfl) (pa_cons (pv 1) (pa_cons (pv 2) pa_nil)) (by rfl) B.list (by decide +kernel)))
  (pss_cons (ps_setLc (i := 7) (own := [("row", 6)]) (g := gName 6) (by rfl) sc_law_lists_right.nd rfl rfl (sw_true rfl rfl rfl (by decide +kernel)) (pi_listK (K := K) (pv 5)) (blkOk_by (own := [("row", 6)]) (N := ["source", "many", "goal", "due", "even", "rows", "row", "saved", "power", "time", "falls", "reaches_here", "at", "more", "told", "spot"]) (sc := defScope s_law_lists_right) (by decide +kernel)) (fun _ _ _ _ _ => (pg_name (i := 6) sc_law_lists_right.nd rfl (Or.inl rfl))) (fun _ _ _ _ _ => pts_nil) (fun _ _ _ _ _ => (pe_callTy (list_ofK (K := K)) (by rfl) B.list (by decide +kernel) (pa_cons (pv 6) pa_nil))))
  (pss_cons (ps_set (i := 8) sc_law_lists_right.nd rfl (Or.inl rfl) pe_int)
  (pss_cons (ps_for PassesOwn.never rfl (pi_range1 (by rfl) B.range (pa_cons (pv 4) pa_nil)) (pg_name (i := 9) sc_law_lists_right.nd rfl (Or.inl rfl))
   (pss_one (ps_set (i := 8) sc_law_lists_right.nd rfl (Or.inl rfl) (pe_op op_mulW (pv 8) pe_int))))
  (pss_cons (ps_setLc (i := 10) (own := [("spot", 15)]) (g := gName 15) (by rfl) sc_law_lists_right.nd rfl rfl (sw_true rfl rfl rfl (by decide +kernel)) (pi_range2 (by rfl) B.range (pa_cons pe_int (pa_cons (pe_callB (len_seqK (K := K)) (by rfl) B.len boot_len (pa_cons (pv 5) pa_nil)) pa_nil))) (blkOk_by (own := [("spot", 15)]) (N := ["source", "many", "goal", "due", "even", "rows", "row", "saved", "power", "time", "falls", "reaches_here", "at", "more", "told", "spot"]) (sc := defScope s_law_lists_right) (by decide +kernel)) (fun _ _ _ _ _ => (pg_name (i := 15) sc_law_lists_right.nd rfl (Or.inl rfl))) (fun _ _ _ _ _ => (pts_one (pt_cmpR (op_leL (K := K) ((fun {A : Around} {k : Nat} (r : Room k A) => (by have := r.units; omega : A.units < cLine)) hr)) (pe_ix (ix_listK (K := K)) (pv 5) (pv 15) (fun _ _ => rfl)) (pe_ix (ix_listK (K := K)) (pv 5) (pe_op op_sub (pv 15) pe_int) (fun _ _ => rfl)) (nomark _)))) (fun _ _ _ _ _ => (pv 15)))
  (pss_cons (ps_if (PW.pt (pw_or (pt_cmpR op_ne (pe_callB (len_seqK (K := K)) (by rfl) B.len boot_len (pa_cons (pv 5) pa_nil)) (pv 8) (nomark _)) (pw_or1 (pt_cmpR (op_neDK (K := K) hr.units) (pv 10) (pe_lst pa_nil) (nomark _))))) (pss_one (ps_ret pe_bl)) pss_nil)
  (pss_cons (ps_setLc (i := 11) (own := [("row", 6)]) (g := gName 6) (by rfl) sc_law_lists_right.nd rfl rfl (sw_true rfl rfl rfl (by decide +kernel)) (pi_listK (K := K) (pv 5)) (blkOk_by (own := [("row", 6)]) (N := ["source", "many", "goal", "due", "even", "rows", "row", "saved", "power", "time", "falls", "reaches_here", "at", "more", "told", "spot"]) (sc := defScope s_law_lists_right) (by decide +kernel)) (fun _ _ _ _ _ => (pg_name (i := 6) sc_law_lists_right.nd rfl (Or.inl rfl))) (fun _ _ _ _ _ => pts_nil) (fun _ _ _ _ _ => (pe_op op_sub (pe_c c_law_least_run hr (by first | decide | omega) (by rfl) (pa_cons (pv 6) (pa_cons (pe_op op_add (pv 2) pe_int) pa_nil))) pe_int)))
  (pss_cons (ps_if (PW.pt (pw_or (pt_cmpR (op_neDK (K := K) hr.units) (pv 11) (pe_op op_rep (pe_lst (pa_cons (pv 3) pa_nil)) (pv 8)) (nomark _)) (pw_or1 (pt_cmpR (op_neDK (K := K) hr.units) (pe_lc (own := [("row", 6)]) (g := gName 6) (by rfl) sc_law_lists_right.nd (pi_listK (K := K) (pv 5)) (blkOk_by (own := [("row", 6)]) (N := ["source", "many", "goal", "due", "even", "rows", "row", "saved", "power", "time", "falls", "reaches_here", "at", "more", "told", "spot"]) (sc := defScope s_law_lists_right) (by decide +kernel)) (fun _ _ _ _ _ => (pg_name (i := 6) sc_law_lists_right.nd rfl (Or.inl rfl))) (fun _ _ _ _ _ => (pts_one (pt_cmpR op_ne (pe_callB (len_seqK (K := K)) (by rfl) B.len boot_len (pa_cons (pv 6) pa_nil)) (pv 1) (nomark _)))) (fun _ _ _ _ _ => (pv 6))) (pe_lst pa_nil) (nomark _))))) (pss_one (ps_ret pe_bl)) pss_nil)
  (pss_cons (ps_for PassesOwn.never rfl (pi_range1 (by rfl) B.range (pa_cons (pe_op op_mulW pe_int (pe_callTy call_int1 (by rfl) B.int (by decide +kernel) (pa_cons (pe_cmpR op_gt (pv 1) pe_int (nomark _)) pa_nil))) pa_nil)) (pg_name (i := 9) sc_law_lists_right.nd rfl (Or.inl rfl))
   (pss_cons (ps_set (i := 6) sc_law_lists_right.nd rfl (Or.inl rfl) (pe_callTy (list_ofK (K := K)) (by rfl) B.list (by decide +kernel) (pa_cons (pe_ix (ix_listK (K := K)) (pv 5) (pe_c c_law_draw hr (by first | decide | omega) (by rfl) (pa_cons (pv 0) (pa_cons (pv 8) pa_nil))) (fun _ _ => rfl)) pa_nil)))
  (pss_cons (ps_set (i := 12) sc_law_lists_right.nd rfl (Or.inl rfl) (pe_c c_law_draw hr (by first | decide | omega) (by rfl) (pa_cons (pv 0) (pa_cons (pv 1) pa_nil))))
  (pss_cons (ps_set (i := 13) sc_law_lists_right.nd rfl (Or.inl rfl) (pe_ix (ix_listK (K := K)) (pe_lst (pa_cons (pe_un un_neg pe_int) (pa_cons (pe_un un_neg pe_int) (pa_cons pe_int (pa_cons pe_int pa_nil))))) (pe_c c_law_draw hr (by first | decide | omega) (by rfl) (pa_cons (pv 0) (pa_cons pe_int pa_nil))) (fun _ _ => rfl)))
  (pss_cons (ps_asg (pe_callB (call_max2 rfl) (by rfl) B.max (by decide +kernel) (pa_cons pe_int (pa_cons (pe_op op_add (pe_ix (ix_listK (K := K)) (pv 6) (pv 12) (fun _ _ => rfl)) (pv 13)) pa_nil))) (pg_sub (pv 6) (pv 12) set_list))
  (pss_cons (ps_set (i := 14) sc_law_lists_right.nd rfl (Or.inl rfl) (pe_op op_sub (pe_c c_law_least_run hr (by first | decide | omega) (by rfl) (pa_cons (pv 6) (pa_cons (pe_op op_add (pv 2) pe_int) pa_nil))) pe_int))
  (pss_cons (ps_if (PW.pt (pw_or (pt_cmpR op_ne (pe_cmpR op_eq (pv 14) (pv 3) (nomark _)) (pe_cmpR (op_inDK (K := K) ((fun {A : Around} {k : Nat} (r : Room k A) => (by have := r.un; omega : A.units + 65 < cLine)) hr)) (pv 6) (pv 7) (by rfl)) (nomark _)) (pw_or1 (pt_cmpR op_gt (pv 14) (pv 3) (nomark _))))) (pss_one (ps_ret pe_bl)) pss_nil)
  (pss_cons (ps_if (pt_cmpR op_ne (pe_c c_reach hr (by first | decide | omega) (by rfl) (pa_cons (pe_ix (ix_listK (K := K)) (pv 5) (pe_c c_law_draw hr (by first | decide | omega) (by rfl) (pa_cons (pv 0) (pa_cons (pv 8) pa_nil))) (fun _ _ => rfl)) (pa_cons (pv 2) pa_nil))) (pv 3) (nomark _)) (pss_one (ps_ret pe_bl)) pss_nil)
  (pss_one (ps_if (PW.pt (pw_and (pt_cmpR op_le (pe_callB (cr_maxK (K := K) rfl) (by rfl) B.max (by decide +kernel) (pa_cons (pv 6) pa_nil)) (pe_op op_powW pe_int pe_int) (nomark _)) (pw_and1 (pt_cmpR op_ne (pe_c c_reach hr (by first | decide | omega) (by rfl) (pa_cons (pv 6) (pa_cons (pv 2) pa_nil))) (pv 14) (nomark _))))) (pss_one (ps_ret pe_bl)) pss_nil))))))))))
  (pss_one (ps_ret pe_bl))))))))))), ?_⟩
    walk_at "sq go"
    refine ⟨⟨⟨m0, m8⟩, g1, sg⟩, fun ps H1 s1 ra => ?_⟩
    obtain ⟨n, en⟩ : ∃ n, many.toNat = n := ⟨_, rfl⟩
    rw [en] at ra ⊢
    have n8 : n ≤ 8 := by omega
    have ev8 := evens_le goal n
    have bl := bL_len goal n
    have p256 : 2 ^ evens goal n ≤ 2 ^ 8 := Nat.pow_le_pow_right (by decide) (by omega)
    intro rl nrl
    have LR := LL.of ra nrl
    have s2 := s1.trans (same_new (o := .lst (ps.map V.ref)) nrl)
    obtain ⟨xs, hrl, lxs⟩ := LR.len
    generalize upd H1 rl (.lst (ps.map V.ref)) = H2 at *
    walk_at "sq go"
    intro D1 nD1
    refine lc_list (K := K) (a := rl) (xs := xs) (fun m H3 => Keep (Same H2 H3 ∧ LL H2 H3 D1 ((bL goal n).take m))) ⟨same_new nD1, LL.nil upd_same⟩ (fun m H3 _ h => ?_) (fun m v H3 hv h => ?_) (fun H3 h => ?_)
    · obtain ⟨s3, _⟩ := h.o
      exact seqL_of (s3 _ _ hrl)
    · obtain ⟨s3, LD⟩ := h.o
      obtain ⟨p, ns, er, rfl, hp⟩ := LR.pickB hrl hv
      have hp3 := seqL_of (K := K) (s3 _ _ hp)
      walk_at "sq go"
      intro c1 nc1
      obtain ⟨acc1, hD1, _⟩ := LD.len
      obtain ⟨acc, hD, lacc, LD3⟩ := (LD.same (same_new (o := .lst (iv ns)) nc1)).snoc (p := c1) (ns := ns) upd_same (ne_newB hD1 nc1).symm (s3.free nc1)
      refine ⟨acc, hD, ?_, same_putA (s3.trans (same_new nc1)) nD1, ?_⟩
      · rw [lacc, List.length_take, bl, sizeLine_eq]
        omega
      · rw [List.take_add_one, er]
        exact LD3
    · obtain ⟨s3, LD⟩ := h.o
      rw [lxs, List.take_length] at LD
      have LR3 := LR.same s3
      have hrl3 := s3 _ _ hrl
      walk_at "sq go"
      refine for_range (lo := 0) (n := evens goal n) (fun i σ H' => Keep (∃ x9, σ = [some (.ref r), some (.int many), some (.int goal), some (.int (bN goal n)), some (.int (evens goal n : Nat)), some (.ref rl), none, some (.ref D1), some (.int (2 ^ i)), x9, none, none, none, none, none, none] ∧ H' = H3)) ⟨none, rfl, rfl⟩ (fun i σ H' hi h => ?_) (fun σ H' h => ?_)
      · obtain ⟨x9, rfl, rfl⟩ := h.o
        have p1 : (2 : Int) ^ i < 2 ^ 9 := by
          have := Nat.pow_lt_pow_right (a := 2) (by decide) (show i < 9 by omega)
          exact_mod_cast this
        have p0 : (0 : Int) < 2 ^ i := Int.pow_pos (by decide)
        have wm : CMulW ((2 : Int) ^ i) 2 := Sm.wide (a := 10) (b := 10) (by unfold Sm; omega) (by unfold Sm; omega) (by decide) (by decide) (by decide)
        walk_at "sq go"
        exact ⟨_, by rw [Int.pow_succ]; rfl, rfl⟩
      · obtain ⟨x9, rfl, rfl⟩ := h.o
        have s23 := s2.trans s3
        walk_at "sq go"
        have hxs : (xs.length : Int) = 2 ^ evens goal n := by
          rw [lxs, bl]
          norm_cast
        intro D2 nD2
        refine lc_range (lo := 1) (n := ((xs.length : Int) - 1).toNat) (fun t H4 => Keep (Same H' H4 ∧ H4 D2 = some (.lst []))) ⟨same_new nD2, upd_same⟩ (fun t H4 ht h => ?_) (fun H4 h => ?_)
        · obtain ⟨s4, hD⟩ := h.o
          have hrl4 := seqL_of (K := K) (s4 _ _ hrl3)
          have i1 : xs[1 + t]? = some xs[1 + t] := List.getElem?_eq_getElem (by omega)
          have i0 : xs[t]? = some xs[t] := List.getElem?_eq_getElem (by omega)
          generalize xs[1 + t] = v1 at i1
          generalize xs[t] = v0 at i0
          obtain ⟨p1, r1, er1, rfl, hp1⟩ := LR3.pickB hrl3 i1
          obtain ⟨p0, r0, er0, rfl, hp0⟩ := LR3.pickB hrl3 i0
          have a1 : atI xs (1 + (t : Int)) = some (.ref p1) := by
            have z := atI_nat i1
            rw [show ((1 + t : Nat) : Int) = 1 + (t : Int) by omega] at z
            exact z
          have a0 : atI xs (1 + (t : Int) - 1) = some (.ref p0) := by
            have z := atI_nat i0
            rw [show ((t : Nat) : Int) = 1 + (t : Int) - 1 by omega] at z
            exact z
          have lt : lexLt r0 r1 := by
            obtain ⟨l0, e0⟩ := List.getElem?_eq_some_iff.mp er0
            obtain ⟨l1, e1⟩ := List.getElem?_eq_some_iff.mp er1
            rw [← e0, ← e1]
            exact List.pairwise_iff_getElem.mp (bL_asc goal n) t (1 + t) l0 l1 (by omega)
          have hp1q := seqL_of (K := K) (s4 _ _ hp1)
          have hp0q := seqL_of (K := K) (s4 _ _ hp0)
          walk_at "sq go"
          rw [lex_no lt]
          exact ⟨s4, hD⟩
        · obtain ⟨s4, hD⟩ := h.o
          have hrl4 := s4 _ _ hrl3
          have hrl4q := seqL_of (K := K) hrl4
          have LR4 := LR3.same s4
          walk_at "sq go"
          refine ifIN (fun z => absurd hxs z) (fun _ => ?_)
          walk_at "sq go"
          intro e1 ne1
          refine r_neI (xs := []) (ys := []) ((same_new ne1).seq (seqL_of hD)) (seqL_of upd_same) ?_
          walk_at "sq go"
          have s5 := s4.trans (same_new (o := .lst []) ne1)
          have hrl5 := s5 _ _ hrl3
          have LR5 := LR3.same s5
          generalize upd H4 e1 (.lst []) = H5 at *
          walk_at "sq go"
          intro D3 nD3
          refine lc_list (K := K) (a := rl) (xs := xs) (fun m H6 => Keep (Same H5 H6 ∧ H6 D3 = some (.lst (iv (List.replicate m (bN goal n)))))) ⟨same_new nD3, upd_same⟩ (fun m H6 _ h => ?_) (fun m v H6 hv h => ?_) (fun H6 h => ?_)
          · obtain ⟨s6, _⟩ := h.o
            exact seqL_of (s6 _ _ hrl5)
          · obtain ⟨s6, hD6⟩ := h.o
            have lm := (List.getElem?_eq_some_iff.mp hv).1
            obtain ⟨p, ns, er, rfl, hp⟩ := LR5.pickB hrl5 hv
            have mr := List.mem_of_getElem? er
            obtain ⟨ln, two⟩ := bL_ok g1 ns mr
            have rch := (mem_bL g1 ln two).2.mpr mr
            have hp6 := seqL_of (K := K) (s6 _ _ hp)
            have lz : (iv (List.replicate m (bN goal n))).length < sizeLine := by
              rw [iv_len, List.length_replicate, sizeLine_eq]
              omega
            walk_at "sq go"
            refine ⟨⟨two, g1, bL_fit g1 sg n8 mr⟩, fun H7 s7 => ?_⟩
            have hD7 := s7 _ _ hD6
            walk_at "sq go"
            refine ⟨same_putA (s6.trans s7) nD3, ?_⟩
            rw [upd_same, iv_app, rch]
            show some (HO.lst (iv (_ ++ [bN goal n + 1 - 1]))) = _
            rw [show bN goal n + 1 - 1 = bN goal n by omega, ← List.replicate_succ']
          · obtain ⟨s6, hD6⟩ := h.o
            walk_at "sq go"
            intro e2 ne2
            have hD6a := upd_keep (o := .lst [.int (bN goal n)]) ne2 hD6
            have he2 : upd H6 e2 (.lst [.int (bN goal n)]) e2 = some (.lst [.int (bN goal n)]) := upd_same
            walk_at "sq go"
            intro e3 ne3
            have hxn : (2 ^ evens goal n : Int).toNat = xs.length := by omega
            rw [rep_flat, hxn]
            refine r_neI (xs := List.replicate xs.length (bN goal n)) (ys := List.replicate xs.length (bN goal n)) (seqL_of (upd_keep ne3 hD6a)) (seqL_of upd_same) ?_
            walk_at "sq go"
            refine ifN (fun z => absurd rfl z) (fun _ => ?_)
            have s7 := s6.trans ((same_new (o := .lst [.int (bN goal n)]) ne2).trans (same_new (o := .lst (iv (List.replicate xs.length (bN goal n)))) ne3))
            have hrl7 := s7 _ _ hrl5
            have LR7 := LR5.same s7
            generalize upd (upd H6 e2 (.lst [.int (bN goal n)])) e3 (.lst (iv (List.replicate xs.length (bN goal n)))) = H7 at *
            walk_at "sq go"
            intro D4 nD4
            refine lc_list (K := K) (a := rl) (xs := xs) (fun m H8 => Keep (Same H7 H8 ∧ H8 D4 = some (.lst []))) ⟨same_new nD4, upd_same⟩ (fun m H8 _ h => ?_) (fun m v H8 hv h => ?_) (fun H8 h => ?_)
            · obtain ⟨s8, _⟩ := h.o
              exact seqL_of (s8 _ _ hrl7)
            · obtain ⟨s8, hD8⟩ := h.o
              obtain ⟨p, ns, er, rfl, hp⟩ := LR7.pickB hrl7 hv
              obtain ⟨ln, two⟩ := bL_ok g1 ns (List.mem_of_getElem? er)
              have hp8 := seqL_of (K := K) (s8 _ _ hp)
              have lni : ((iv ns).length : Int) = many := by
                rw [iv_len, ln]
                omega
              walk_at "sq go"
              refine ifIN (fun z => absurd lni z) (fun _ => ?_)
              exact ⟨s8, hD8⟩
            · obtain ⟨s8, hD8⟩ := h.o
              walk_at "sq go"
              intro e4 ne4
              refine r_neI (xs := []) (ys := []) ((same_new ne4).seq (seqL_of hD8)) (seqL_of upd_same) ?_
              walk_at "sq go"
              have s9 := s8.trans (same_new (o := .lst []) ne4)
              have hrl9 := s9 _ _ hrl7
              have LR9 := LR7.same s9
              have LD9 := LD.same (s5.trans (s7.trans s9))
              have hSx := hS.on (s23.trans (s5.trans (s7.trans s9)))
              obtain ⟨Gx, gsx, hSG, eGx⟩ := hSx.full
              generalize upd H8 e4 (.lst []) = H9 at *
              walk_at "sq go"
              refine .inr ⟨_, rfl, ?_⟩
              have b1 : (if decide (0 < many) = true then (1 : Int) else 0) = 1 ∨ (if decide (0 < many) = true then (1 : Int) else 0) = 0 := by
                split
                · exact .inl rfl
                · exact .inr rfl
              have pos1 : 0 < (6 * (if decide (0 < many) = true then (1 : Int) else 0)).toNat → 0 < many := fun h => by
                by_cases c : 0 < many
                · exact c
                · simp [c] at h
              generalize (if decide (0 < many) = true then (1 : Int) else 0) = u at b1 pos1
              have wm : CMulW 6 u := Sm.wide (a := 10) (b := 10) (by unfold Sm; decide) (by unfold Sm; omega) (by decide) (by decide) (by decide)
              have LG : LL G Gx rl (bL goal n) := LR9.move (s1.free nrl) hS eGx
              have LS : LL G Gx D1 (bL goal n) := LD9.move nD1 (hS.on s2) eGx
              obtain ⟨zs, hrlG, lzs⟩ := LG.len
              rw [bl] at lzs
              have lz2 : (zs.length : Int) = 2 ^ evens goal n := by
                rw [lzs]
                norm_cast
              have z256 : zs.length ≤ 256 := by omega
              have pe0 : (0 : Int) < 2 ^ evens goal n := Int.pow_pos (by decide)
              walk_at "sq go"
              refine for_range (lo := 0) (n := (6 * u).toNat) (fun i σ H' => Keep (∃ x6 x9 x12 x13 x14, σ = [some (.ref r), some (.int many), some (.int goal), some (.int (bN goal n)), some (.int (evens goal n : Nat)), some (.ref rl), x6, some (.ref D1), some (.int (2 ^ evens goal n)), x9, some (.ref D2), some (.ref D3), x12, x13, x14, none] ∧ Sep (rgB r d (N + 4 * i)) Gx H' ∧ i ≤ 6)) ⟨_, _, _, _, _, rfl, SepB.mono hSG (by omega), by omega⟩ (fun i σ H' hi h => ?_) (fun σ H' h => ?_)
              · obtain ⟨x6, x9, x12, x13, x14, rfl, hs, i6⟩ := h.o
                have i7 : i + 1 ≤ 6 := by omega
                have mp := pos1 (by omega)
                walk_at "sq go"
                refine ⟨⟨by omega, by omega, by omega⟩, fun y J1 y0 y1 hs1 => ?_⟩
                obtain ⟨yn, rfl⟩ := Int.eq_ofNat_of_zero_le y0
                have hrl1 := seqL_of (K := K) (hs1.get hrlG)
                have ey : zs[yn]? = some zs[yn] := List.getElem?_eq_getElem (by omega)
                generalize zs[yn] = vy at ey
                obtain ⟨pa, as, ea, rfl, hpa⟩ := LG.pickB hrlG ey
                have aty := atI_nat ey
                have hpa1 := seqL_of (K := K) (hs1.get hpa)
                walk_at "sq go"
                intro cw ncw
                have hs2 := hs1.new ncw (.lst (iv as))
                have gcw := hs1.free ncw
                have ncs := ne_newB hpa gcw
                obtain ⟨aln, atwo⟩ := bL_ok g1 as (List.mem_of_getElem? ea)
                have m240 : many < 2 ^ 240 := by omega
                walk_at "sq go"
                refine ⟨⟨by omega, m240, by omega⟩, fun z J2 z0 z1 hs3 => ?_⟩
                obtain ⟨zn, rfl⟩ := Int.eq_ofNat_of_zero_le z0
                walk_at "sq go"
                intro l4 nl4
                have hs4 := hs3.new nl4 (.lst (iv [-2, -1, 1, 2]))
                have gl4 := hs3.free nl4
                have nlc : l4 ≠ cw := fun e => by
                  rw [e, upd_same] at gl4
                  cases gl4
                have kcw : upd (upd Gx cw (.lst (iv as))) l4 (.lst (iv [-2, -1, 1, 2])) cw = some (.lst (iv as)) := upd_off (fun e => nlc e.symm) upd_same
                have kl4 : upd (upd Gx cw (.lst (iv as))) l4 (.lst (iv [-2, -1, 1, 2])) l4 = some (.lst (iv [-2, -1, 1, 2])) := upd_same
                have kx : Same Gx (upd (upd Gx cw (.lst (iv as))) l4 (.lst (iv [-2, -1, 1, 2]))) := (same_new gcw).trans (same_new gl4)
                generalize upd (upd Gx cw (.lst (iv as))) l4 (.lst (iv [-2, -1, 1, 2])) = Gy at *
                walk_at "sq go"
                refine ⟨⟨by omega, by decide, by omega⟩, fun u J3 u0 u1 hs5 => ?_⟩
                obtain ⟨un, rfl⟩ := Int.eq_ofNat_of_zero_le u0
                obtain ⟨mo, emo, mo0, mo1⟩ : ∃ mo : Int, (iv [-2, -1, 1, 2])[un]? = some (.int mo) ∧ -2 ≤ mo ∧ mo ≤ 2 := by
                  have lt : un < 4 := by omega
                  match un, lt with
                  | 0, _ => exact ⟨-2, rfl, by decide, by decide⟩
                  | 1, _ => exact ⟨-1, rfl, by decide, by decide⟩
                  | 2, _ => exact ⟨1, rfl, by decide, by decide⟩
                  | 3, _ => exact ⟨2, rfl, by decide, by decide⟩
                have atu := atI_nat emo
                have hl5 := seqL_of (K := K) (hs5.get kl4)
                have hc5 := hs5.get kcw
                have hc5q := seqL_of (K := K) hc5
                have zlt : zn < as.length := by omega
                have ez : as[zn]? = some as[zn] := List.getElem?_eq_getElem zlt
                have az2 := atwo as[zn] (List.getElem_mem zlt)
                have azs := bL_sm g1 sg (by decide) n as (List.mem_of_getElem? ea) as[zn] (List.getElem_mem zlt)
                generalize as[zn] = az at ez az2 azs
                have ej : ixN (iv as).length (zn : Int) = some zn := by
                  unfold ixN
                  rw [iv_len, if_pos (by omega), if_pos (by omega)]
                  rfl
                have atz : atI (iv as) (zn : Int) = some (.int az) := atI_nat (by rw [List.getElem?_map, ez]; rfl)
                obtain ⟨M, eM⟩ : ∃ M, (if az + mo > 2 then az + mo else 2) = M := ⟨_, rfl⟩
                have M2 : 2 ≤ M := by
                  rw [← eM]
                  split <;> omega
                have Ma : M ≤ az + 2 := by
                  rw [← eM]
                  split <;> omega
                have two2 := two_set (j := zn) atwo M2
                have fit2 := fit_set (j := zn) g1 sg n8 (List.mem_of_getElem? ea) azs az2 M2 Ma
                have ln2 : (as.set zn M).length = n := by rw [List.length_set, aln]
                have hc6 : SqL K (upd J3 cw (.lst ((iv as).set zn (.int (if az + mo > 2 then az + mo else 2))))) cw (iv (as.set zn M)) := by
                  rw [eM, iv_set]
                  exact seqL_of upd_same
                have hs6 := hs5.put kcw (.lst ((iv as).set zn (.int (if az + mo > 2 then az + mo else 2))))
                walk_at "sq go"
                refine ⟨⟨two2, g1, fit2⟩, fun J4 s6 => ?_⟩
                have hs7 := hs6.on s6
                have kx2 : Same Gx (upd Gy cw (.lst ((iv as).set zn (.int (if az + mo > 2 then az + mo else 2))))) := same_putA kx gcw
                have LS7 := LS.same (kx2.trans hs7.same)
                have hc7 : SqL K J4 cw (iv (as.set zn M)) := by
                  have z := hs7.get (upd_same (H := Gy) (a := cw))
                  rw [eM, iv_set] at z
                  exact seqL_of z
                obtain ⟨tle, teq⟩ := mem_bL g1 ln2 two2
                walk_at "sq go"
                refine r_inLL LS7 hc7 ?_
                have eT : decide (V.int (reachOf (as.set zn M) goal + 1 - 1) = V.int (bN goal n)) = decide (as.set zn M ∈ bL goal n) := by
                  rw [show reachOf (as.set zn M) goal + 1 - 1 = reachOf (as.set zn M) goal by omega]
                  exact decide_eq_decide.mpr ⟨fun z => teq.mp (V.int.inj z), fun z => by rw [teq.mpr z]⟩
                walk_at "sq go"
                refine ifN (fun z => ?_) (fun _ => ?_)
                · exact absurd (congrArg V.bl eT) z
                · have tgt : ¬ (reachOf (as.set zn M) goal + 1 - 1 > bN goal n) := by omega
                  have dgt : decide (reachOf (as.set zn M) goal + 1 - 1 > bN goal n) = false := decide_eq_false tgt
                  walk_at "sq go"
                  refine ifD (fun z => absurd z tgt) (fun _ => ?_)
                  have LGz := LG.same kx2
                  have hrlz := kx2 _ _ hrlG
                  have hcz : upd Gy cw (.lst ((iv as).set zn (.int (if az + mo > 2 then az + mo else 2)))) cw = some (.lst (iv (as.set zn M))) := by
                    rw [eM, iv_set]
                    exact upd_same
                  have kx3 := kx2
                  generalize upd Gy cw (.lst ((iv as).set zn (.int (if az + mo > 2 then az + mo else 2)))) = Gz at *
                  walk_at "sq go"
                  refine ⟨⟨by omega, by omega, by omega⟩, fun x J5 x0 x1 hs8 => ?_⟩
                  obtain ⟨xn, rfl⟩ := Int.eq_ofNat_of_zero_le x0
                  have hrl8 := seqL_of (K := K) (hs8.get hrlz)
                  have ex : zs[xn]? = some zs[xn] := List.getElem?_eq_getElem (by omega)
                  generalize zs[xn] = vx at ex
                  obtain ⟨pb, bs, eb, rfl, hpb⟩ := LGz.pickB hrlz ex
                  have atx := atI_nat ex
                  have hpb8 := seqL_of (K := K) (hs8.get hpb)
                  have mrb := List.mem_of_getElem? eb
                  obtain ⟨bln, btwo⟩ := bL_ok g1 bs mrb
                  have rchb := (mem_bL g1 bln btwo).2.mpr mrb
                  walk_at "sq go"
                  refine ⟨⟨btwo, g1, bL_fit g1 sg n8 mrb⟩, fun J6 s8 => ?_⟩
                  have hs9 := hs8.on s8
                  have hc9 := seqL_of (K := K) (hs9.get hcz)
                  walk_at "sq go"
                  refine ifIN (fun z => absurd rchb z) (fun _ => ?_)
                  have wp6 : CPowW 10 6 := pow_ok (b := 10) (Sm.of (by decide) (by decide)) (by decide) (by decide) (by decide) (by decide)
                  walk_at "sq go"
                  intro mx _ _
                  walk_at "sq go"
                  refine ifD (fun _ => ?_) (fun _ => ?_)
                  · walk_at "sq go"
                    refine ⟨⟨two2, g1, fit2⟩, fun J7 s9 => ?_⟩
                    have hsA := hs9.on s9
                    walk_at "sq go"
                    refine ifIN (fun z => absurd (by omega) z) (fun _ => ?_)
                    walk_at "sq go"
                    exact ⟨_, _, _, _, _, rfl, SepB.mono (hsA.weak kx3) (by omega), i7⟩
                  · walk_at "sq go"
                    exact ⟨_, _, _, _, _, rfl, SepB.mono (hs9.weak kx3) (by omega), i7⟩
              · obtain ⟨x6, x9, x12, x13, x14, rfl, hs, i6⟩ := h.o
                walk_at "sq go"
                exact q _ (by rw [en] at *; exact SepB.mono (hs.weak gsx) (by omega))

/-! ### the fewest replacements between two greatest reaches -/
theorem few_at {m x : Int} {a t : Nat} (h : 1 ≤ m) (h1 : bN m a < x) (h2 : x ≤ bN m (a + 1)) (l : ∀ s : Nat, s < t → bN m s < x) (g : x ≤ bN m t) : t = a + 1 := by
  have n1 : ¬ a + 1 < t := fun z => by
    have := l _ z
    omega
  have n2 : ¬ t < a + 1 := fun z => by
    rcases Nat.lt_or_ge t a with y | y
    · have := bN_mono h y
      omega
    · have e : t = a := by omega
      rw [e] at g
      omega
  omega
theorem few_same {m : Int} {a t : Nat} (h : 1 ≤ m) (l : ∀ s : Nat, s < t → bN m s < bN m a) (g : bN m a ≤ bN m t) : t = a := by
  have n1 : ¬ a < t := fun z => by
    have := l _ z
    omega
  have n2 : ¬ t < a := fun z => by
    have := bN_mono h z
    omega
  omega
theorem alike_of {H : Hp} {i j : Int} {n : Nat} (h : i = j) : Alike K H n (.int i) (.int j) := by
  subst h
  exact alike_int
abbrev s_law_steps_right : Stmt := topS 27
theorem sc_law_steps_right : FnScope ["source", "goal", "bests", "time", "at", "run", "one"] ["source", "goal", "bests"] (defScope s_law_steps_right) := ⟨rfl, rfl, rfl, by decide +kernel, rfl, by decide +kernel, by decide +kernel⟩

def spStepsR : Sp := fun vs H Q _ => ∃ (r d p : Addr) (goal N : Int) (n c : Nat) (G : Hp), vs = [.ref r, .int goal, .ref p] ∧ Sep (rgB r d N) G H ∧ G p = some (.lst (iv ((List.range (n + 1)).map (bN goal)))) ∧ Keep (1 ≤ goal ∧ (1 ≤ n ∧ n ≤ 12) ∧ (Sm c goal ∧ 10 ≤ c ∧ c * 2 ^ n ≤ 430000) ∧ 0 ≤ N ∧ N < 2 ^ 58) ∧ ∀ H', Sep (rgB r d (N + 12)) G H' → Q (.bl true) H'
theorem cal_stepsR (D : DefAt K mg "_law_steps_right" s_law_steps_right ["source", "goal", "bests"]) (B : Bt mg) (c_law_draw : Cal P w K mg base 1 "_law_draw" spDraw []) (c_law_same : Cal P w K mg base 3 "_law_same" (spSame K 1) [])
    (c_best_reach : Cal P w K mg base 3 "best_reach" spBestC []) (c_fewest_steps : Cal P w K mg base 3 "fewest_steps" spFewC []) : Cal P w K mg base 8 "_law_steps_right" spStepsR [] := by
  refine D.cal sc_law_steps_right (fun vs H Q E h => ?_) (fun f cdv A outer s H vs Q E hr h => ?_)
  · obtain ⟨r, d, p, goal, N, n, c, G, rfl, _⟩ := h
    rfl
  · obtain ⟨r, d, p, goal, N, n, c, G, rfl, hS, hp, ⟨g1, ⟨n1, n12⟩, ⟨sg, c10, c43⟩, n0, nb⟩, q⟩ := h
    refine ⟨_, (pss_cons (ps_for PassesOwn.never rfl (pi_range1 (by rfl) B.range (pa_cons pe_int pa_nil)) (pg_name (i := 3) sc_law_steps_right.nd rfl (Or.inl rfl))
   (pss_cons (ps_set (i := 4) sc_law_steps_right.nd rfl (Or.inl rfl) (pe_c c_law_draw hr (by first | decide | omega) (by rfl) (pa_cons (pv 0) (pa_cons (pe_op op_sub (pe_callB (len_seqK (K := K)) (by rfl) B.len boot_len (pa_cons (pv 2) pa_nil)) pe_int) pa_nil))))
  (pss_cons (ps_if (pt_cmpR op_lt (pe_ix (ix_listK (K := K)) (pv 2) (pv 4) (fun _ _ => rfl)) (pe_op op_sub (pe_op op_powW pe_int pe_int) pe_int) (nomark _)) (pss_cons (ps_set (i := 5) sc_law_steps_right.nd rfl (Or.inl rfl) (pe_callB (call_min2 rfl) (by rfl) B.min (by decide +kernel) (pa_cons (pe_op op_sub (pe_op op_powW pe_int pe_int) pe_int) (pa_cons (pe_op op_add (pe_op op_add (pe_ix (ix_listK (K := K)) (pv 2) (pv 4) (fun _ _ => rfl)) pe_int) (pe_c c_law_draw hr (by first | decide | omega) (by rfl) (pa_cons (pv 0) (pa_cons (pe_op op_sub (pe_ix (ix_listK (K := K)) (pv 2) (pe_op op_add (pv 4) pe_int) (fun _ _ => rfl)) (pe_ix (ix_listK (K := K)) (pv 2) (pv 4) (fun _ _ => rfl))) pa_nil)))) pa_nil))))
  (pss_cons (ps_for PassesOwn.never rfl (pi_listK (K := K) (pe_lst (pa_cons (pv 5) (pa_cons (pe_op op_add (pe_ix (ix_listK (K := K)) (pv 2) (pv 4) (fun _ _ => rfl)) pe_int) pa_nil)))) (pg_name (i := 6) sc_law_steps_right.nd rfl (Or.inl rfl))
   (pss_one (ps_if (pt_not (pt_val (pe_c c_law_same hr (by first | decide | omega) (by rfl) (pa_cons (pe_c c_fewest_steps hr (by first | decide | omega) (by rfl) (pa_cons (pv 6) (pa_cons (pv 1) pa_nil))) (pa_cons (pe_op op_add (pv 4) pe_int) pa_nil))))) (pss_one (ps_ret pe_bl)) pss_nil)))
  (pss_one (ps_if (pt_cmpR op_ne (pe_c c_fewest_steps hr (by first | decide | omega) (by rfl) (pa_cons (pe_ix (ix_listK (K := K)) (pv 2) (pv 4) (fun _ _ => rfl)) (pa_cons (pv 1) pa_nil))) (pv 4) (nomark _)) (pss_one (ps_ret pe_bl)) pss_nil)))) pss_nil)
  (pss_one (ps_if (pt_cmpR op_ne (pe_c c_fewest_steps hr (by first | decide | omega) (by rfl) (pa_cons (pe_c c_best_reach hr (by first | decide | omega) (by rfl) (pa_cons (pv 4) (pa_cons (pv 1) pa_nil))) (pa_cons (pv 1) pa_nil))) (pv 4) (nomark _)) (pss_one (ps_ret pe_bl)) pss_nil)))))
  (pss_one (ps_ret pe_bl))), ?_⟩
    walk_at "sq go"
    have lbs : (iv ((List.range (n + 1)).map (bN goal))).length = n + 1 := by simp
    refine for_range (lo := 0) (n := 6) (fun i σ H' => Keep (∃ y t a u, σ = [some (.ref r), some (.int goal), some (.ref p), y, t, a, u] ∧ Sep (rgB r d (N + 2 * i)) G H' ∧ i ≤ 6)) ⟨_, _, _, _, rfl, SepB.mono hS (by omega), by omega⟩ (fun i σ H' hi h => ?_) (fun σ H' h => ?_)
    · obtain ⟨y, t, a, u, rfl, hs, i6⟩ := h.o
      have i7 : i + 1 ≤ 6 := by omega
      have hp1 := seqL_of (K := K) (hs.get hp)
      walk_at "sq go"
      rw [lbs]
      refine ⟨⟨by omega, by omega, by omega⟩, fun x J1 x0 x1 hs1 => ?_⟩
      obtain ⟨xn, rfl⟩ := Int.eq_ofNat_of_zero_le x0
      have at_ : ∀ j : Nat, j ≤ n → (iv ((List.range (n + 1)).map (bN goal)))[j]? = some (.int (bN goal j)) := fun j hj => by
        rw [List.getElem?_map, List.getElem?_map, List.getElem?_range (by omega)]
        rfl
      have a0 := atI_nat (at_ xn (by omega))
      have a1 : atI (iv ((List.range (n + 1)).map (bN goal))) ((xn : Int) + 1) = some (.int (bN goal (xn + 1))) := atI_nat (j := xn + 1) (at_ (xn + 1) (by omega))
      have hp2 := seqL_of (K := K) (hs1.get hp)
      have up := bN_up g1 xn
      have pos := bN_pos g1 xn
      walk_at "sq go"
      have pwn : c * 2 ^ xn ≤ c * 2 ^ n := Nat.mul_le_mul_left c (Nat.pow_le_pow_right (by decide) (by omega))
      have pw1 : c * 1 ≤ c * 2 ^ xn := Nat.mul_le_mul_left c (Nat.pow_le_pow_right (n := 2) (i := 0) (by decide) (Nat.zero_le _))
      have pw10 : 10 ≤ c * 2 ^ xn := by omega
      have pw43 : c * 2 ^ xn ≤ 440000 := by omega
      have pwc : c * 2 ^ ((xn : Int)).toNat ≤ 450000 := by
        rw [Int.toNat_natCast]
        omega
      refine ifD (fun z => ?_) (fun _ => ?_)
      · have zR : bN goal xn < 10 ^ 30 - 1 := z
        have sR : Sm 100 (bN goal xn) := by
          unfold Sm
          omega
        have sU : Sm 200 (bN goal (xn + 1)) := bR_sm sR (by decide) pos
        have dU : bN goal (xn + 1) - bN goal xn < 2 ^ 240 := by
          unfold Sm at sU
          omega
        walk_at "sq go"
        refine ⟨⟨by omega, dU, by omega⟩, fun y2 J2 y0 y1 hs2 => ?_⟩
        walk_at "sq go"
        generalize er : (if bN goal xn + 1 + y2 < (10 : Int) ^ Int.toNat 30 - 1 then bN goal xn + 1 + y2 else (10 : Int) ^ Int.toNat 30 - 1) = run
        have r1 : bN goal xn < run ∧ run ≤ bN goal (xn + 1) ∧ run < 10 ^ 30 := by
          rw [← er]
          show _ < (if bN goal xn + 1 + y2 < (10 : Int) ^ 30 - 1 then bN goal xn + 1 + y2 else (10 : Int) ^ 30 - 1) ∧ (if bN goal xn + 1 + y2 < (10 : Int) ^ 30 - 1 then bN goal xn + 1 + y2 else (10 : Int) ^ 30 - 1) ≤ _ ∧ (if bN goal xn + 1 + y2 < (10 : Int) ^ 30 - 1 then bN goal xn + 1 + y2 else (10 : Int) ^ 30 - 1) < _
          split <;> omega
        intro e1 ne1
        have s2 := same_new (o := .lst [V.int run, V.int (bN goal xn + 1)]) ne1
        have hs3 := hs2.on s2
        have he1 : upd J2 e1 (HO.lst [V.int run, V.int (bN goal xn + 1)]) e1 = some (.lst [V.int run, V.int (bN goal xn + 1)]) := upd_same
        generalize upd J2 e1 (HO.lst [V.int run, V.int (bN goal xn + 1)]) = J3 at *
        walk_at "sq go"
        refine for_list (K := K) (a := e1) (xs := [V.int run, V.int (bN goal xn + 1)]) (fun i σ H' => Keep (∃ y u, σ = [some (.ref r), some (.int goal), some (.ref p), y, some (.int (xn : Int)), some (.int run), u] ∧ Same J3 H')) ⟨_, _, rfl, .refl _⟩ (fun i σ H' _ h => ?_) (fun i x σ H' hx h => ?_) (fun σ H' h => ?_)
        · obtain ⟨y, u, rfl, s4⟩ := h.o
          exact seqL_of (s4 _ _ he1)
        · obtain ⟨y, u, rfl, s4⟩ := h.o
          obtain ⟨one, rfl, o1⟩ : ∃ one : Int, x = .int one ∧ bN goal xn < one ∧ one ≤ bN goal (xn + 1) ∧ one < 10 ^ 30 := by
            match i, hx with
            | 0, hx => exact ⟨run, (Option.some.inj hx).symm, r1⟩
            | 1, hx => exact ⟨bN goal xn + 1, (Option.some.inj hx).symm, by omega, by omega, by omega⟩
          have so : Sm 100 one := by
            unfold Sm
            omega
          walk_at "sq go"
          refine ⟨⟨by omega, g1, so, by omega, by omega⟩, fun tt H4 tl tg s5 => ?_⟩
          have te : (tt : Int) = (xn : Int) + 1 := by
            rw [few_at g1 o1.1 o1.2.1 tl tg]
            rfl
          walk_at "sq go"
          refine ⟨⟨alike_of te⟩, fun H5 s6 => ?_⟩
          walk_at "sq go"
          exact ⟨_, _, rfl, s4.trans (s5.trans s6)⟩
        · obtain ⟨y, u, rfl, s4⟩ := h.o
          have hs4 := hs3.on s4
          have hp4 := seqL_of (K := K) (hs4.get hp)
          walk_at "sq go"
          refine ⟨⟨by omega, g1, sR, by omega, by omega⟩, fun tt H4 tl tg s5 => ?_⟩
          have te : tt = xn := few_same g1 tl tg
          subst te
          walk_at "sq go"
          refine ifIN (fun z => absurd rfl z) (fun _ => ?_)
          walk_at "sq go"
          refine ⟨⟨⟨by omega, by omega⟩, g1, sg, c10, pwc⟩, fun H5 s6 => ?_⟩
          rw [Int.toNat_natCast]
          walk_at "sq go"
          refine ⟨⟨by omega, g1, bN_sm sg c10 g1 tt, pw10, pw43⟩, fun t2 H6 tl tg s7 => ?_⟩
          have te := few_same g1 tl tg
          subst te
          walk_at "sq go"
          refine ifIN (fun z => absurd rfl z) (fun _ => ?_)
          walk_at "sq go"
          exact ⟨_, _, _, _, rfl, SepB.mono (hs4.on (s5.trans (s6.trans s7))) (by omega), i7⟩
      · walk_at "sq go"
        refine ⟨⟨⟨by omega, by omega⟩, g1, sg, c10, pwc⟩, fun H5 s6 => ?_⟩
        rw [Int.toNat_natCast]
        walk_at "sq go"
        refine ⟨⟨by omega, g1, bN_sm sg c10 g1 xn, pw10, pw43⟩, fun t2 H6 tl tg s7 => ?_⟩
        have te := few_same g1 tl tg
        subst te
        walk_at "sq go"
        refine ifIN (fun z => absurd rfl z) (fun _ => ?_)
        walk_at "sq go"
        exact ⟨_, _, _, _, rfl, SepB.mono (hs1.on (s6.trans s7)) (by omega), i7⟩
    · obtain ⟨y, t, a, u, rfl, hs, i6⟩ := h.o
      walk_at "sq go"
      exact q _ (SepB.mono hs (by omega))

/-! ### the law -/
theorem evens_is (goal : Int) : ∀ n : Nat, (((List.range n).map (bN goal)).filter fun o => decide (o % 2 = 0)).length = evens goal n
  | 0 => rfl
  | n + 1 => by
    have ih := evens_is goal n
    rw [List.range_succ, List.map_append, List.filter_append, List.length_append, ih]
    show evens goal n + ([bN goal n].filter fun o => decide (o % 2 = 0)).length = evens goal n + if bN goal n % 2 = 0 then 1 else 0
    by_cases h : bN goal n % 2 = 0
    · rw [if_pos h]
      simp [h]
    · rw [if_neg h]
      simp [h]
theorem if_tC {c : Prop} [Decidable c] {a b : V} {σ : L2.St} {H : Hp} {Q : VK} (h : ∀ v, (c ∧ v = a) ∨ (¬ c ∧ v = b) → Q v H) : if decide c = true then tC a σ H Q else tC b σ H Q := by
  by_cases z : c
  · rw [if_pos (decide_eq_true z)]
    exact h a (.inl ⟨z, rfl⟩)
  · rw [if_neg (by rw [decide_eq_false z]; exact Bool.false_ne_true)]
    exact h b (.inr ⟨z, rfl⟩)
theorem bs_snoc (g : Int) (k : Nat) : iv ((List.range (k + 1)).map (bN g)) = iv ((List.range k).map (bN g)) ++ [.int (bN g k)] := by
  rw [List.range_succ, List.map_append]
  exact (iv_app _ _).symm
theorem bs_last (g : Int) (k : Nat) : atI (iv ((List.range (k + 1)).map (bN g))) (-1) = some (.int (bN g k)) := by
  rw [bs_snoc]
  exact atI_last _ _
theorem bs_get (g : Int) {k t : Nat} (h : t < k) : (iv ((List.range k).map (bN g)))[t]? = some (.int (bN g t)) := by
  rw [List.getElem?_map, List.getElem?_map, List.getElem?_range h]
  rfl
theorem bs_last2 (g : Int) (k : Nat) : atI (iv ((List.range (k + 1 + 1)).map (bN g))) (-2) = some (.int (bN g k)) := by
  have ln : (iv ((List.range (k + 1 + 1)).map (bN g))).length = k + 1 + 1 := by simp
  unfold atI ixN
  rw [ln, if_neg (by omega), if_pos (by omega)]
  show (iv ((List.range (k + 1 + 1)).map (bN g)))[_]? = _
  rw [show (-2 + ((k + 1 + 1 : Nat) : Int)).toNat = k by omega]
  exact bs_get g (by omega)
theorem filter_snoc (g : Int) (m : Nat) : ((List.range (m + 1)).map (bN g)).filter (fun o => decide (o % 2 = 0)) = ((List.range m).map (bN g)).filter (fun o => decide (o % 2 = 0)) ++ if bN g m % 2 = 0 then [bN g m] else [] := by
  rw [List.range_succ, List.map_append, List.filter_append]
  congr 1
  by_cases h : bN g m % 2 = 0
  · rw [if_pos h]
    simp [h]
  · rw [if_neg h]
    simp [h]
abbrev s_law : Stmt := topS 28
theorem sc_law : FnScope ["script", "source", "k", "goal", "many", "bests", "step", "even", "steps_here", "one"] ["script"] (defScope s_law) := ⟨rfl, rfl, rfl, by decide +kernel, rfl, by decide +kernel, by decide +kernel⟩

def spLaw (K : PySem.W.Frag) : Sp := fun vs H Q _ => ∃ (a : Addr) (ns : List Int), vs = [.ref a] ∧ SqL K H a (iv ns) ∧ ns.length ≤ 63 ∧ ∀ H', Q (.bl true) H'
theorem ok_law {f : Addr} {fd : FuncData} (F : Fun K "law" "law" s_law f fd) (B : Bt mg) (c_law_source : Cal P w K mg base 1 "_law_source" (spSource K) []) (c_law_draw : Cal P w K mg base 1 "_law_draw" spDraw [])
    (c_law_most_of : Cal P w K mg base 2 "_law_most_of" spMostOf []) (c_law_same : Cal P w K mg base 3 "_law_same" (spSame K 1) []) (c_best_reach : Cal P w K mg base 3 "best_reach" spBestC []) (c_best_reach1 : Cal P w K mg base 3 "best_reach" spBestC [.int 1])
    (c_law_lists_right : Cal P w K mg base 8 "_law_lists_right" spListsR []) (c_law_steps_right : Cal P w K mg base 8 "_law_steps_right" spStepsR []) : FnG P w K mg base CX0 9 f fd ["script"] (spLaw K) := by
  refine okG F sc_law (fun vs H Q E h => ?_) (fun cdv A outer s H vs Q E hG hr h => ?_)
  · obtain ⟨a, ns, rfl, _⟩ := h
    rfl
  · obtain ⟨p0, ns0, rfl, hP, hl, q⟩ := h
    refine ⟨_, (pss_cons (ps_set (i := 1) sc_law.nd rfl (Or.inl rfl) (pe_c c_law_source hr (by first | decide | omega) (by rfl) (pa_cons (pv 0) pa_nil)))
  (pss_cons (ps_for PassesOwn.never rfl (pi_range1 (by rfl) B.range (pa_cons (pe_op op_add pe_int (pe_callB (call_min2 rfl) (by rfl) B.min (by decide +kernel) (pa_cons pe_int (pa_cons (pe_callB (len_seqK (K := K)) (by rfl) B.len boot_len (pa_cons (pv 0) pa_nil)) pa_nil)))) pa_nil)) (pg_name (i := 2) sc_law.nd rfl (Or.inl rfl))
   (pss_cons (ps_set (i := 3) sc_law.nd rfl (Or.inl rfl) (pe_op op_add pe_int (pe_c c_law_draw hr (by first | decide | omega) (by rfl) (pa_cons (pv 1) (pa_cons (pe_ix (ix_listK (K := K)) (pe_lst (pa_cons pe_int (pa_cons pe_int (pa_cons (pe_op op_sub (pe_op op_powW pe_int pe_int) pe_int) pa_nil)))) (pe_c c_law_draw hr (by first | decide | omega) (by rfl) (pa_cons (pv 1) (pa_cons pe_int pa_nil))) (fun _ _ => rfl)) pa_nil)))))
  (pss_cons (ps_par (i := 4) (j := 5) rfl sc_law.nd rfl rfl (by decide) rfl rfl (pa_cons (pe_c c_law_draw hr (by first | decide | omega) (by rfl) (pa_cons (pv 1) (pa_cons pe_int pa_nil))) (pa_cons (pe_lst (pa_cons (pv 3) pa_nil)) pa_nil)) (by rfl))
  (pss_cons (ps_for PassesOwn.never rfl (pi_range1 (by rfl) B.range (pa_cons (pe_ifExp (pt_cmpR op_lt (pv 3) pe_int (nomark _)) pe_int pe_int) pa_nil)) (pg_name (i := 6) sc_law.nd rfl (Or.inl rfl))
   (pss_cons (ps_expr (pe_bm PySem.F.plainAttrs_list PySem.F.slot_list_append PySem.F.type_list_append mt_append (pv 5) (pa_cons (pe_c c_law_most_of hr (by first | decide | omega) (by rfl) (pa_cons (pe_ix (ix_listK (K := K)) (pv 5) (pe_un un_neg pe_int) (fun _ _ => rfl)) pa_nil)) pa_nil)))
  (pss_one (ps_if (PW.pt (pw_or (pt_not (pt_val (pe_c c_law_same hr (by first | decide | omega) (by rfl) (pa_cons (pe_c c_best_reach hr (by first | decide | omega) (by rfl) (pa_cons (pe_op op_add (pv 6) pe_int) (pa_cons (pv 3) pa_nil))) (pa_cons (pe_ix (ix_listK (K := K)) (pv 5) (pe_un un_neg pe_int) (fun _ _ => rfl)) pa_nil))))) (pw_or1 (pt_cmpR op_le (pe_ix (ix_listK (K := K)) (pv 5) (pe_un un_neg pe_int) (fun _ _ => rfl)) (pe_ix (ix_listK (K := K)) (pv 5) (pe_un un_neg pe_int) (fun _ _ => rfl)) (nomark _))))) (pss_one (ps_ret pe_bl)) pss_nil))))
  (pss_cons (ps_set (i := 7) sc_law.nd rfl (Or.inl rfl) (pe_callB (len_seqK (K := K)) (by rfl) B.len boot_len (pa_cons (pe_lc (own := [("one", 9)]) (g := gName 9) (by rfl) sc_law.nd (pi_listK (K := K) (pe_slice (sl_listK (K := K)) (pv 5) po_none (po_some (pv 4)))) (blkOk_by (own := [("one", 9)]) (N := ["script", "source", "k", "goal", "many", "bests", "step", "even", "steps_here", "one"]) (sc := defScope s_law) (by decide +kernel)) (fun _ _ _ _ _ => (pg_name (i := 9) sc_law.nd rfl (Or.inl rfl))) (fun _ _ _ _ _ => (pts_one (pt_cmpR op_eq (pe_op op_mod (pv 9) pe_int) pe_int (nomark _)))) (fun _ _ _ _ _ => (pv 9))) pa_nil)))
  (pss_one (ps_if (PW.pt (pw_or (pt_not (pt_val (pe_c c_law_lists_right hr (by first | decide | omega) (by rfl) (pa_cons (pv 1) (pa_cons (pv 4) (pa_cons (pv 3) (pa_cons (pe_ix (ix_listK (K := K)) (pv 5) (pv 4) (fun _ _ => rfl)) (pa_cons (pv 7) pa_nil)))))))) (pw_or1 (pt_not (pt_val (pe_c c_law_steps_right hr (by first | decide | omega) (by rfl) (pa_cons (pv 1) (pa_cons (pv 3) (pa_cons (pv 5) pa_nil))))))))) (pss_one (ps_ret pe_bl)) pss_nil)))))))
  (pss_one (ps_ret (pe_cmpR (op_eqDK (K := K) hr.units) (pe_lc (own := [("steps_here", 8)]) (g := gName 8) (by rfl) sc_law.nd (pi_range1 (by rfl) B.range (pa_cons pe_int pa_nil)) (blkOk_by (own := [("steps_here", 8)]) (N := ["script", "source", "k", "goal", "many", "bests", "step", "even", "steps_here", "one"]) (sc := defScope s_law) (by decide +kernel)) (fun _ _ _ _ _ => (pg_name (i := 8) sc_law.nd rfl (Or.inl rfl))) (fun _ _ _ _ _ => pts_nil) (fun _ _ _ _ _ => (pe_c c_best_reach1 hr (by first | decide | omega) (by rfl) (pa_cons (pv 8) pa_nil)))) (pe_lst (pa_cons pe_int (pa_cons pe_int (pa_cons pe_int (pa_cons pe_int (pa_cons pe_int (pa_cons pe_int (pa_cons pe_int pa_nil)))))))) (nomark _)))))), ?_⟩
    walk_at "sq go"
    intro r d H1 s1 hS1
    have hP1 := s1.seq hP
    walk_at "sq go"
    refine for_range (lo := 0) (n := _) (fun i σ H' => Keep (∃ a2 a3 a4 a5 a6 a7 a8 a9, σ = [some (.ref p0), some (.ref r), a2, a3, a4, a5, a6, a7, a8, a9] ∧ Sep (rgB r d (100 * i)) H H' ∧ i ≤ 11)) ⟨_, _, _, _, _, _, _, _, rfl, SepB.mono hS1 (by omega), by omega⟩ (fun i σ H' hi h => ?_) (fun σ H' h => ?_)
    · obtain ⟨a2, a3, a4, a5, a6, a7, a8, a9, rfl, hs, hi11⟩ := h.o
      have hi12 : i + 1 ≤ 11 := by
        (repeat' split at hi) <;> omega
      walk_at "sq go"
      intro e1 ne1
      have ge1 := hs.free ne1
      have hs1 := hs.new ne1 (.lst [.int 4, .int 60, .int (10 ^ (30 : Int).toNat - 1)])
      walk_at "sq go"
      refine ⟨⟨by decide, by decide, by omega⟩, fun y H2 y0 y1 hs2 => ?_⟩
      have he1 : H2 e1 = some (.lst [.int 4, .int 60, .int (10 ^ (30 : Int).toNat - 1)]) := hs2.get upd_same
      obtain ⟨wide, eg, g2, g6⟩ : ∃ v, atI [V.int 4, .int 60, .int (10 ^ (30 : Int).toNat - 1)] y = some (.int v) ∧ 1 ≤ v ∧ v ≤ 10 ^ 30 := by
        rcases (show y = 0 ∨ y = 1 ∨ y = 2 by omega) with z | z | z <;> rw [z]
        · exact ⟨_, atI_nat (j := 0) rfl, by decide, by decide⟩
        · exact ⟨_, atI_nat (j := 1) rfl, by decide, by decide⟩
        · exact ⟨_, atI_nat (j := 2) rfl, by decide, by decide⟩
      have hs3 := hs2.weak (same_new (o := .lst [.int 4, .int 60, .int (10 ^ (30 : Int).toNat - 1)]) ge1)
      walk_at "sq go"
      refine ⟨⟨by omega, by omega, by omega⟩, fun g0 H3 g00 g01 hs4 => ?_⟩
      have g1 : 1 ≤ 1 + g0 := by omega
      have gW : 1 + g0 ≤ 10 ^ 30 := by omega
      walk_at "sq go"
      refine ⟨⟨by decide, by decide, by omega⟩, fun many H4 m0 m1 hs5 => ?_⟩
      walk_at "sq go"
      intro pb npb
      have gpb := hs5.free npb
      have hs6 := hs5.new npb (.lst [.int (1 + g0)])
      walk_at "sq go"
      refine if_tC fun v hv => ?_
      obtain ⟨n, c, rfl, nb, sg, c10, cb⟩ : ∃ n c : Nat, v = .int (n : Int) ∧ (9 ≤ n ∧ n ≤ 12) ∧ Sm c (1 + g0) ∧ 10 ≤ c ∧ c * 2 ^ n ≤ 60000 := by
        rcases hv with ⟨z, rfl⟩ | ⟨z, rfl⟩
        · exact ⟨12, 10, rfl, by decide, by unfold Sm; omega, by decide, by decide⟩
        · exact ⟨9, 100, rfl, by decide, by unfold Sm; omega, by decide, by decide⟩
      have sg1 : Sm 100 (1 + g0) := by
        unfold Sm
        omega
      clear hv
      walk_at "sq go"
      refine for_range (lo := 0) (n := n) (fun j σ H' => Keep (∃ b6 b7 b8 b9, σ = [some (.ref p0), some (.ref r), some (.int (0 + (i : Int))), some (.int (1 + g0)), some (.int many), some (.ref pb), b6, b7, b8, b9] ∧ Sep (rgB r d (100 * i + 4)) (upd H pb (.lst (iv ((List.range (j + 1)).map (bN (1 + g0)))))) H')) ⟨_, _, _, _, rfl, SepB.mono hs6 (by omega)⟩ (fun j σ H' hj h => ?_) (fun σ H' h => ?_)
      · obtain ⟨b6, b7, b8, b9, rfl, hs7⟩ := h.o
        have hb7 := seqL_of (K := K) (hs7.get upd_same)
        have ln : (iv ((List.range (j + 1)).map (bN (1 + g0)))).length = j + 1 := by simp
        have al := bs_last (1 + g0) j
        have al1 := bs_last (1 + g0) (j + 1)
        have al2 := bs_last2 (1 + g0) j
        have pw : c * 2 ^ j ≤ c * 2 ^ n := Nat.mul_le_mul_left c (Nat.pow_le_pow_right (by decide) (by omega))
        have pw2 : c * 2 ^ (j + 1) ≤ c * 2 ^ n := Nat.mul_le_mul_left c (Nat.pow_le_pow_right (by decide) (by omega))
        have pw1 : c * 1 ≤ c * 2 ^ j := Nat.mul_le_mul_left c (Nat.pow_le_pow_right (n := 2) (i := 0) (by decide) (Nat.zero_le _))
        have bp := bN_pos g1 j
        have bu := bN_up g1 j
        walk_at "sq go"
        refine ⟨⟨bp, bN_sm sg c10 g1 j, by omega, by omega⟩, fun H5 s8 => ?_⟩
        have hs8 := hs7.on s8
        have hb8 := hs8.get upd_same
        have lz : (iv ((List.range (j + 1)).map (bN (1 + g0)))).length < sizeLine := by
          rw [ln, sizeLine_eq]
          omega
        have snoc : iv ((List.range (j + 1)).map (bN (1 + g0))) ++ [.int (bR (bN (1 + g0) j))] = iv ((List.range (j + 1 + 1)).map (bN (1 + g0))) := (bs_snoc _ _).symm
        have hs9 := hs8.put upd_same (.lst (iv ((List.range (j + 1)).map (bN (1 + g0))) ++ [.int (bR (bN (1 + g0) j))]))
        rw [upd_upd, snoc] at hs9
        have hb9 := seqL_of (K := K) (hs9.get upd_same)
        walk_at "sq go"
        have ej : (0 + (j : Int) + 1).toNat = j + 1 := by omega
        refine ⟨⟨⟨by omega, by omega⟩, g1, sg, c10, by rw [ej]; omega⟩, fun H6 s10 => ?_⟩
        rw [snoc] at s10
        have hs10 := hs9.on s10
        have hb10 := seqL_of (K := K) (hs10.get upd_same)
        rw [ej]
        walk_at "sq go"
        refine ⟨⟨alike_int⟩, fun H7 s11 => ?_⟩
        have hs11 := hs10.on s11
        have hb11 := seqL_of (K := K) (hs11.get upd_same)
        walk_at "sq go"
        refine ifD (fun z => absurd z (by omega)) (fun _ => ?_)
        exact ⟨_, _, _, _, rfl, hs11⟩
      · obtain ⟨b6, b7, b8, b9, rfl, hs7⟩ := h.o
        obtain ⟨mn, rfl⟩ := Int.eq_ofNat_of_zero_le m0
        have hb7 := seqL_of (K := K) (hs7.get upd_same)
        have gpq := hs7.get upd_same
        have et : cutV (iv ((List.range (n + 1)).map (bN (1 + g0)))) none (some ((mn : Nat) : Int)) = iv ((List.range mn).map (bN (1 + g0))) := by
          rw [cut_to, iv_take, ← List.map_take, List.take_range, Nat.min_eq_left (by omega)]
        walk_at "sq go"
        rw [et]
        intro t1 nt1
        have s8 := same_new (o := .lst (iv ((List.range mn).map (bN (1 + g0))))) nt1
        have ht1 : upd H' t1 (.lst (iv ((List.range mn).map (bN (1 + g0))))) t1 = some (.lst (iv ((List.range mn).map (bN (1 + g0))))) := upd_same
        generalize upd H' t1 (.lst (iv ((List.range mn).map (bN (1 + g0))))) = H5 at *
        walk_at "sq go"
        intro D nD
        refine lc_list (K := K) (a := t1) (xs := iv ((List.range mn).map (bN (1 + g0)))) (fun m H6 => Keep (Same H5 H6 ∧ H6 D = some (.lst (iv (((List.range m).map (bN (1 + g0))).filter fun o => decide (o % 2 = 0)))))) ⟨same_new nD, upd_same⟩ (fun m H6 _ h => ?_) (fun m v H6 hv h => ?_) (fun H6 h => ?_)
        · obtain ⟨s9, _⟩ := h.o
          exact seqL_of (s9 _ _ ht1)
        · obtain ⟨s9, hD⟩ := h.o
          have lm : m < mn := by
            have := (List.getElem?_eq_some_iff.mp hv).1
            simpa using this
          rw [bs_get (1 + g0) lm] at hv
          obtain rfl := Option.some.inj hv
          have c2 : CDivW (bN (1 + g0) m) 2 := div_ok (by decide) (by decide)
          walk_at "sq go"
          have fl := filter_snoc (1 + g0) m
          refine ifI (fun c => ?_) (fun c => ?_)
          · rw [if_pos c] at fl
            have lz : (iv (((List.range m).map (bN (1 + g0))).filter fun o => decide (o % 2 = 0))).length < sizeLine := by
              have := List.length_filter_le (fun o => decide (o % 2 = 0)) ((List.range m).map (bN (1 + g0)))
              rw [iv_len, sizeLine_eq]
              simp only [List.length_map, List.length_range] at this
              omega
            walk_at "sq go"
            refine ⟨same_putA s9 nD, ?_⟩
            rw [upd_same, fl, iv_app]
          · rw [if_neg c, List.append_nil] at fl
            walk_at "sq go"
            rw [fl]
            exact ⟨s9, hD⟩
        · obtain ⟨s9, hD⟩ := h.o
          rw [iv_len, List.length_map, List.length_range] at hD
          have hDq := seqL_of (K := K) hD
          have ev : (iv (((List.range mn).map (bN (1 + g0))).filter fun o => decide (o % 2 = 0))).length = evens (1 + g0) mn := by rw [iv_len, evens_is]
          have hs9 := (hs7.on s8).on s9
          have hb9 := seqL_of (K := K) (hs9.get upd_same)
          have em : atI (iv ((List.range (n + 1)).map (bN (1 + g0)))) (mn : Int) = some (.int (bN (1 + g0) mn)) := atI_nat (bs_get (1 + g0) (by omega))
          walk_at "sq go"
          rw [ev]
          walk_at "sq go"
          refine ⟨⟨⟨by omega, by omega⟩, g1, sg1, by omega, by omega⟩, fun H7 hs10 => ?_⟩
          walk_at "sq go"
          refine ⟨⟨g1, ⟨by omega, by omega⟩, ⟨sg, c10, by omega⟩, by omega, by omega⟩, fun H8 hs11 => ?_⟩
          walk_at "sq go"
          exact ⟨_, _, _, _, _, _, _, _, rfl, SepB.mono (hs11.weak (same_new gpb)) (by omega), hi12⟩
    · obtain ⟨a2, a3, a4, a5, a6, a7, a8, a9, rfl, hs, hi11⟩ := h.o
      walk_at "sq go"
      intro D nD
      refine lc_range (lo := 0) (n := 7) (fun t H3 => Keep (H3 D = some (.lst (iv ((List.range t).map (bN 1)))))) ⟨upd_same⟩ (fun t H3 ht h => ?_) (fun H3 h => ?_)
      · obtain hD := h.o
        have et : (0 + (t : Int)).toNat = t := by omega
        have pw : 10 * 2 ^ t ≤ 10 * 2 ^ 7 := Nat.mul_le_mul_left 10 (Nat.pow_le_pow_right (by decide) (by omega))
        walk_at "sq go"
        refine ⟨⟨⟨by omega, by omega⟩, by decide, (show Sm 10 1 by unfold Sm; decide), by decide, by rw [et]; omega⟩, fun H4 s4 => ?_⟩
        have hD4 := s4 _ _ hD
        have lz : (iv ((List.range t).map (bN 1))).length < sizeLine := by
          rw [iv_len, List.length_map, List.length_range, sizeLine_eq]
          omega
        walk_at "sq go"
        rw [et, upd_same, ← bs_snoc]
        exact ⟨rfl⟩
      · obtain hD := h.o
        walk_at "sq go"
        intro e2 ne2
        have e7 : (List.range 7).map (bN 1) = [1, 2, 4, 10, 40, 460, 53590] := by decide +kernel
        rw [e7] at hD
        refine r_eqI (xs := [1, 2, 4, 10, 40, 460, 53590]) (ys := [1, 2, 4, 10, 40, 460, 53590]) ((same_new ne2).seq (seqL_of hD)) (seqL_of upd_same) ?_
        walk_at "sq go"
        exact q _
end
end Sq
open PySem PySem.W PyProof.Rows in
set_option maxRecDepth 100000 in
set_option maxHeartbeats 0 in
theorem PySem.Challenge.cw_squeezelists_k08_great_best_lists_holds : PySem.Challenge.rw_squeezelists_k08_great_best_lists.Holds := by
  w_on; o_law; k_head; (case hw => w_witness2)
  k_fill
  refine Sq.walk_ofG (l := PySem.Challenge.rw_squeezelists_k08_great_best_lists) (n := 63) (k := 9) (x := "script") (sp := Sq.spLaw) rfl (by decide) rfl ⟨rfl, by decide, by decide⟩ (fun w h Y => PySem.W.kIn_of Y) ?F (fun K H a ns hl hS => ⟨a, ns, rfl, hS, hl, fun _ => rfl⟩)
  case F =>
    intro w mg fa h KX G hmg
    have B : Sq.Bt mg := by
      refine' ⟨PySem.W.mg_none_of KX G ?z0, PySem.W.mg_none_of KX G ?z1, PySem.W.mg_none_of KX G ?z2, PySem.W.mg_none_of KX G ?z3, PySem.W.mg_none_of KX G ?z4, PySem.W.mg_none_of KX G ?z5, PySem.W.mg_none_of KX G ?z6, PySem.W.mg_none_of KX G ?z7, PySem.W.mg_none_of KX G ?z8, PySem.W.mg_none_of KX G ?z9, PySem.W.mg_none_of KX G ?z10, PySem.W.mg_none_of KX G ?z11⟩
      (case z0 => k_is)
      (case z1 => k_is)
      (case z2 => k_is)
      (case z3 => k_is)
      (case z4 => k_is)
      (case z5 => k_is)
      (case z6 => k_is)
      (case z7 => k_is)
      (case z8 => k_is)
      (case z9 => k_is)
      (case z10 => k_is)
      (case z11 => k_is)
    have g_SINGLE : ∃ u, mg "SINGLE" = some u ∧ L2.RelV (L2.V.int 1) u := by
      refine' ⟨?u_SINGLE, PySem.W.mg_of KX G ?a_SINGLE, ?r_SINGLE⟩
      (case a_SINGLE => k_is)
      (case r_SINGLE => first | exact ⟨_, rfl⟩ | exact ⟨_, congrArg (fun z => PySem.Value.str z _) (by decide +kernel)⟩)
    refine' Sq.cutD (Sq.DefAt.mk1 (x := "check_list") (st := Sq.s_check_list) (ps := ["replacements"]) KX G ?a_check_list ?l_check_list ?c_check_list ?k_check_list (fun _ _ _ _ _ _ us hl => match us, hl with | [_], _ => rfl)) ?_
    (case a_check_list => k_is); (case l_check_list => k_is); (case c_check_list => k_is); (case k_check_list => k_is)
    intro D_check_list
    refine' Sq.cutD (Sq.DefAt.mk1 (x := "check_length") (st := Sq.s_check_length) (ps := ["length"]) KX G ?a_check_length ?l_check_length ?c_check_length ?k_check_length (fun _ _ _ _ _ _ us hl => match us, hl with | [_], _ => rfl)) ?_
    (case a_check_length => k_is); (case l_check_length => k_is); (case c_check_length => k_is); (case k_check_length => k_is)
    intro D_check_length
    refine' Sq.cutD (Sq.DefAt.mk1 (x := "check_most") (st := Sq.s_check_most) (ps := ["most"]) KX G ?a_check_most ?l_check_most ?c_check_most ?k_check_most (fun _ _ _ _ _ _ us hl => match us, hl with | [_], _ => rfl)) ?_
    (case a_check_most => k_is); (case l_check_most => k_is); (case c_check_most => k_is); (case k_check_most => k_is)
    intro D_check_most
    refine' Sq.cutD (Sq.DefAt.mk1 (x := "check_steps") (st := Sq.s_check_steps) (ps := ["steps", "most"]) KX G ?a_check_steps ?l_check_steps ?c_check_steps ?k_check_steps (fun _ _ _ _ _ _ us hl => match us, hl with | [_, _], _ => rfl)) ?_
    (case a_check_steps => k_is); (case l_check_steps => k_is); (case c_check_steps => k_is); (case k_check_steps => k_is)
    intro D_check_steps
    refine' Sq.cutD (Sq.DefAt.mk1 (x := "reach_before") (st := Sq.s_reach_before) (ps := ["reached", "replacement"]) KX G ?a_reach_before ?l_reach_before ?c_reach_before ?k_reach_before (fun _ _ _ _ _ _ us hl => match us, hl with | [_, _], _ => rfl)) ?_
    (case a_reach_before => k_is); (case l_reach_before => k_is); (case c_reach_before => k_is); (case k_reach_before => k_is)
    intro D_reach_before
    refine' Sq.cutD (Sq.DefAt.mk1 (x := "reach_of") (st := Sq.s_reach_of) (ps := ["replacements", "most"]) KX G ?a_reach_of ?l_reach_of ?c_reach_of ?k_reach_of (fun _ _ _ _ _ _ us hl => match us, hl with | [_, _], _ => rfl)) ?_
    (case a_reach_of => k_is); (case l_reach_of => k_is); (case c_reach_of => k_is); (case k_reach_of => k_is)
    intro D_reach_of
    refine' Sq.cutD (Sq.DefAt.mk1 (x := "best_replacements") (st := Sq.s_best_replacements) (ps := ["reached"]) KX G ?a_best_replacements ?l_best_replacements ?c_best_replacements ?k_best_replacements (fun _ _ _ _ _ _ us hl => match us, hl with | [_], _ => rfl)) ?_
    (case a_best_replacements => k_is); (case l_best_replacements => k_is); (case c_best_replacements => k_is); (case k_best_replacements => k_is)
    intro D_best_replacements
    refine' Sq.cutD (Sq.DefAt.mk1 (x := "_law_source") (st := Sq.s_law_source) (ps := ["script"]) KX G ?a_law_source ?l_law_source ?c_law_source ?k_law_source (fun _ _ _ _ _ _ us hl => match us, hl with | [_], _ => rfl)) ?_
    (case a_law_source => k_is); (case l_law_source => k_is); (case c_law_source => k_is); (case k_law_source => k_is)
    intro D_law_source
    refine' Sq.cutD (Sq.DefAt.mk1 (x := "_law_draw") (st := Sq.s_law_draw) (ps := ["source", "many"]) KX G ?a_law_draw ?l_law_draw ?c_law_draw ?k_law_draw (fun _ _ _ _ _ _ us hl => match us, hl with | [_, _], _ => rfl)) ?_
    (case a_law_draw => k_is); (case l_law_draw => k_is); (case c_law_draw => k_is); (case k_law_draw => k_is)
    intro D_law_draw
    refine' Sq.cutD (Sq.DefAt.mk1 (x := "_law_same") (st := Sq.s_law_same) (ps := ["found", "wanted"]) KX G ?a_law_same ?l_law_same ?c_law_same ?k_law_same (fun _ _ _ _ _ _ us hl => match us, hl with | [_, _], _ => rfl)) ?_
    (case a_law_same => k_is); (case l_law_same => k_is); (case c_law_same => k_is); (case k_law_same => k_is)
    intro D_law_same
    refine' Sq.cutD (Sq.DefAt.mk1 (x := "_law_least_run") (st := Sq.s_law_least_run) (ps := ["row", "goal"]) KX G ?a_law_least_run ?l_law_least_run ?c_law_least_run ?k_law_least_run (fun _ _ _ _ _ _ us hl => match us, hl with | [_, _], _ => rfl)) ?_
    (case a_law_least_run => k_is); (case l_law_least_run => k_is); (case c_law_least_run => k_is); (case k_law_least_run => k_is)
    intro D_law_least_run
    refine' Sq.cutD (Sq.DefAt.mk1 (x := "_law_most_of") (st := Sq.s_law_most_of) (ps := ["reached"]) KX G ?a_law_most_of ?l_law_most_of ?c_law_most_of ?k_law_most_of (fun _ _ _ _ _ _ us hl => match us, hl with | [_], _ => rfl)) ?_
    (case a_law_most_of => k_is); (case l_law_most_of => k_is); (case c_law_most_of => k_is); (case k_law_most_of => k_is)
    intro D_law_most_of
    refine' Sq.cutD (Sq.DefAt.mk1 (x := "_law_lists_right") (st := Sq.s_law_lists_right) (ps := ["source", "many", "goal", "due", "even"]) KX G ?a_law_lists_right ?l_law_lists_right ?c_law_lists_right ?k_law_lists_right (fun _ _ _ _ _ _ us hl => match us, hl with | [_, _, _, _, _], _ => rfl)) ?_
    (case a_law_lists_right => k_is); (case l_law_lists_right => k_is); (case c_law_lists_right => k_is); (case k_law_lists_right => k_is)
    intro D_law_lists_right
    refine' Sq.cutD (Sq.DefAt.mk1 (x := "_law_steps_right") (st := Sq.s_law_steps_right) (ps := ["source", "goal", "bests"]) KX G ?a_law_steps_right ?l_law_steps_right ?c_law_steps_right ?k_law_steps_right (fun _ _ _ _ _ _ us hl => match us, hl with | [_, _, _], _ => rfl)) ?_
    (case a_law_steps_right => k_is); (case l_law_steps_right => k_is); (case c_law_steps_right => k_is); (case k_law_steps_right => k_is)
    intro D_law_steps_right
    refine' Sq.cutD (Sq.DefAt.mk1 (x := "law") (st := Sq.s_law) (ps := ["script"]) KX G ?a_law ?l_law ?c_law ?k_law (fun _ _ _ _ _ _ us hl => match us, hl with | [_], _ => rfl)) ?_
    (case a_law => k_is); (case l_law => k_is); (case c_law => k_is); (case k_law => k_is)
    intro D_law
    refine' Sq.cutD (Sq.funD_mk (x := "reach") (st := Sq.s_reach) (dvs := [.int 1]) KX G ?a_r ?l_r ?c_r ?k_r ?t_r ?e_r ?v_r (by simp)) ?_
    (case a_r => k_is); (case l_r => k_is); (case c_r => k_is); (case k_r => k_is); (case t_r => k_is); (case e_r => rfl); (case v_r => exact .cons ⟨_, rfl⟩ .nil)
    rintro ⟨FR, mR⟩
    obtain ⟨d2, v2, b2⟩ := FR.binds1 (ps := ["replacements", "most"]) 2 1 (by simp) rfl (fun T kV doc pm an cdv ct us its h1 h2 => match us, its, h1, h2 with | [_, _], [_], _, _ => ⟨_, rfl, rfl⟩)
    refine' Sq.cutD (Sq.funD_mk (x := "best_reach") (st := Sq.s_best_reach) (dvs := [.int 1]) KX G ?a_q ?l_q ?c_q ?k_q ?t_q ?e_q ?v_q (by simp)) ?_
    (case a_q => k_is); (case l_q => k_is); (case c_q => k_is); (case k_q => k_is); (case t_q => k_is); (case e_q => rfl); (case v_q => exact .cons ⟨_, rfl⟩ .nil)
    rintro ⟨FB, mB⟩
    obtain ⟨e2, w2, f2⟩ := FB.binds1 (ps := ["steps", "most"]) 2 1 (by simp) rfl (fun T kV doc pm an cdv ct us its h1 h2 => match us, its, h1, h2 with | [_, _], [_], _, _ => ⟨_, rfl, rfl⟩)
    obtain ⟨e1, w1, f1⟩ := FB.binds1 (ps := ["steps", "most"]) 1 0 (by simp) rfl (fun T kV doc pm an cdv ct us its h1 h2 => match us, its, h1, h2 with | [_], [_], _, _ => ⟨_, rfl, rfl⟩)
    refine' Sq.cutD (Sq.funD_mk (x := "fewest_steps") (st := Sq.s_fewest_steps) (dvs := [.int 1]) KX G ?a_f ?l_f ?c_f ?k_f ?t_f ?e_f ?v_f (by simp)) ?_
    (case a_f => k_is); (case l_f => k_is); (case c_f => k_is); (case k_f => k_is); (case t_f => k_is); (case e_f => rfl); (case v_f => exact .cons ⟨_, rfl⟩ .nil)
    rintro ⟨FF, mF⟩
    obtain ⟨g2, x2, h2⟩ := FF.binds1 (ps := ["length", "most"]) 2 1 (by simp) rfl (fun T kV doc pm an cdv ct us its h1 h2 => match us, its, h1, h2 with | [_, _], [_], _, _ => ⟨_, rfl, rfl⟩)
    refine' Sq.cutD (Sq.funD_mk (x := "best_lists") (st := Sq.s_best_lists) (dvs := [.int 1]) KX G ?a_g ?l_g ?c_g ?k_g ?t_g ?e_g ?v_g (by simp)) ?_
    (case a_g => k_is); (case l_g => k_is); (case c_g => k_is); (case k_g => k_is); (case t_g => k_is); (case e_g => rfl); (case v_g => exact .cons ⟨_, rfl⟩ .nil)
    rintro ⟨FL, mL⟩
    obtain ⟨i2, z2, l2⟩ := FL.binds1 (ps := ["steps", "most"]) 2 1 (by simp) rfl (fun T kV doc pm an cdv ct us its h1 h2 => match us, its, h1, h2 with | [_, _], [_], _, _ => ⟨_, rfl, rfl⟩)
    have z3 : L2.Vals [] i2 := z2
    cases z3
    obtain ⟨fd, F, hb⟩ := D_law.law hmg (fun _ _ _ _ _ _ us hl => match us, hl with | [_], _ => rfl)
    refine ⟨fd, hb, fun base _ _ => ?_⟩
    have ccl := Sq.cal_check_list (P := PySem.Challenge.rw_squeezelists_k08_great_best_lists.prog) (w := w) (base := base) D_check_list B
    have cln := Sq.cal_check_length (P := PySem.Challenge.rw_squeezelists_k08_great_best_lists.prog) (w := w) (base := base) D_check_length B
    have ccm := Sq.cal_check_most (P := PySem.Challenge.rw_squeezelists_k08_great_best_lists.prog) (w := w) (base := base) D_check_most B
    have crb := Sq.cal_reach_before (P := PySem.Challenge.rw_squeezelists_k08_great_best_lists.prog) (w := w) (base := base) D_reach_before B
    have cbk := Sq.cal_bestK (P := PySem.Challenge.rw_squeezelists_k08_great_best_lists.prog) (w := w) (base := base) D_best_replacements B
    have cst := Sq.cal_stepsC (P := PySem.Challenge.rw_squeezelists_k08_great_best_lists.prog) (w := w) (base := base) D_check_steps B ccm
    have GR := Sq.ok_reach (P := PySem.Challenge.rw_squeezelists_k08_great_best_lists.prog) (w := w) (base := base) FR B ccl ccm (Sq.cal_reach_of D_reach_of B crb)
    have GB := Sq.ok_bestC (P := PySem.Challenge.rw_squeezelists_k08_great_best_lists.prog) (w := w) (base := base) FB B cst crb cbk
    have GF := Sq.ok_fewC (P := PySem.Challenge.rw_squeezelists_k08_great_best_lists.prog) (w := w) (base := base) FF B cln ccm crb cbk
    have r2 : Sq.Cal PySem.Challenge.rw_squeezelists_k08_great_best_lists.prog w _ mg base 3 "reach" (Sq.spReach _) [] := ⟨_, _, _, d2, GR, mR, FR.kp, b2, v2⟩
    have q2 : Sq.Cal PySem.Challenge.rw_squeezelists_k08_great_best_lists.prog w _ mg base 3 "best_reach" Sq.spBestC [] := ⟨_, _, _, e2, GB, mB, FB.kp, f2, w2⟩
    have q1 : Sq.Cal PySem.Challenge.rw_squeezelists_k08_great_best_lists.prog w _ mg base 3 "best_reach" Sq.spBestC [.int 1] := ⟨_, _, _, e1, GB, mB, FB.kp, f1, w1⟩
    have y2 : Sq.Cal PySem.Challenge.rw_squeezelists_k08_great_best_lists.prog w _ mg base 3 "fewest_steps" Sq.spFewC [] := ⟨_, _, _, g2, GF, mF, FF.kp, h2, x2⟩
    have cd := Sq.cal_draw (P := PySem.Challenge.rw_squeezelists_k08_great_best_lists.prog) (w := w) (base := base) D_law_draw B
    have cl := Sq.cal_least (P := PySem.Challenge.rw_squeezelists_k08_great_best_lists.prog) (w := w) (base := base) D_law_least_run B
    have cs := Sq.cal_same (P := PySem.Challenge.rw_squeezelists_k08_great_best_lists.prog) (w := w) (base := base) D_law_same B 1
    have gn : Sq.CalGn PySem.Challenge.rw_squeezelists_k08_great_best_lists.prog w _ mg base 4 "best_lists" ["steps", "most"] Sq.spgBestK := ⟨_, _, Sq.gen_bestK (P := PySem.Challenge.rw_squeezelists_k08_great_best_lists.prog) (w := w) (base := base) FL B cst crb cbk, mL, FL.kp, l2⟩
    refine Sq.ok_law F B (Sq.cal_source D_law_source B) cd (Sq.cal_mostOf D_law_most_of B cl) cs q2 q1 (Sq.cal_listsR D_law_lists_right B cd gn r2 cl) (Sq.cal_stepsR D_law_steps_right B cd cs q2 y2)
