import PyProof.Rows.All
import Wide.All
import OpenK.AllK
import Wide.FinOn
import HandS.ForMost
import HandS.Wide
import HandS.Style
import HandS.SortInts
import HandS.Deep
import HandS.Defaults
import HandS.Flow
import HandS.IsInst
import HandS.Codes
import HandS.NoneIn
import HandS.Property
import HandS.RaiseMore
import PyProof.ReprRoads
import PyProof.LongRange
import HandS.Exc
import HandS.ExcInit
import HandS.NestedK
import KE.KExcSuper
import HandS.ExcIs
import HandS.ExcField
import KE.KExcIs
import HandS.WordsExc
import HandS.MakeKwOnly
import HandS.SetFor
import KE.RegKIsAll
import HandS.Walk
import HandS.Star
import KE.KUnpackStar
import PyProof.StrOps2
import PyProof.Draws
import PyProof.EnumMake
import PyProof.EnumFor
import PySem.Challenge.RW_squeezelists_k03_whole_texts_squeezed
set_option Elab.async false
set_option linter.all false
set_option maxRecDepth 100000
set_option maxHeartbeats 4000000
namespace Sq
open PySem PySem.Spec PyProof.Rows L2
/-! ## operators -/
/-- a power whose base has at most 100000 bits -/
def CPowW (i j : Int) : Prop := 0 ≤ j ∧ j ≤ 1000 ∧ i.natAbs.log2 < 100000
theorem bitsOf_le (i : Int) : Builtin.Int.intBits i ≤ i.natAbs.log2 + 1 := by
  unfold Builtin.Int.intBits
  split <;> omega
theorem op_powW {X : Cx} : OpR X (binaryOp .Pow) (rI CPowW fun i j => .int (i ^ j.toNat)) := opI fun i j _ _ _ _ _ hc q => by
  obtain ⟨h1, h2, h3⟩ := hc
  refine pow_int h1 ?_ q
  have hb := bitsOf_le i
  have h4 : ((Builtin.Int.intBits i : Nat) : Int) ≤ 100000 := by omega
  have h5 := Int.mul_le_mul h4 h2 h1 (by decide : (0 : Int) ≤ 100000)
  exact Int.le_trans h5 (by decide)
def ipIC (C : Int → Int → Prop) (f : Int → Int → Int) : TIp := fun x y H Q => ∃ i j, x = .int i ∧ y = .int j ∧ C i j ∧ Q (.int (f i j)) H
section
variable {X : Cx}
theorem ip_mulW : PIp X .Mult (ipIC CMulW fun i j => i * j) := by
  intro pins s σ H x y v u Q I r1 r2 h
  obtain ⟨i, j, e1, e2, c, q⟩ := h
  subst e1; subst e2
  obtain ⟨t, rfl⟩ := r1
  obtain ⟨t', rfl⟩ := r2
  exact imul_int ⟨.int _, H, I.tok _, ⟨_, rfl⟩, q⟩ c.ok
theorem ip_fdivW : PIp X .FloorDiv (ipIC CDivW fun i j => i / j) := by
  intro pins s σ H x y v u Q I r1 r2 h
  obtain ⟨i, j, e1, e2, c, q⟩ := h
  subst e1; subst e2
  obtain ⟨t, rfl⟩ := r1
  obtain ⟨t', rfl⟩ := r2
  have h1 : (0 : Int) < j := c.1
  refine ifloordiv_int (by omega) ?_ (.inl (PyProof.noPylong_of_log2 c.2))
  rw [Int.fdiv_eq_ediv_of_nonneg i (by omega)]
  exact ⟨.int _, H, I.tok _, ⟨_, rfl⟩, q⟩
end
/-- numbers below 2 ^ n have a small log2 -/
theorem lg_lt {i : Int} {n : Nat} (h : i.natAbs < 2 ^ n) (h0 : 0 < n) : i.natAbs.log2 < n := PySem.Flt.log2_lt_of h0 h

/-! ## sizes -/
/-- at most b bits -/
def Sm (b : Nat) (i : Int) : Prop := i.natAbs < 2 ^ b
theorem Sm.mono {a b : Nat} {i : Int} (h : Sm a i) (hab : a ≤ b) : Sm b i := Nat.lt_of_lt_of_le h (Nat.pow_le_pow_right (by decide) hab)
theorem Sm.lg {b : Nat} {i : Int} (h : Sm b i) (h0 : 0 < b) : i.natAbs.log2 < b := PySem.Flt.log2_lt_of h0 h
theorem Sm.add {b : Nat} {i j : Int} (h : Sm b i) (h' : Sm b j) : Sm (b + 1) (i + j) := by
  have e : 2 ^ (b + 1) = 2 ^ b + 2 ^ b := by rw [Nat.pow_succ]; omega
  unfold Sm at *
  omega
theorem Sm.neg {b : Nat} {i : Int} (h : Sm b i) : Sm b (-i) := by
  unfold Sm at *
  rw [Int.natAbs_neg]
  exact h
theorem Sm.sub {b : Nat} {i j : Int} (h : Sm b i) (h' : Sm b j) : Sm (b + 1) (i - j) := by
  rw [Int.sub_eq_add_neg]
  exact h.add h'.neg
theorem Sm.mul {a b : Nat} {i j : Int} (h : Sm a i) (h' : Sm b j) : Sm (a + b) (i * j) := by
  unfold Sm at *
  rw [Int.natAbs_mul, Nat.pow_add]
  exact Nat.mul_lt_mul'' h h'
theorem Sm.le {b : Nat} {i j : Int} (h : Sm b j) (h0 : 0 ≤ i) (hij : i ≤ j) : Sm b i := by
  unfold Sm at *
  omega
theorem Sm.wide {a b : Nat} {i j : Int} (h : Sm a i) (h' : Sm b j) (ha : 0 < a) (hb : 0 < b) (hab : a + b ≤ 1000000) : CMulW i j := by
  have h1 := h.lg ha
  have h2 := h'.lg hb
  unfold CMulW
  omega
/-- a small number -/
theorem Sm.of {b : Nat} {i : Int} (h : i.natAbs < 2 ^ 10) (hb : 10 ≤ b) : Sm b i := Sm.mono (a := 10) h hb
theorem div_ok {i k : Int} (h : 0 < k) (h2 : k < 2 ^ 240) : CDivW i k := ⟨h, Nat.lt_trans ((show Sm 240 k by unfold Sm; omega).lg (by decide)) (by decide)⟩
theorem pow_ok {b : Nat} {i j : Int} (h : Sm b i) (h0 : 0 < b) (hb : b ≤ 100000) (j0 : 0 ≤ j) (j1 : j ≤ 1000) : CPowW i j := ⟨j0, j1, Nat.lt_of_lt_of_le (h.lg h0) hb⟩
/-! ## rules whose reading speaks of the written part K itself (a comprehension's block has it too) -/
section
variable {X : Cx} {K : PySem.W.Frag}
theorem ix_listK (h : X.K = K := by rfl) : IxR X (rIxL K) := by subst h; exact ix_list
theorem ix_tupK (h : X.K = K := by rfl) : IxR X (rIxT K) := by subst h; exact ix_tup
theorem sl_listK (h : X.K = K := by rfl) : SlR X (rSlL K) := by subst h; exact sl_list
theorem sl_tupK (h : X.K = K := by rfl) : SlR X (rSlT K) := by subst h; exact sl_tup
def rLenQ (K : PySem.W.Frag) : List V → Hp → VK → Prop := fun xs H Q => ∃ p ys, xs = [.ref p] ∧ SqL K H p ys ∧ Q (.int ys.length) H
theorem len_seqK (h : X.K = K := by rfl) : CallR X (.builtin "len") (rLenQ K) := by
  subst h
  intro pins s σ H xs us Q I r q
  obtain ⟨p, ys, e, hs, q⟩ := q
  exact call_len_seq pins s σ H xs us Q I r ⟨p, ys, e, .inl hs, q⟩
/-- readings that are not to be opened by themselves -/
@[irreducible] def rEqQ (K : PySem.W.Frag) : R2 := rEqD K
@[irreducible] def rNeQ (K : PySem.W.Frag) : R2 := rNeD K
@[irreducible] def rInQ (K : PySem.W.Frag) : R2 := rInD K
@[irreducible] def rNotInQ (K : PySem.W.Frag) : R2 := rNotInD K
theorem rEqQ_of {H : Hp} {x y : V} {Q : VK} (h : rEqD K x y H Q) : rEqQ K x y H Q := by unfold rEqQ; exact h
theorem rNeQ_of {H : Hp} {x y : V} {Q : VK} (h : rNeD K x y H Q) : rNeQ K x y H Q := by unfold rNeQ; exact h
theorem rInQ_of {H : Hp} {x y : V} {Q : VK} (h : rInD K x y H Q) : rInQ K x y H Q := by unfold rInQ; exact h
theorem rNotInQ_of {H : Hp} {x y : V} {Q : VK} (h : rNotInD K x y H Q) : rNotInQ K x y H Q := by unfold rNotInQ; exact h
theorem op_eqDK (hu : X.A.units + 64 < cLine) (h : X.K = K := by rfl) : OpR X (compareOp .Eq) (rEqQ K) := by subst h; unfold rEqQ; exact op_eqD hu
theorem op_neDK (hu : X.A.units + 64 < cLine) (h : X.K = K := by rfl) : OpR X (compareOp .NotEq) (rNeQ K) := by subst h; unfold rNeQ; exact op_neD hu
theorem op_inDK (hu : X.A.units + 65 < cLine) (h : X.K = K := by rfl) : OpR X (compareOp .In) (rInQ K) := by subst h; unfold rInQ; exact op_inD hu
theorem op_notInDK (hu : X.A.units + 65 < cLine) (h : X.K = K := by rfl) : OpR X (compareOp .NotIn) (rNotInQ K) := by subst h; unfold rNotInQ; exact op_notInD hu
theorem isiK (h : X.K = K := by rfl) : CallR X (.builtin "isinstance") (rIsi K) := by subst h; exact call_isi
def rListOf (K : PySem.W.Frag) : List V → Hp → VK → Prop := fun xs H Q => ∃ p ys, xs = [.ref p] ∧ SqL K H p ys ∧ ∀ l, H l = none → Q (.ref l) (upd H l (.lst ys))
theorem list_ofK (h : X.K = K := by rfl) : CallR X (.type "list") (rListOf K) := by
  subst h
  intro pins s σ H xs us Q I r q
  obtain ⟨p, ys, e, hs, q⟩ := q
  exact call_list_of pins s σ H xs us Q I r ⟨p, ys, e, .inl hs, q⟩
theorem cr_sumK (hc : X.calm = true) (h : X.K = K := by rfl) : CallR X (.builtin "sum") (rSum K) := by subst h; exact cr_sum hc
theorem cr_maxK (hc : X.calm = true) (h : X.K = K := by rfl) : CallR X (.builtin "max") (rMax K) := by subst h; exact cr_max hc
theorem cr_minK (hc : X.calm = true) (h : X.K = K := by rfl) : CallR X (.builtin "min") (rMin K) := by subst h; exact cr_min hc
theorem cr_allK (hc : X.calm = true) (h : X.K = K := by rfl) : CallR X (.builtin "all") (rAll K) := by subst h; exact cr_all hc
theorem cr_anyK (hc : X.calm = true) (h : X.K = K := by rfl) : CallR X (.builtin "any") (rAny K) := by subst h; exact cr_any hc
theorem cr_sortedIK (h : X.K = K := by rfl) : CallR X (.builtin "sorted") (rSortedI K) := by subst h; exact cr_sortedI
variable {e a b : Expr} {te ta tb : TE} {es : List Expr} {t : TA} {tgs : TGs} {tg : Expr} {pos p q : Pos} {n : Nat}
theorem pi_listK (he : PE X e te) (h : X.K = K := by rfl) : PI X tg e (iList K te) := by subst h; exact pi_list he
theorem pg_tupK {k : Nat} (hc : X.calm = true) (hg : PGs X es tgs) (hn : (assignEach es X.env).length = n := by rfl) (hst : (assignEach es X.env).findIdx? (·.1) = none := by rfl) (h : X.K = K := by rfl) : PG X (.Tuple es k pos) (gTup K n tgs) := by
  subst h
  exact pg_tup hc hg hn hst
theorem pg_lstK {k : Nat} (hc : X.calm = true) (hg : PGs X es tgs) (hn : (assignEach es X.env).length = n := by rfl) (hst : (assignEach es X.env).findIdx? (·.1) = none := by rfl) (h : X.K = K := by rfl) : PG X (.Tuple es k pos) (gUnl K n tgs) := by
  subst h
  exact pg_unl hc hg hn hst
theorem pi_enumK {elts : List Expr} {kk : Nat} (hg : Gl X "enumerate") (hm : X.mg "enumerate" = none) (ha : PA X [e] t) (hs : starEach [e] X.env = [(false, eval e X.env)] := by rfl) (h : X.K = K := by rfl) :
    PI X (.Tuple elts kk p) (.Call (.Name "enumerate" q) [e] [] pos) (iEnum K t) := by
  subst h
  exact pi_enum hg hm ha hs
theorem pi_zipK {elts : List Expr} {kk : Nat} (hg : Gl X "zip") (hm : X.mg "zip" = none) (ha : PA X [a, b] t) (hs : starEach [a, b] X.env = (false, eval a X.env) :: starEach [b] X.env := by rfl)
    (hpl : (backTo pos (starEach [b] X.env)).any (·.1) = false := by rfl) (h : X.K = K := by rfl) : PI X (.Tuple elts kk p) (.Call (.Name "zip" q) [a, b] [] pos) (iZip K t) := by
  subst h
  exact pi_zip hg hm ha hs hpl
theorem pe_revLK {k : Nat} {p1 p2 p3 : Pos} (he : PE X e te) (h : X.K = K := by rfl) : PE X (.Subscript e (.Slice none none (some (.UnaryOp .USub (.Constant (.int 1) k p1) p2)) p3) pos) (tRevL K te) := by
  subst h
  exact pe_revL he
theorem pe_fldK {f : Str} (he : PE X e te) (hb : attributeBase e f X.env (eval e X.env) = eval e X.env := by rfl) (h : X.K = K := by rfl) : PE X (.Attribute e f pos) (tFld K te f) := by
  subst h
  exact pe_fld he hb
end

/-! ## heaps -/
/-- what holds between the turns of a loop (a wrapper: it is not taken apart by itself) -/
structure Keep (P : Prop) : Prop where
  o : P

theorem Same.get {H H' : Hp} {a : Addr} {o : HO} (s : Same H H') (h : H a = some o) : H' a = some o := s a o h
theorem same_new {H : Hp} {p : Addr} {o : HO} (h : H p = none) : Same H (upd H p o) := fun b u e => by
  rw [upd_ne (ne_of_none e h)]
  exact e
theorem upd_keep {H : Hp} {p a : Addr} {o u : HO} (n : H p = none) (h : H a = some u) : upd H p o a = some u := same_new n a u h
theorem upd_off {H : Hp} {p a : Addr} {o u : HO} (n : a ≠ p) (h : H a = some u) : upd H p o a = some u := by
  rw [upd_ne n]
  exact h
/-- a source of draws: what is true of it, where it stands -/
structure Rg where
  I : Hp → Prop
  S : Addr → Prop
  loc : ∀ H H' : Hp, (∀ a, S a → H' a = H a) → I H → I H'
  has : ∀ (H : Hp) (a : Addr), I H → S a → H a ≠ none
/-- the heap H is the quiet part G and the source -/
structure Sep (R : Rg) (G H : Hp) : Prop where
  inv : R.I H
  same : Same G H
  off : ∀ a, R.S a → G a = none
section
variable {R : Rg} {G G' H H' : Hp} {p a : Addr} {o u : HO}
theorem Sep.get (s : Sep R G H) (h : G a = some o) : H a = some o := s.same a o h
theorem Sep.free (s : Sep R G H) (h : H p = none) : G p = none := s.same.free h
theorem Sep.weak (s : Sep R G H) (h : Same G' G) : Sep R G' H := ⟨s.inv, h.trans s.same, fun a ha => by
  cases q : G' a with
  | none => rfl
  | some o =>
    have z := h a o q
    rw [s.off a ha] at z
    cases z⟩
theorem Sep.new (s : Sep R G H) (h : H p = none) (o : HO) : Sep R (upd G p o) (upd H p o) := by
  have np : ∀ a, R.S a → a ≠ p := fun a ha e => R.has H a s.inv ha (by rw [e]; exact h)
  refine ⟨R.loc H _ (fun a ha => upd_ne (np a ha)) s.inv, fun b x e => ?_, fun a ha => by rw [upd_ne (np a ha)]; exact s.off a ha⟩
  by_cases hb : b = p
  · rw [hb, upd_same] at e
    rw [hb, upd_same]
    exact e
  · rw [upd_ne hb] at e
    rw [upd_ne hb]
    exact s.same b x e
/-- a store into an object of the quiet part -/
theorem Sep.put (s : Sep R G H) (h : G p = some u) (o : HO) : Sep R (upd G p o) (upd H p o) := by
  have np : ∀ a, R.S a → a ≠ p := fun a ha e => by
    have z := s.off a ha
    rw [e, h] at z
    cases z
  refine ⟨R.loc H _ (fun a ha => upd_ne (np a ha)) s.inv, fun b x e => ?_, fun a ha => by rw [upd_ne (np a ha)]; exact s.off a ha⟩
  by_cases hb : b = p
  · rw [hb, upd_same] at e
    rw [hb, upd_same]
    exact e
  · rw [upd_ne hb] at e
    rw [upd_ne hb]
    exact s.same b x e
/-- behind something that only makes new things -/
theorem Sep.on (s : Sep R G H) (h : Same H H') : Sep R G H' := by
  refine ⟨R.loc H _ (fun a ha => ?_) s.inv, s.same.trans h, s.off⟩
  cases q : H a with
  | none => exact absurd q (R.has H a s.inv ha)
  | some o => exact h a o q
theorem Sep.grow (s : Sep R G H) (h : Same H H') (n : H p = none) (e : H' p = some o) : Sep R (upd G p o) H' := by
  have s' := s.on h
  have np : ∀ a, R.S a → a ≠ p := fun a ha z => R.has H a s.inv ha (by rw [z]; exact n)
  refine ⟨s'.inv, fun b x q => ?_, fun a ha => by rw [upd_ne (np a ha)]; exact s.off a ha⟩
  by_cases hb : b = p
  · rw [hb, upd_same] at q
    rw [hb, e]
    exact q
  · rw [upd_ne hb] at q
    exact s'.same b x q
end
/-- a source of draws that is a list of three ints: digits, a mix, a count that is at most N -/
def R3 (r : Addr) (N a b c : Int) (H : Hp) : Prop := H r = some (.lst [.int a, .int b, .int c]) ∧ 0 ≤ a ∧ 0 ≤ b ∧ b < 2 ^ 100 ∧ 0 ≤ c ∧ c ≤ N
def rg3 (r : Addr) (N : Int) : Rg where
  I := fun H => ∃ a b c, R3 r N a b c H
  S := fun x => x = r
  loc := fun H H' e ⟨a, b, c, h1, h2⟩ => ⟨a, b, c, (e r rfl).trans h1, h2⟩
  has := fun H x ⟨a, b, c, h1, _⟩ hx => by
    subst hx
    rw [h1]
    exact fun z => nomatch z
theorem Sep3.redo {r : Addr} {N N' : Int} {G H : Hp} {o : HO} (s : Sep (rg3 r N) G H) (h : ∃ a b c, R3 r N' a b c (upd H r o)) : Sep (rg3 r N') G (upd H r o) := by
  refine ⟨h, fun b u q => ?_, s.off⟩
  have nr : b ≠ r := fun z => by
    have := s.off b z
    rw [q] at this
    cases this
  rw [upd_ne nr]
  exact s.same b u q
theorem Sep3.mono {r : Addr} {N N' : Int} {G H : Hp} (s : Sep (rg3 r N) G H) (h : N ≤ N') : Sep (rg3 r N') G H := by
  obtain ⟨a, b, c, h1, h2, h3, h4, h5, h6⟩ := s.inv
  exact ⟨⟨a, b, c, h1, h2, h3, h4, h5, by omega⟩, s.same, s.off⟩
/-- a draw from it -/
def spDraw3 : Sp := fun vs H Q _ => ∃ (r : Addr) (m N : Int) (G : Hp), vs = [.ref r, .int m] ∧ Sep (rg3 r N) G H ∧ Keep (0 < m ∧ m < 2 ^ 240 ∧ N < 2 ^ 60) ∧ ∀ v H', 0 ≤ v → v < m → Sep (rg3 r (N + 1)) G H' → Q (.int v) H'
theorem seqL_of {K : PySem.W.Frag} {H : Hp} {a : Addr} {xs : List V} (h : H a = some (.lst xs)) : SqL K H a xs := .inl (.inl h)
/-- ints as values -/
abbrev iv (ns : List Int) : List V := ns.map V.int
theorem iv_app (ns : List Int) (x : Int) : iv ns ++ [V.int x] = iv (ns ++ [x]) := by simp
theorem iv_len (ns : List Int) : (iv ns).length = ns.length := List.length_map _
theorem iv_get {ns : List Int} {i : Nat} {x : V} (h : (iv ns)[i]? = some x) : ∃ n, ns[i]? = some n ∧ x = .int n := by
  rw [List.getElem?_map] at h
  cases e : ns[i]? with
  | none =>
    rw [e] at h
    cases h
  | some n =>
    rw [e] at h
    exact ⟨n, rfl, (Option.some.inj h).symm⟩

theorem atI_iv {ns : List Int} {i : Int} (h0 : 0 ≤ i) (h1 : i < ns.length) : ∃ n, atI (iv ns) i = some (.int n) := by
  obtain ⟨j, rfl⟩ := Int.eq_ofNat_of_zero_le h0
  have hj : j < ns.length := by omega
  exact ⟨ns[j], atI_nat (by rw [List.getElem?_map, List.getElem?_eq_getElem hj]; rfl)⟩
theorem seqIx0 {n : Nat} (h : 0 < n) : seqIndex? 0 n = some 0 := by
  unfold seqIndex?
  simp
  omega
theorem lit_len {n : Nat} (h : n ≤ 1000) : n ≤ sizeLine := Nat.le_of_lt (small1000 h)
/-- for i, x in enumerate(xs) -/
theorem for_enum {K : PySem.W.Frag} {a : Addr} {xs : List V} {g : TG} {tb : TS} {D : Ends} {σ : L2.St} {H : Hp} (Pv : Nat → L2.St → Hp → Prop) (h0 : Pv 0 σ H) (hq : ∀ i σ H, Pv i σ H → SqL K H a xs)
    (hs : ∀ (i : Nat) (x : V) (T : Addr) (σ : L2.St) (H : Hp), xs[i]? = some x → Pv i σ H → H T = none → g (.ref T) σ (upd H T (.tup [.int (i : Nat), x])) fun σ2 H2 => tb { D with nx := Pv (i + 1), ct := Pv (i + 1), bk := D.nx } σ2 H2) (hd : ∀ σ H, Pv xs.length σ H → D.nx σ H) :
    ∃ W : Nat → Nat → L2.St → Hp → Prop, (∃ m, W 0 m σ H) ∧ ∀ i m σ H, W i m σ H → ((Ite K a).stop i H ∧ D.nx σ H) ∨
      ((Ite K a).go i H ∧ ∃ N : L2.St → Hp → Prop, (∀ σ' H', N σ' H' → ∃ m', m' < m ∧ W (i + 1) m' σ' H') ∧ ∀ v H', (Ite K a).yld i H v H' → g v σ H' fun σ2 H2 => tb { D with nx := N, ct := N, bk := D.nx } σ2 H2) := by
  refine ⟨fun i m σ H => m + i = xs.length ∧ Pv i σ H, ⟨xs.length, rfl, h0⟩, fun i m σ H hW => ?_⟩
  obtain ⟨em, p⟩ := hW
  have q := hq i σ H p
  by_cases lt : i < xs.length
  · have ex : xs[i]? = some xs[i] := List.getElem?_eq_getElem lt
    refine .inr ⟨⟨xs, _, q, ex⟩, Pv (i + 1), fun σ' H' p' => ⟨m - 1, by omega, by omega, p'⟩, fun v H' hy => ?_⟩
    obtain ⟨T, x, rfl, nT, rfl, f⟩ := hy
    exact hs i x T σ H (f xs q) p nT
  · have ei : i = xs.length := by omega
    subst ei
    exact .inl ⟨⟨xs, q, Nat.le_refl _⟩, hd σ H p⟩

/-! ## repr of data, where no repr is under way -/
@[irreducible] def rReprD (K : PySem.W.Frag) : List V → Hp → VK → Prop := fun xs H Q => ∃ (a : Addr) (d : PyData), xs = [.ref a] ∧ Dp K H (.ref a) d ∧ d.showable = true ∧ d.hasDict = false ∧ d.depth ≤ 30 ∧ d.shown.length ≤ sizeLine ∧ Q (.str d.shown) H
theorem call_reprDK {X : Cx} {K : PySem.W.Frag} (hG : X.A.guards = some []) (hu : X.A.units + 64 < cLine) (h : X.K = K := by rfl) : CallR X (.builtin "repr") (rReprD K) := by
  subst h
  intro pins s σ H xs us Q I r h
  unfold rReprD at h
  obtain ⟨a, d, rfl, hd, hs, hn, hdp, hz, q⟩ := h
  obtain ⟨v, rfl, rv⟩ := vals1 r
  cases rv
  obtain ⟨as, rd⟩ := Dp.reads I d _ _ hd rfl
  refine repr_of_reads' rd hs (PyData.noDict_hsm hn) hG (by omega) (fun b o e => e) (fun h' t tk hk => ?_) hz
  exact ⟨.str d.shown, H, I.kept hk, ⟨_, rfl⟩, q⟩
/-! ## lists of ints as data -/
def dI (ns : List Int) : PyData := .list (ns.map .int)
theorem dpall_iv {K : PySem.W.Frag} {H : Hp} : ∀ ns : List Int, DpAll K H (iv ns) (ns.map .int)
  | [] => .nil
  | n :: r => .cons (.int n) (dpall_iv r)
theorem dp_iv {K : PySem.W.Frag} {H : Hp} {a : Addr} {ns : List Int} (h : SqL K H a (iv ns)) : Dp K H (.ref a) (dI ns) := .lst h (dpall_iv ns)
theorem can_ints : ∀ ns : List Int, PyData.canLayAll0 (ns.map .int) = true
  | [] => by simp [PyData.canLayAll0]
  | n :: r => by simp [PyData.canLayAll0, PyData.canLay0, can_ints r]
theorem dep_ints : ∀ ns : List Int, PyData.depthAll (ns.map .int) = 0
  | [] => by simp [PyData.depthAll]
  | n :: r => by simp [PyData.depthAll, PyData.depth, dep_ints r]
theorem eqv_ints : ∀ xs ys : List Int, PyData.eqvAll (xs.map .int) (ys.map .int) = decide (xs = ys)
  | [], [] => by simp [PyData.eqvAll]
  | [], _ :: _ => by simp [PyData.eqvAll]
  | _ :: _, [] => by simp [PyData.eqvAll]
  | x :: r, y :: t => by
    have ih := eqv_ints r t
    simp only [List.map_cons, PyData.eqvAll, PyData.eqv, ih, List.cons.injEq]
    by_cases e : x = y <;> by_cases e2 : r = t <;> simp [e, e2]
theorem shaped_dI (ns : List Int) : SeqAt.shaped (dI ns) = true := by
  unfold SeqAt.shaped dI
  simp only [PyData.canLay0, can_ints, PyData.depth, dep_ints]
  decide
theorem eqv_dI (xs ys : List Int) : PyData.eqv (dI xs) (dI ys) = decide (xs = ys) := by
  unfold dI
  simp only [PyData.eqv, eqv_ints]
theorem shown_ints_len : ∀ ns : List Int, (∀ n ∈ ns, n.natAbs.log2 < 1920) → ((PyData.shownAll (ns.map .int)).map (·.length)).sum ≤ 2000 * ns.length ∧ (PyData.shownAll (ns.map .int)).length = ns.length
  | [], _ => by simp [PyData.shownAll]
  | n :: r, h => by
    obtain ⟨h1, h2⟩ := shown_ints_len r fun m hm => h m (List.mem_cons_of_mem _ hm)
    have e := int_text_length_le (k := 1920) (by decide) (h n (List.mem_cons_self ..))
    have e2 : (PyData.shown (.int n)).length ≤ 2000 := by
      show (Str.ofString (toString n)).length ≤ 2000
      rw [PySem.ofString_length]
      omega
    simp only [List.map_cons, PyData.shownAll, List.sum_cons, List.length_cons]
    omega
theorem show_ints : ∀ ns : List Int, (∀ n ∈ ns, n.natAbs.log2 < 1920) → PyData.showableAll (ns.map .int) = true
  | [], _ => by simp [PyData.showableAll]
  | n :: r, h => by simp [PyData.showableAll, PyData.showable, h n (List.mem_cons_self ..), show_ints r fun m hm => h m (List.mem_cons_of_mem _ hm)]
theorem nod_ints : ∀ ns : List Int, PyData.hasDictAll (ns.map .int) = false
  | [] => by simp [PyData.hasDictAll]
  | n :: r => by simp [PyData.hasDictAll, PyData.hasDict, nod_ints r]
theorem r_eqI {K : PySem.W.Frag} {H : Hp} {a b : Addr} {xs ys : List Int} {Q : VK} (h1 : SqL K H a (iv xs)) (h2 : SqL K H b (iv ys)) (q : Q (.bl (decide (xs = ys))) H) : rEqQ K (.ref a) (.ref b) H Q :=
  rEqQ_of ⟨dI xs, dI ys, dp_iv h1, dp_iv h2, shaped_dI xs, shaped_dI ys, by rw [eqv_dI]; exact q⟩
theorem r_neI {K : PySem.W.Frag} {H : Hp} {a b : Addr} {xs ys : List Int} {Q : VK} (h1 : SqL K H a (iv xs)) (h2 : SqL K H b (iv ys)) (q : Q (.bl (!decide (xs = ys))) H) : rNeQ K (.ref a) (.ref b) H Q :=
  rNeQ_of ⟨dI xs, dI ys, dp_iv h1, dp_iv h2, shaped_dI xs, shaped_dI ys, by rw [eqv_dI]; exact q⟩
theorem r_repr {K : PySem.W.Frag} {H : Hp} {a : Addr} {ns : List Int} {Q : VK} (h1 : SqL K H a (iv ns)) (hl : ns.length ≤ 5000) (hz : ∀ n ∈ ns, n.natAbs.log2 < 1920) (q : Q (.str (dI ns).shown) H) : rReprD K [.ref a] H Q := by
  unfold rReprD
  refine ⟨a, dI ns, rfl, dp_iv h1, ?_, ?_, ?_, ?_, q⟩
  · simp only [dI, PyData.showable]
    exact show_ints ns hz
  · simp only [dI, PyData.hasDict]
    exact nod_ints ns
  · simp only [dI, PyData.depth, dep_ints]
    decide
  · obtain ⟨e1, e2⟩ := shown_ints_len ns hz
    have e3 := listText_len_le (PyData.shownAll (ns.map .int))
    simp only [dI, PyData.shown]
    rw [sizeLine_eq]
    omega
mutual
theorem dp_same {K : PySem.W.Frag} {H H' : Hp} (s : Same H H') : ∀ (d : PyData) (x : V), Dp K H x d → Dp K H' x d
  | .none, _, h => by cases h; exact .non
  | .bool _, _, h => by cases h; exact .bl _
  | .int _, _, h => by cases h; exact .int _
  | .str _, _, h => by cases h; exact .str _
  | .list ds, _, h => by
    cases h with
    | lst a b => exact .lst (s.seq a) (dpall_same s ds _ b)
  | .tuple ds, _, h => by
    cases h with
    | tup a b =>
      refine .tup ?_ (dpall_same s ds _ b)
      rcases a with (a | ⟨o, a⟩) | a
      · exact .inl (.inl (s _ _ a))
      · exact .inl (.inr ⟨o, s _ _ a⟩)
      · exact .inr a
  | .dict _, _, h => nomatch h
theorem dpall_same {K : PySem.W.Frag} {H H' : Hp} (s : Same H H') : ∀ (ds : List PyData) (xs : List V), DpAll K H xs ds → DpAll K H' xs ds
  | [], _, h => by cases h; exact .nil
  | d :: ds, _, h => by
    cases h with
    | cons a b => exact .cons (dp_same s d _ a) (dpall_same s ds _ b)
end
theorem dpall_len {K : PySem.W.Frag} {H : Hp} : ∀ (ds : List PyData) (xs : List V), DpAll K H xs ds → xs.length = ds.length
  | [], _, h => by cases h; rfl
  | d :: ds, _, h => by
    cases h with
    | cons a b => rw [List.length_cons, List.length_cons, dpall_len ds _ b]
theorem dpall_get {K : PySem.W.Frag} {H : Hp} : ∀ (ds : List PyData) (xs : List V), DpAll K H xs ds → ∀ (i : Nat) (d : PyData), ds[i]? = some d → ∃ x, xs[i]? = some x ∧ Dp K H x d
  | [], _, _, _, _, e => by simp at e
  | d :: ds, _, h, i, d', e => by
    cases h with
    | cons a b =>
      cases i with
      | zero =>
        have z : d = d' := by simpa using e
        subst z
        exact ⟨_, rfl, a⟩
      | succ i => exact dpall_get ds _ b i d' (by simpa using e)
theorem tyx_lst {K : PySem.W.Frag} {H : Hp} {a : Addr} {xs : List V} (h : SqL K H a xs) : TyX K H (.ref a) (.type "list") := by
  rcases h with (h | ⟨o, h⟩) | ⟨o, its, n, h1, h2, _⟩
  · exact .base (.lst h)
  · exact .base (.frz h)
  · exact .kList h1 h2
theorem tyx_tup {K : PySem.W.Frag} {H : Hp} {a : Addr} {xs : List V} (h : SqT K H a xs) : TyX K H (.ref a) (.type "tuple") := by
  rcases h with (h | ⟨o, h⟩) | ⟨o, its, n, h1, h2, _⟩
  · exact .base (.tup h)
  · exact .fTuple h
  · exact .kTuple h1 h2
theorem kit_no {K : PySem.W.Frag} : PySem.W.kitOne K (.type "int") (.type "bool") = some false ∧ PySem.W.kitOne K (.type "str") (.type "bool") = some false ∧ PySem.W.kitOne K (.type "list") (.type "bool") = some false ∧
    PySem.W.kitOne K (.type "bool") (.type "int") = some true ∧ PySem.W.kitOne K (.type "int") (.type "int") = some true := ⟨rfl, rfl, rfl, rfl, rfl⟩
/-! ## tests -/
theorem ifD {p A B : Prop} [Decidable p] (h1 : p → A) (h2 : ¬ p → B) : if decide p = true then A else B := by
  by_cases h : p
  · rw [decide_eq_true h]; exact iteT (h1 h)
  · rw [decide_eq_false h]; exact iteF (h2 h)
theorem ifN {p A B : Prop} [Decidable p] (h1 : ¬ p → A) (h2 : p → B) : if (!decide p) = true then A else B := by
  by_cases h : p
  · rw [decide_eq_true h]; exact iteF (h2 h)
  · rw [decide_eq_false h]; exact iteT (h1 h)
theorem ifI {i j : Int} {A B : Prop} (h1 : i = j → A) (h2 : i ≠ j → B) : if decide (V.int i = V.int j) = true then A else B :=
  ifD (fun e => h1 (V.int.inj e)) fun e => h2 fun z => e (congrArg V.int z)
theorem ifIN {i j : Int} {A B : Prop} (h1 : i ≠ j → A) (h2 : i = j → B) : if (!decide (V.int i = V.int j)) = true then A else B :=
  ifN (fun e => h1 fun z => e (congrArg V.int z)) fun e => h2 (V.int.inj e)
/-! ## defs that may ask for repr: called where no repr is under way -/
structure FnG (P : Program) (w : World) (K : PySem.W.Frag) (mg : Str → Option Value) (base : Heap) (CX : CXT) (k : Nat) (f : Addr) (fd : FuncData) (ps : List Str) (sp : Sp) : Prop where
  len : ∀ vs H Q E, sp vs H Q E → vs.length = ps.length
  run : ∀ (A : Around) (outer : List Env) (s : Shared) (H : Hp) (args : Args) (us : List Value) (vs : List V) (Q : VK) (E : XK), Room k A → A.guards = some [] →
    Env0 P w K mg base A outer s H → BindsTo s fd args (ps.zip us) → Vals vs us → sp vs H Q E → codeAny (model P w) A (.call (.ref f) args) (CR CX outer P w H s Q E) s
section
variable {P : Program} {w : World} {K : PySem.W.Frag} {mg : Str → Option Value} {base : Heap} {CX : CXT}
theorem FnG.of {k : Nat} {f : Addr} {fd : FuncData} {ps : List Str} {sp : Sp} (F : FnOk P w K mg base CX k f fd ps sp) : FnG P w K mg base CX k f fd ps sp :=
  ⟨F.len, fun A outer s H args us vs Q E hr _ => F.run A outer s H args us vs Q E hr⟩
theorem fnG_of {k : Nat} {f : Addr} {nm qual : Str} {pms : Arguments} {body : List Stmt} {sc : Scope} {dV kV dc pm cdv ct oc : Value} {an od : Option Addr} {sl : Array (Option Value)} {N ps : List Str} {sp : Sp}
    (lk : K.lookup f = some ⟨oc, od, .func (PySem.W.fnOf nm qual pms body sc dV kV dc pm an cdv ct), sl⟩) (hcd : PySem.W.codeIn K cdv qual = true) (S : FnScope N ps sc) (len : ∀ vs H Q E, sp vs H Q E → vs.length = ps.length)
    (hb : ∀ (A : Around) (outer : List Env) (s : Shared) (H : Hp) (vs : List V) (Q : VK) (E : XK), A.guards = some [] → Room k (A.deeper (envOfC qual sc s.heap.objs.size f cdv)) → sp vs H Q E →
      ∃ t, PSs (cxOf CX P w K mg base N qual sc f cdv A outer s H E) body t ∧ t { nx := fun _ H' => Q .non H', rt := Q } (start N vs) H) :
    FnG P w K mg base CX (k + 1) f (PySem.W.fnOf nm qual pms body sc dV kV dc pm an cdv ct) ps sp := by
  refine ⟨len, ?_⟩
  intro A out s H args us vs Q E room hG env bnd rel pre
  have ln := len _ _ _ _ pre
  have kin : K.In s.heap := env.mod.kin.keeps fun b o e => (env.bs b o e).1
  have nl : s.heap.NoLimit := env.mod.nolimit.keeps fun b o e => (env.bs b o e).1
  have kinds : ∀ y ∈ ps.zip us, sc.names.lookup y.1 = some .local ∨ (sc.names.lookup y.1 = some .cell ∧ ((cellsFrom (s.heap.objs.size + 1) sc.names []).lookup y.1).isSome = true) := by
    rintro ⟨x, v⟩ hy
    rcases S.par x (List.of_mem_zip hy).1 with z | z
    · exact .inl z
    · exact .inr ⟨z, PySem.W.cellsFrom_some _ _ _ (.inl z)⟩
  refine codeAny_call_function room.depth (kin _ _ lk) rfl S.co S.gen rfl (PySem.W.codeRec_of kin hcd) (bnd _ _ _ _ ?_)
  refine wpAny_newFunctionEnv_cells S.kind kinds fun en hen s1 x1 => ?_
  cases hen
  refine ⟨nl.keeps x1.toInCall.keep, codeAny_func ?_⟩
  obtain ⟨t, ht, hq⟩ := hb A out s H vs Q E hG (room.deeper _) pre
  have J0 : Inv (cxOf CX P w K mg base N qual sc f cdv A out s H E) [] (start N vs) H s1 := inv_start S room.hd env ln rel x1
  refine wpAny_mono (ht.run [] s1 (start N vs) H _ J0 hq) (fun fl s2 hs => ?_) fun e s2 hs => hs
  cases fl with
  | ret u =>
    obtain ⟨v, τ, H2, J, rv, q⟩ := hs
    exact ⟨v, H2, J.os, J.bare, J.base, J.hok, rv, q⟩
  | next =>
    obtain ⟨τ, H2, J, q⟩ := hs
    exact ⟨V.non, H2, J.os, J.bare, J.base, J.hok, rfl, q⟩
  | brk =>
    obtain ⟨_, _, _, q⟩ := hs
    cases q
  | cont =>
    obtain ⟨_, _, _, q⟩ := hs
    cases q
end
/-! ## a def of the text: where it stands; its promise -/
structure DefAt (K : PySem.W.Frag) (mg : Str → Option Value) (x : Str) (st : Stmt) (ps : List Str) : Prop where
  ex : ∃ (f : Addr) (fd : FuncData), Fun K x x st f fd ∧ mg x = some (.ref f) ∧ Binds K fd ps []
/-- a def that may be called by its name; dvs: the defaults that fill up -/
structure Cal (P : Program) (w : World) (K : PySem.W.Frag) (mg : Str → Option Value) (base : Heap) (k : Nat) (x : Str) (sp : Sp) (dvs : List V) : Prop where
  ex : ∃ (f : Addr) (fd : FuncData) (ps : List Str) (ds : List Value), FnOk P w K mg base CX0 k f fd ps sp ∧ mg x = some (.ref f) ∧ PySem.W.keepIn K (.ref f) = true ∧ L2.Binds K fd ps ds ∧ Vals dvs ds
/-- a def that may be called by its name; it may ask for repr -/
structure CalG (P : Program) (w : World) (K : PySem.W.Frag) (mg : Str → Option Value) (base : Heap) (k : Nat) (x : Str) (sp : Sp) : Prop where
  ex : ∃ (f : Addr) (fd : FuncData) (ps : List Str), FnG P w K mg base CX0 k f fd ps sp ∧ mg x = some (.ref f) ∧ PySem.W.keepIn K (.ref f) = true ∧ Binds K fd ps []
section
variable {P : Program} {w : World} {K : PySem.W.Frag} {mg : Str → Option Value} {base : Heap}
theorem DefAt.cal {x : Str} {st : Stmt} {ps N : List Str} {k : Nat} {sp : Sp} (D : DefAt K mg x st ps) (S : FnScope N ps (defScope st)) (len : ∀ vs H Q E, sp vs H Q E → vs.length = ps.length)
    (hb : ∀ (f : Addr) (cdv : Value) (A : Around) (outer : List Env) (s : Shared) (H : Hp) (vs : List V) (Q : VK) (E : XK), Room k (A.deeper (envOfC x (defScope st) s.heap.objs.size f cdv)) → sp vs H Q E →
      ∃ t, PSs (cxOf CX0 P w K mg base N x (defScope st) f cdv A outer s H E).nox (defBody st) t ∧ t { nx := fun _ H' => Q .non H', rt := Q } (start N vs) H) : Cal P w K mg base (k + 1) x sp [] := by
  obtain ⟨f, fd, F, hm, b⟩ := D.ex
  exact ⟨f, fd, ps, [], F.ok S len fun cdv A outer s H vs Q E => hb f cdv A outer s H vs Q E, hm, F.kp, b, .nil⟩
theorem DefAt.calG {x : Str} {st : Stmt} {ps N : List Str} {k : Nat} {sp : Sp} (D : DefAt K mg x st ps) (S : FnScope N ps (defScope st)) (len : ∀ vs H Q E, sp vs H Q E → vs.length = ps.length)
    (hb : ∀ (f : Addr) (cdv : Value) (A : Around) (outer : List Env) (s : Shared) (H : Hp) (vs : List V) (Q : VK) (E : XK), A.guards = some [] → Room k (A.deeper (envOfC x (defScope st) s.heap.objs.size f cdv)) → sp vs H Q E →
      ∃ t, PSs (cxOf CX0 P w K mg base N x (defScope st) f cdv A outer s H E).nox (defBody st) t ∧ t { nx := fun _ H' => Q .non H', rt := Q } (start N vs) H) : CalG P w K mg base (k + 1) x sp := by
  obtain ⟨f, fd, ⟨⟨oc, od, kV, doc, pm, an, cdv, ct, osl, rfl, lk, hcd⟩, kp⟩, hm, b⟩ := D.ex
  refine ⟨f, _, ps, fnG_of lk hcd S len fun A outer s H vs Q E hG hr hsp => ?_, hm, kp, b⟩
  obtain ⟨t, h, q⟩ := hb f cdv A outer s H vs Q E hG hr hsp
  exact ⟨t, h.nox, q⟩
theorem okG {x qual : Str} {st : Stmt} {f : Addr} {fd : FuncData} {N ps : List Str} {k : Nat} {sp : Sp} (F : Fun K x qual st f fd) (S : FnScope N ps (defScope st)) (len : ∀ vs H Q E, sp vs H Q E → vs.length = ps.length)
    (hb : ∀ (cdv : Value) (A : Around) (outer : List Env) (s : Shared) (H : Hp) (vs : List V) (Q : VK) (E : XK), A.guards = some [] → Room k (A.deeper (envOfC qual (defScope st) s.heap.objs.size f cdv)) → sp vs H Q E →
      ∃ t, PSs (cxOf CX0 P w K mg base N qual (defScope st) f cdv A outer s H E).nox (defBody st) t ∧ t { nx := fun _ H' => Q .non H', rt := Q } (start N vs) H) : FnG P w K mg base CX0 (k + 1) f fd ps sp := by
  obtain ⟨⟨oc, od, kV, doc, pm, an, cdv, ct, osl, rfl, lk, hcd⟩, kp⟩ := F
  refine fnG_of lk hcd S len fun A outer s H vs Q E hG hr hsp => ?_
  obtain ⟨t, h, q⟩ := hb cdv A outer s H vs Q E hG hr hsp
  exact ⟨t, h.nox, q⟩
theorem calG_of {x : Str} {k : Nat} {sp : Sp} (c : Cal P w K mg base k x sp []) : CalG P w K mg base k x sp := by
  obtain ⟨f, fd, ps, ds, F, hm, kp, b, d⟩ := c.ex
  cases d
  exact ⟨f, fd, ps, FnG.of F, hm, kp, b⟩
theorem Cal.imp {x : Str} {k j : Nat} {sp sp' : Sp} {dvs : List V} (c : Cal P w K mg base k x sp dvs) (hk : k ≤ j) (h : ∀ vs H Q E, sp' vs H Q E → sp vs H Q E) : Cal P w K mg base j x sp' dvs := by
  obtain ⟨f, fd, ps, ds, F, hm, kp, b, d⟩ := c.ex
  exact ⟨f, fd, ps, ds, (F.mono hk).imp h, hm, kp, b, d⟩
end
section
variable {X : Cx} {k j : Nat} {x : Str} {sp : Sp} {p pos : Pos} {e : Expr} {es : List Expr} {t : TA}
theorem pe_c {dvs : List V} (c : Cal X.prog X.w X.K X.mg X.base k x sp dvs) (hr : Room j X.A) (hk : k ≤ j) (hg : Gl X x) (ha : PA X (e :: es) t)
    (hdb : (x == ("__debug__" : Str)) = false := by decide) (he : starEach (e :: es) X.env = (false, eval e X.env) :: starEach es X.env := by rfl) (hpl : (backTo pos (starEach es X.env)).any (·.1) = false := by rfl) :
    PE X (.Call (.Name x p) (e :: es) [] pos) (tCall sp dvs E0 t) := by
  obtain ⟨f, fd, ps, ds, F, hm, kp, bd, vd⟩ := c.ex
  exact L2.pe_call F (hr.mono hk) hg hm kp bd vd pass0 ha hdb he hpl
/-- a call of a def that may ask for repr -/
theorem pe_cG (c : CalG X.prog X.w X.K X.mg X.base k x sp) (hG : X.A.guards = some []) (hr : Room j X.A) (hk : k ≤ j) (hg : Gl X x) (ha : PA X (e :: es) t)
    (hdb : (x == ("__debug__" : Str)) = false := by decide) (he : starEach (e :: es) X.env = (false, eval e X.env) :: starEach es X.env := by rfl) (hpl : (backTo pos (starEach es X.env)).any (·.1) = false := by rfl) :
    PE X (.Call (.Name x p) (e :: es) [] pos) (tCall sp [] E0 t) := by
  obtain ⟨f, fd, ps, F, hm, kp, b⟩ := c.ex
  refine ⟨fun pins s σ H Q I h => wpAny_Call_Name_kw (ld_glob I hg hm ?_ hdb)⟩
  refine PySem.W.callWith_K (h₀ := X.base) I.ok.mod.kin kp (thn (ha.run pos pins s σ H _ I h) fun us s1 hx => ?_) he hpl
  obtain ⟨vs, H1, I1, r, q⟩ := hx
  rw [List.append_nil] at q
  have ln : us.length = ps.length := by rw [← r.length]; exact F.len _ _ _ _ q
  have bb : BindsTo s1 fd ⟨us, []⟩ (ps.zip us) := by
    have z := b s1 us I1.kIn (by rw [List.append_nil]; exact ln)
    rw [List.append_nil] at z
    exact z
  refine ⟨I1.kIn, wpAny_call (codeAny_mono (F.run X.A X.stack s1 H1 ⟨us, []⟩ us vs Q E0 (hr.mono hk) hG I1.env0 bb r q) fun r s' hq => ?_)⟩
  cases r with
  | error e => exact False.elim hq
  | ok fl =>
    cases fl with
    | ret u => exact I1.after hq
    | next => exact False.elim hq
    | brk => exact False.elim hq
    | cont => exact False.elim hq
end
/-! ## methods, properties, new objects -/
structure Met (P : Program) (w : World) (K : PySem.W.Frag) (mg : Str → Option Value) (base : Heap) (k : Nat) (C : Addr) (m : Str) (sp : Sp) : Prop where
  ex : ∃ (f : Addr) (fd : FuncData) (ps : List Str), Cls K C ∧ Meth K C m f ∧ FnOk P w K mg base CX0 k f fd ps sp ∧ L2.Binds K fd ps []
structure Prp (P : Program) (w : World) (K : PySem.W.Frag) (mg : Str → Option Value) (base : Heap) (k : Nat) (C : Addr) (m : Str) (sp : Sp) : Prop where
  ex : ∃ (f p : Addr) (fd : FuncData) (ps : List Str), Cls K C ∧ PropOf K C m p f ∧ FnOk P w K mg base CX0 k f fd ps sp ∧ L2.Binds K fd ps []
structure Mak (P : Program) (w : World) (K : PySem.W.Frag) (mg : Str → Option Value) (base : Heap) (k : Nat) (x : Str) (C : Addr) (sp : Sp) : Prop where
  ex : ∃ (f : Addr) (fd : FuncData) (ps : List Str), Mk K C f ∧ FnOk P w K mg base CX0 k f fd ps sp ∧ mg x = some (.ref C) ∧ L2.Binds K fd ps []
section
variable {X : Cx} {k j : Nat} {C : Addr} {x m : Str} {sp : Sp} {p pos apos : Pos} {e o : Expr} {es : List Expr} {ta : TE} {t : TA}
theorem pe_m {pl : Sem Bool} (c : Met X.prog X.w X.K X.mg X.base k C m sp) (hr : Room j X.A) (hk : k ≤ j) (he : PE X o ta) (ha : PA X (e :: es) t)
    (ht : eval (.Call (.Attribute o m apos) (e :: es) [] pos) X.env = (do
      let ov ← eval o X.env
      standAt apos.atName
      let (f, first) ← holding [ov] (getMethod ov m pl)
      callWith pos f first (backTo pos (starEach (e :: es) X.env)) (backToKw pos (keywordEach [] X.env))) := by rfl)
    (hst : starEach (e :: es) X.env = (false, eval e X.env) :: starEach es X.env := by rfl) (hpl : (backTo pos (starEach es X.env)).any (·.1) = false := by rfl) : PE X (.Call (.Attribute o m apos) (e :: es) [] pos) (tMeth C m sp [] E0 ta t) := by
  obtain ⟨f, fd, ps, c1, c2, F, b⟩ := c.ex
  exact L2.pe_meth (pl := pl) he c1 c2 F (hr.mono hk) b .nil pass0 ha hst hpl ht
theorem pe_mk (c : Mak X.prog X.w X.K X.mg X.base k x C sp) (hr : Room j X.A) (hk : k + 1 ≤ j) (hg : Gl X x) (ha : PA X (e :: es) t)
    (hdb : (x == ("__debug__" : Str)) = false := by decide) (he : starEach (e :: es) X.env = (false, eval e X.env) :: starEach es X.env := by rfl) (hpl : (backTo pos (starEach es X.env)).any (·.1) = false := by rfl) :
    PE X (.Call (.Name x p) (e :: es) [] pos) (tMake C sp [] E0 t) := by
  obtain ⟨f, fd, ps, M, F, hm, b⟩ := c.ex
  exact L2.pe_make M F (hr.mono hk) hg hm b .nil pass0 ha hdb he hpl
theorem pe_p (c : Prp X.prog X.w X.K X.mg X.base k C m sp) (hr : Room j X.A) (hk : k + 1 ≤ j) (he : PE X e ta) (hab : attributeBase e m X.env (eval e X.env) = eval e X.env := by rfl) : PE X (.Attribute e m pos) (tProp C sp [] E0 ta) := by
  obtain ⟨f, q, fd, ps, c1, c2, F, b⟩ := c.ex
  exact L2.pe_prop he c1 c2 F (hr.mono hk) b .nil pass0 hab
end
section
variable {X : Cx} {K : PySem.W.Frag} {C : Addr} {k j : Nat} {m f : Str} {sp : Sp} {ta tv : TE} {o value : Expr} {pos pos' apos tpos : Pos}
theorem pe_m0 {pl : Sem Bool} (c : Met X.prog X.w X.K X.mg X.base k C m sp) (hr : Room j X.A) (hk : k ≤ j) (he : PE X o ta)
    (ht : eval (.Call (.Attribute o m apos) [] [] pos) X.env = (do
      let ov ← eval o X.env
      standAt apos.atName
      let (f, first) ← holding [ov] (getMethod ov m pl)
      callWith pos f first (backTo pos (starEach [] X.env)) (backToKw pos (keywordEach [] X.env))) := by rfl) : PE X (.Call (.Attribute o m apos) [] [] pos) (tMeth C m sp [] E0 ta tNil) := by
  obtain ⟨f, fd, ps, c1, c2, F, b⟩ := c.ex
  exact L2.pe_meth0 (pl := pl) he c1 c2 F (hr.mono hk) b .nil pass0 ht
theorem ps_fldK (ha : PE X o ta) (hv : PE X value tv) (hs : swapsWith value (some (.Attribute o f pos')) pos.line X.env = pure false) (h : X.K = K := by rfl) : PS X (.Assign [.Attribute o f pos'] value pos) (sFld K ta tv f) := by
  subst h
  exact ps_fld ha hv hs
theorem ps_fldaugK {op : Operator} {rd : V → V → Hp → VK → Prop} (ha : PE X o ta) (hv : PE X value tv) (hop : InOp X op rd) (h : X.K = K := by rfl) : PS X (.AugAssign (.Attribute o f tpos) op value pos) (sFldAug K ta tv rd f) := by
  subst h
  exact ps_fldaug ha hv hop
end
/-- a method of the text -/
structure MetAt (K : PySem.W.Frag) (C : Addr) (m qual : Str) (st : Stmt) (ps : List Str) : Prop where
  ex : ∃ (f : Addr) (fd : FuncData), Fun K m qual st f fd ∧ Meth K C m f ∧ L2.Binds K fd ps []
section
variable {P : Program} {w : World} {K : PySem.W.Frag} {mg : Str → Option Value} {base : Heap} {C : Addr} {m x qual : Str} {st : Stmt} {ps N : List Str} {k : Nat} {sp : Sp}
theorem MetAt.met (D : MetAt K C m qual st ps) (cl : Cls K C) (S : FnScope N ps (defScope st)) (len : ∀ vs H Q E, sp vs H Q E → vs.length = ps.length)
    (hb : ∀ (f : Addr) (cdv : Value) (A : Around) (outer : List Env) (s : Shared) (H : Hp) (vs : List V) (Q : VK) (E : XK), Room k (A.deeper (envOfC qual (defScope st) s.heap.objs.size f cdv)) → sp vs H Q E →
      ∃ t, PSs (cxOf CX0 P w K mg base N qual (defScope st) f cdv A outer s H E).nox (defBody st) t ∧ t { nx := fun _ H' => Q .non H', rt := Q } (start N vs) H) : Met P w K mg base (k + 1) C m sp := by
  obtain ⟨f, fd, F, hm, b⟩ := D.ex
  exact ⟨f, fd, ps, cl, hm, F.ok S len fun cdv A outer s H vs Q E => hb f cdv A outer s H vs Q E, b⟩
end
/-- a class's __init__ of the text -/
structure IniAt (K : PySem.W.Frag) (mg : Str → Option Value) (C : Addr) (x qual : Str) (st : Stmt) (ps : List Str) : Prop where
  ex : ∃ (f : Addr) (fd : FuncData), Fun K "__init__" qual st f fd ∧ Mk K C f ∧ mg x = some (.ref C) ∧ L2.Binds K fd ps []
/-- a property of the text -/
structure PrpAt (K : PySem.W.Frag) (C : Addr) (m qual : Str) (st : Stmt) (ps : List Str) : Prop where
  ex : ∃ (f p : Addr) (fd : FuncData), Fun K m qual st f fd ∧ PropOf K C m p f ∧ L2.Binds K fd ps []
section
variable {P : Program} {w : World} {K : PySem.W.Frag} {mg : Str → Option Value} {base : Heap} {C : Addr} {m x qual : Str} {st : Stmt} {ps N : List Str} {k : Nat} {sp : Sp}
theorem IniAt.mak (D : IniAt K mg C x qual st ps) (S : FnScope N ps (defScope st)) (len : ∀ vs H Q E, sp vs H Q E → vs.length = ps.length)
    (hb : ∀ (f : Addr) (cdv : Value) (A : Around) (outer : List Env) (s : Shared) (H : Hp) (vs : List V) (Q : VK) (E : XK), Room k (A.deeper (envOfC qual (defScope st) s.heap.objs.size f cdv)) → sp vs H Q E →
      ∃ t, PSs (cxOf CX0 P w K mg base N qual (defScope st) f cdv A outer s H E).nox (defBody st) t ∧ t { nx := fun _ H' => Q .non H', rt := Q } (start N vs) H) : Mak P w K mg base (k + 1) x C sp := by
  obtain ⟨f, fd, F, hm, hg, b⟩ := D.ex
  exact ⟨f, fd, ps, hm, F.ok S len fun cdv A outer s H vs Q E => hb f cdv A outer s H vs Q E, hg, b⟩
theorem PrpAt.prp (D : PrpAt K C m qual st ps) (cl : Cls K C) (S : FnScope N ps (defScope st)) (len : ∀ vs H Q E, sp vs H Q E → vs.length = ps.length)
    (hb : ∀ (f : Addr) (cdv : Value) (A : Around) (outer : List Env) (s : Shared) (H : Hp) (vs : List V) (Q : VK) (E : XK), Room k (A.deeper (envOfC qual (defScope st) s.heap.objs.size f cdv)) → sp vs H Q E →
      ∃ t, PSs (cxOf CX0 P w K mg base N qual (defScope st) f cdv A outer s H E).nox (defBody st) t ∧ t { nx := fun _ H' => Q .non H', rt := Q } (start N vs) H) : Prp P w K mg base (k + 1) C m sp := by
  obtain ⟨f, p, fd, F, hm, b⟩ := D.ex
  exact ⟨f, p, fd, ps, cl, hm, F.ok S len fun cdv A outer s H vs Q E => hb f cdv A outer s H vs Q E, b⟩
end
/-- all but o stands -/
def But (o : Addr) (H H' : Hp) : Prop := ∀ b u, b ≠ o → H b = some u → H' b = some u
theorem But.refl (o : Addr) (H : Hp) : But o H H := fun _ _ _ h => h
theorem But.trans {o : Addr} {H H1 H2 : Hp} (a : But o H H1) (b : But o H1 H2) : But o H H2 := fun c u n h => b c u n (a c u n h)
theorem But.of {o : Addr} {H H1 : Hp} (s : Same H H1) : But o H H1 := fun b u _ h => s b u h
theorem But.put {o : Addr} {H : Hp} {u : HO} : But o H (upd H o u) := fun b x n h => by
  rw [upd_ne n]
  exact h
theorem But.seq {K : PySem.W.Frag} {o a : Addr} {H H' : Hp} {xs : List V} (b : But o H H') (n : a ≠ o) (h : H a = some (.lst xs)) : SqL K H' a xs := seqL_of (b a _ n h)
theorem Sep.but {R : Rg} {G H H' : Hp} {o : Addr} {u u' : HO} (s : Sep R G H) (h : G o = some u) (b : But o H H') (e : H' o = some u') : Sep R (upd G o u') H' := by
  have no : ∀ a, R.S a → a ≠ o := fun a ha z => by
    have q := s.off a ha
    rw [z, h] at q
    cases q
  refine ⟨R.loc H _ (fun a ha => ?_) s.inv, fun c x q => ?_, fun a ha => by rw [upd_ne (no a ha)]; exact s.off a ha⟩
  · cases q : H a with
    | none => exact absurd q (R.has H a s.inv ha)
    | some z => exact b a z (no a ha) q
  · by_cases hc : c = o
    · rw [hc, upd_same] at q
      rw [hc, e]
      exact q
    · rw [upd_ne hc] at q
      exact b c x hc (s.same c x q)

theorem Sep.add {R : Rg} {G0 H0 G H : Hp} {l : Addr} {u : HO} (s0 : Sep R G0 H0) (n : H0 l = none) (s : Sep R G H) (e : H l = some u) : Sep R (upd G l u) H := by
  have nl : ∀ a, R.S a → a ≠ l := fun a ha z => R.has H0 a s0.inv ha (by rw [z]; exact n)
  refine ⟨s.inv, fun b x q => ?_, fun a ha => by rw [upd_ne (nl a ha)]; exact s.off a ha⟩
  by_cases hb : b = l
  · rw [hb, upd_same] at q
    rw [hb, e]
    exact q
  · rw [upd_ne hb] at q
    exact s.same b x q

/-! ## calls by keywords alone -/
/-- a def called with the keywords ks alone: sp speaks of their values -/
structure CalK (P : Program) (w : World) (K : PySem.W.Frag) (mg : Str → Option Value) (base : Heap) (k : Nat) (x : Str) (ks : List Str) (sp : Sp) : Prop where
  ex : ∃ (f : Addr) (fd : FuncData) (ps : List Str) (spf : Sp) (g : List Value → List Value → List Value) (gV : List V → List V → List V),
    FnOk P w K mg base CX0 k f fd ps spf ∧ mg x = some (.ref f) ∧ PySem.W.keepIn K (.ref f) = true ∧ KBn K fd ps 0 ks g gV ∧ ∀ zs H Q E, sp zs H Q E → zs.length = ks.length ∧ spf (gV [] zs) H Q E
def tCk (sp : Sp) (tk : TA) : TE := fun σ H Q => tk σ H fun zs H1 => sp zs H1 Q E0
section
variable {X : Cx} {k j : Nat} {x : Str} {ks : List Str} {sp : Sp} {p pos : Pos} {kws : List Keyword} {tk : TA}
theorem pe_ck (c : CalK X.prog X.w X.K X.mg X.base k x ks sp) (hr : Room j X.A) (hk : k ≤ j) (hg : Gl X x) (hkw : PK X kws tk)
    (hall : (backToKw pos (keywordEach kws X.env)).all (·.1.isSome) = true := by rfl) (hks : (backToKw pos (keywordEach kws X.env)).filterMap (·.1) = ks := by rfl) (hdb : (x == ("__debug__" : Str)) = false := by decide)
    (hpl : ((backTo pos (starEach [] X.env)).any (·.1) || (backToKw pos (keywordEach kws X.env)).any (·.1.isNone)) = false := by rfl) : PE X (.Call (.Name x p) [] kws pos) (tCk sp tk) := by
  obtain ⟨f, fd, ps, spf, g, gV, F, hm, kp, hb, hs⟩ := c.ex
  refine ⟨fun pins s σ H Q I h => wpAny_Call_Name_kw (ld_glob I hg hm ?_ hdb)⟩
  refine PySem.W.callWith_KW0 (h₀ := X.base) I.ok.mod.kin kp hall (thn (hkw.run pos pins s σ H _ I h) fun ws s1 hx => ?_) hpl
  obtain ⟨zs, H1, I1, rz, q⟩ := hx
  obtain ⟨lz, q⟩ := hs _ _ _ _ q
  refine ⟨I1.kIn, ?_⟩
  rw [hks]
  exact run_fnN F (hr.mono hk) hb pass0 I1 .nil rz rfl lz q
end

/-! ## a def with defaults, called by place or by keywords -/
section
variable {P : Program} {w : World} {K : PySem.W.Frag} {mg : Str → Option Value} {base : Heap} {x qual : Str} {pms : Arguments} {body : List Stmt} {sc : Scope} {dvs : List V} {f : Addr} {fd : FuncData} {ps ks : List Str}
/-- all parameters by keywords; g brings the values in the parameters' order -/
theorem kbn_dflt (F : FunD K x qual pms body sc dvs [] f fd) (hd : dvs ≠ []) (g : {α : Type} → List α → List α) (hg : ∀ {vs : List V} {us : List Value}, Vals vs us → Vals (g vs) (g us))
    (h : ∀ (T : Addr) (kV doc pm : Value) (an : Option Addr) (cdv ct : Value) (ws its : List Value), ws.length = ks.length → its.length = dvs.length →
      ∃ k, bindArgs (PySem.W.fnOf x qual pms body sc (.ref T) kV doc pm an cdv ct) ⟨[], ks.zip ws⟩ = seqItems? (.ref T) >>= k ∧ k (some its.toArray) = pure (ps.zip (g ws))) : KBn K fd ps 0 ks (fun _ ws => g ws) (fun _ zs => g zs) := by
  obtain ⟨oc, od, dV, kV, doc, pm, an, cdv, ct, osl, rfl, lk, hcd, hD, hK⟩ := F.ex
  rcases hD with ⟨e, _⟩ | ⟨_, T, o, its, m, rfl, lT, oT, rT⟩
  · exact absurd e hd
  · refine ⟨fun s us ws X l1 l2 => ?_, fun r1 r2 => hg r2⟩
    cases us with
    | cons u us => cases l1
    | nil =>
      obtain ⟨k, e1, e2⟩ := h T kV doc pm an cdv ct ws its l2 rT.length.symm
      refine BindsTo.of_looks fun M => ?_
      rw [e1]
      exact looks_items X lT oT (.of_pure e2)
/-- .. of a def without defaults -/
theorem kbn_plain {st : Stmt} (F : Fun K x qual st f fd) (g : {α : Type} → List α → List α) (hg : ∀ {vs : List V} {us : List Value}, Vals vs us → Vals (g vs) (g us))
    (h : ∀ (kV doc pm : Value) (an : Option Addr) (cdv ct : Value) (ws : List Value), ws.length = ks.length →
      bindArgs (PySem.W.fnOf x qual (defArgs st) (defBody st) (defScope st) .none kV doc pm an cdv ct) ⟨[], ks.zip ws⟩ = pure (ps.zip (g ws))) : KBn K fd ps 0 ks (fun _ ws => g ws) (fun _ zs => g zs) := by
  obtain ⟨oc, od, kV, doc, pm, an, cdv, ct, osl, rfl, lk, hcd⟩ := F.ex
  refine ⟨fun s us ws X l1 l2 => ?_, fun r1 r2 => hg r2⟩
  cases us with
  | cons u us => cases l1
  | nil => exact .of_eq (h kV doc pm an cdv ct ws l2)
theorem calK_mk {k : Nat} {spf sp : Sp} {g : List Value → List Value → List Value} {gV : List V → List V → List V} (F : FnOk P w K mg base CX0 k f fd ps spf) (hm : mg x = some (.ref f)) (kp : PySem.W.keepIn K (.ref f) = true) (b : KBn K fd ps 0 ks g gV)
    (h : ∀ zs H Q E, sp zs H Q E → zs.length = ks.length ∧ spf (gV [] zs) H Q E) : CalK P w K mg base k x ks sp := ⟨f, fd, ps, spf, g, gV, F, hm, kp, b, h⟩
end
/-- a def without defaults that is called by place and by keywords -/
structure Def2 (P : Program) (w : World) (K : PySem.W.Frag) (mg : Str → Option Value) (base : Heap) (k : Nat) (x : Str) (st : Stmt) (ps : List Str) (sp : Sp) : Prop where
  ex : ∃ (f : Addr) (fd : FuncData), Fun K x x st f fd ∧ mg x = some (.ref f) ∧ Binds K fd ps [] ∧ FnOk P w K mg base CX0 k f fd ps sp
section
variable {P : Program} {w : World} {K : PySem.W.Frag} {mg : Str → Option Value} {base : Heap} {x : Str} {st : Stmt} {ps ks N : List Str} {k : Nat} {sp sp' : Sp}
theorem DefAt.two (D : DefAt K mg x st ps) (S : FnScope N ps (defScope st)) (len : ∀ vs H Q E, sp vs H Q E → vs.length = ps.length)
    (hb : ∀ (f : Addr) (cdv : Value) (A : Around) (outer : List Env) (s : Shared) (H : Hp) (vs : List V) (Q : VK) (E : XK), Room k (A.deeper (envOfC x (defScope st) s.heap.objs.size f cdv)) → sp vs H Q E →
      ∃ t, PSs (cxOf CX0 P w K mg base N x (defScope st) f cdv A outer s H E).nox (defBody st) t ∧ t { nx := fun _ H' => Q .non H', rt := Q } (start N vs) H) : Def2 P w K mg base (k + 1) x st ps sp := by
  obtain ⟨f, fd, F, hm, b⟩ := D.ex
  exact ⟨f, fd, F, hm, b, F.ok S len fun cdv A outer s H vs Q E => hb f cdv A outer s H vs Q E⟩
theorem Def2.cal (D : Def2 P w K mg base k x st ps sp) : Cal P w K mg base k x sp [] := by
  obtain ⟨f, fd, F, hm, b, ok⟩ := D.ex
  exact ⟨f, fd, ps, [], ok, hm, F.kp, b, .nil⟩
theorem Def2.calK (D : Def2 P w K mg base k x st ps sp) (g : {α : Type} → List α → List α) (hg : ∀ {vs : List V} {us : List Value}, Vals vs us → Vals (g vs) (g us))
    (h : ∀ (kV doc pm : Value) (an : Option Addr) (cdv ct : Value) (ws : List Value), ws.length = ks.length →
      bindArgs (PySem.W.fnOf x x (defArgs st) (defBody st) (defScope st) .none kV doc pm an cdv ct) ⟨[], ks.zip ws⟩ = pure (ps.zip (g ws))) (hs : ∀ zs H Q E, sp' zs H Q E → zs.length = ks.length ∧ sp (g zs) H Q E) : CalK P w K mg base k x ks sp' := by
  obtain ⟨f, fd, F, hm, b, ok⟩ := D.ex
  exact calK_mk ok hm F.kp (kbn_plain F g hg h) hs
end
theorem perm_sorted_eq : ∀ {xs ys : List Int}, xs.Perm ys → xs.Pairwise (· ≤ ·) → ys.Pairwise (· ≤ ·) → xs = ys
  | [], ys, p, _, _ => (List.nil_perm.mp p).symm
  | x :: r, [], p, _, _ => absurd (List.perm_nil.mp p) (by simp)
  | x :: r, y :: t, p, h1, h2 => by
    have a1 := (List.pairwise_cons.mp h1).1
    have a2 := (List.pairwise_cons.mp h2).1
    have m1 : x ∈ y :: t := p.mem_iff.mp (List.mem_cons_self ..)
    have m2 : y ∈ x :: r := p.mem_iff.mpr (List.mem_cons_self ..)
    have e : x = y := by
      rcases List.mem_cons.mp m1 with z | z
      · exact z
      · rcases List.mem_cons.mp m2 with z2 | z2
        · exact z2.symm
        · have := a1 y z2
          have := a2 x z
          omega
    subst e
    rw [perm_sorted_eq (List.Perm.cons_inv p) (List.pairwise_cons.mp h1).2 (List.pairwise_cons.mp h2).2]

/-! ## a law's end, of a law that may ask for repr -/
theorem law_endG {P : Program} {w : World} {K : PySem.W.Frag} {mg mb : Str → Option Value} {k : Nat} {fa a : Addr} {fd : FuncData} {x : Str} {sp : Sp} {s₁ : Shared} {vs : List Value} {ns : List Int}
    (KX : K.In s₁.heap) (hns : s₁.heap.Ns mainGlobals mg) (hb : s₁.heap.Ns builtinsNs mb) (hbb : ∀ x : Str, x ≠ "__name__" → mb x = bootBuiltins x) (hlim : s₁.heap.NoLimit) (hg : s₁.gens = #[])
    (ha : s₁.heap.get? a = some { cls := .type "list", data := .seq vs.toArray }) (hi : IntsAre vs ns) (hl : ns.length ≤ sizeLine) (hr : Room k callerA)
    (F : ∀ base : Heap, K.In base → base.Ns mainGlobals mg → FnG P w K mg base CX0 k fa fd [x] sp) (hbind : ∀ (s : Shared) (u : Value), BindsTo s fd ⟨[u], []⟩ [(x, u)])
    (hsp : ∀ H : Hp, Only H → SqL K H a (iv ns) → sp [.ref a] H (fun v _ => v = .bl true) fun _ _ _ => False) :
    codeAny (model P w) callerA (.call (.ref fa) ⟨[.ref a], []⟩) (fun r s' => r = .ok (.ret (.bool true)) ∧ OldK s₁.heap s'.heap ∧ s'.os = s₁.os ∧ AllBare s'.gens) s₁ := by
  have rel := vals_ints hi
  have same : ∀ H : Hp, Only H → SqL K H a (iv ns) → HOk P w H s₁.heap → (∀ b, H b ≠ none → b = a) → (H a ≠ none → K.lookup a = none) →
      codeAny (model P w) callerA (.call (.ref fa) ⟨[.ref a], []⟩) (fun r s' => r = .ok (.ret (.bool true)) ∧ OldK s₁.heap s'.heap ∧ s'.os = s₁.os ∧ AllBare s'.gens) s₁ := by
    intro H only sq hok at_a k_a
    have nonK : ∀ {b : Addr} {o : Obj}, K.lookup b = some o → H b = none := by
      intro b o e
      cases q : H b with
      | none => rfl
      | some u =>
        have z := at_a b (by rw [q]; simp)
        subst z
        rw [k_a (by rw [q]; simp)] at e
        cases e
    have nonD : ∀ {b : Addr} {o : Obj} {es : Array DictEntry} {ep : Nat}, s₁.heap.get? b = some o → o.data = .dict es ep → H b = none := by
      intro b o es ep e d
      cases q : H b with
      | none => rfl
      | some u =>
        have z := at_a b (by rw [q]; simp)
        subst z
        rw [ha] at e
        cases e
        cases d
    have nsB : ∀ {b : Addr} {m : Str → Option Value}, s₁.heap.Ns b m → (hidT s₁.heap H).Ns b m := by
      rintro b m ⟨o, es, ep, e, d, r⟩
      exact ⟨o, es, ep, hidT_get e (nonD e d), d, r⟩
    have kinB : K.In (hidT s₁.heap H) := fun b o e => hidT_get (KX b o e) (nonK e)
    have md : Mod K mg (hidT s₁.heap H) := by
      obtain ⟨mc, h1, h2⟩ := hlim
      exact ⟨kinB, nsB hns, ⟨mb, nsB hb, hbb⟩, ⟨mc, nsB h1, h2⟩⟩
    have noIn : ∀ b : Addr, b ∉ frs [] := fun b z => by cases z
    have env : Env0 P w K mg (hidT s₁.heap H) callerA [] s₁ H := ⟨rfl, md, fun b o e => of_hidT e, Nat.le_of_eq (hidT_size _ _), trivial, fun b z => absurd z (noIn b), hok, .of_eq hg⟩
    refine codeAny_mono ((F _ kinB (nsB hns)).run callerA [] s₁ H ⟨[.ref a], []⟩ [.ref a] [.ref a] _ _ hr rfl env (hbind s₁ (.ref a)) (.cons rfl .nil) (hsp H only sq)) fun r s' h => ?_
    cases r with
    | error e => exact False.elim h
    | ok fl =>
      cases fl with
      | next => exact False.elim h
      | brk => exact False.elim h
      | cont => exact False.elim h
      | ret u =>
        obtain ⟨v, H', os, bare, un, hok', rv, q⟩ := h
        have ev : v = .bl true := q
        subst ev
        have eu : u = Value.bool true := rv
        subst eu
        refine ⟨rfl, OldK.of_keep fun b o e => ?_, os, bare⟩
        cases q : H b with
        | none => exact un.keep b o e q (noIn b) (by simp)
        | some u =>
          rcases only b with z | ⟨ob, xs, z⟩
          · rw [q] at z
            cases z
          · obtain ⟨e1, _⟩ := hok b _ z
            obtain ⟨e2, _⟩ := hok' b _ (un.frzs b ob _ z)
            rw [e] at e1
            cases e1
            exact e2
  cases hk : K.lookup a with
  | some o =>
    have e := KX a o hk
    rw [ha] at e
    cases e
    refine same (fun _ => none) (fun _ => .inl rfl) (.inr ⟨_, vs.toArray, _, hk, rfl, rfl, rfl, ?_, by simpa using rel⟩) (fun b u z => ?_) (fun b z => absurd rfl z) fun z => absurd rfl z
    · rw [List.size_toArray, hi.length]
      exact hl
    · exact nomatch (show (none : Option HO) = some u from z)
  | none =>
    let H0 : Hp := fun b => if b = a then some (.frz { cls := .type "list", data := .seq vs.toArray } (.lst (iv ns))) else none
    have at1 : H0 a = some (.frz { cls := .type "list", data := .seq vs.toArray } (.lst (iv ns))) := if_pos rfl
    have at0 : ∀ b, b ≠ a → H0 b = none := fun b hb => if_neg hb
    refine same H0 (fun b => ?_) (.inl (.inr ⟨_, at1⟩)) (fun b u z => ?_) (fun b z => ?_) fun _ => hk
    · by_cases hb : b = a
      · exact .inr ⟨_, _, by rw [hb]; exact at1⟩
      · exact .inl (at0 b hb)
    · by_cases hb : b = a
      · subst hb
        rw [at1] at z
        cases z
        exact ⟨ha, by rw [iv_len]; exact hl, vs, _, rel, ha⟩
      · rw [at0 b hb] at z
        cases z
    · by_cases hb : b = a
      · exact hb
      · exact absurd (at0 b hb) z
theorem walk_ofG {l : PySem.W.OpenLaw} {n k : Nat} {q : Program} {loose : List Str} {XP : (Str → Option Value) → Heap → Prop} {YP : World → Heap → Prop} {d : DefRec} {K : Params → PySem.W.Frag} {sp : PySem.W.Frag → Sp} {x : Str}
    (hn : l.most = some n) (hn2 : n ≤ sizeLine) (hdf : d.params.defaults = []) (hr : Room k callerA) (hY : ∀ (w : World) (h : Heap), YP w h → (K w.params).In h)
    (F : ∀ (w : World) (mg : Str → Option Value) (fa : Addr) (h : Heap), (K w.params).In h → h.Ns mainGlobals mg → mg d.name = some (.ref fa) →
      ∃ fd : FuncData, (∀ (s : Shared) (u : Value), BindsTo s fd ⟨[u], []⟩ [(x, u)]) ∧
        ∀ base : Heap, (K w.params).In base → base.Ns mainGlobals mg → FnG l.prog w (K w.params) mg base CX0 k fa fd [x] (sp (K w.params)))
    (hsp : ∀ (K : PySem.W.Frag) (H : Hp) (a : Addr) (ns : List Int), ns.length ≤ n → SqL K H a (iv ns) → sp K [.ref a] H (fun v _ => v = .bl true) fun _ _ _ => False) :
    PySem.W.WalkO q loose XP YP l.row.toRowW d [] (fun f vs => PySem.call f vs) := by
  refine Att.attach_call hn hdf fun w s₀ s₁ mg mb fa o pm cd doc a vs ns G Y ho hd hcd hmg hobj hints hlen hg => ?_
  have KX := hY w _ Y
  obtain ⟨fd, hb, hF⟩ := F w mg fa _ KX G.T.g hmg
  exact law_endG KX G.T.g G.T.b G.T.builtins G.T.nolimit hg hobj hints (Nat.le_trans hlen hn2) hr hF hb fun H _ hS => hsp (K w.params) H a ns hlen hS

/-! ## a def of the text, out of what the top has written -/
theorem DefAt.mk1 {K : PySem.W.Frag} {h : Heap} {mg : Str → Option Value} {x : Str} {st : Stmt} {ps : List Str} {f : Addr} {od an : Option Addr} {sl : Array (Option Value)} {oc kV dc pm cd ct : Value} (X : K.In h) (G : h.Ns mainGlobals mg)
    (a : PySem.W.nsIn K mainGlobals x = some (some (.ref f))) (l : K.lookup f = some ⟨oc, od, .func (PySem.W.fnOf x x (defArgs st) (defBody st) (defScope st) .none kV dc pm an cd ct), sl⟩) (c : PySem.W.codeIn K cd x = true) (k : PySem.W.keepIn K (.ref f) = true)
    (hb : ∀ (kV doc pm : Value) (an : Option Addr) (cdv ct : Value) (us : List Value), us.length = ps.length → bindArgs (PySem.W.fnOf x x (defArgs st) (defBody st) (defScope st) .none kV doc pm an cdv ct) ⟨us, []⟩ = pure (ps.zip us)) : DefAt K mg x st ps :=
  ⟨f, _, fun_mk (st := st) l c k, PySem.W.mg_of X G a, (fun_mk (st := st) l c k).binds hb⟩
theorem cutD {p q : Prop} (h : p) (k : p → q) : q := k h
/-- a class: what its facts say -/
theorem cls_mk {K : PySem.W.Frag} {h : Heap} {mg : Str → Option Value} {x : Str} {C : Addr} (X : K.In h) (hC : mg x = some (.ref C)) (pg : PySem.W.plainGet K C Str.empty = true) (hd : PySem.W.hasDictIn K C = true) (po : PySem.W.plainOver K C = true) (sa : PySem.W.findIn K (.ref C) "__setattr__" = some (some (.builtin "object.__setattr__"))) : Cls K C := ⟨pg, hd, po, sa⟩
theorem noat_mk {K : PySem.W.Frag} {h : Heap} {mg : Str → Option Value} {x : Str} {C : Addr} {m : Str} (X : K.In h) (hC : mg x = some (.ref C)) (n : PySem.W.findIn K (.ref C) m = some none) : NoAttr K C m := n
theorem IniAt.mk1 {K : PySem.W.Frag} {h : Heap} {mg : Str → Option Value} {C : Addr} {x qual : Str} {st : Stmt} {ps : List Str} {f : Addr} {od an : Option Addr} {sl : Array (Option Value)} {oc kV dc pm cd ct : Value} (X : K.In h) (hm : mg x = some (.ref C))
    (a : PySem.W.findIn K (.ref C) "__init__" = some (some (.ref f))) (l : K.lookup f = some ⟨oc, od, .func (PySem.W.fnOf "__init__" qual (defArgs st) (defBody st) (defScope st) .none kV dc pm an cd ct), sl⟩) (c : PySem.W.codeIn K cd qual = true) (k : PySem.W.keepIn K (.ref f) = true)
    (mk : PySem.W.makesIn K C = true) (i : PySem.W.isFn K (.ref f) = true) (kc : PySem.W.keepIn K (.ref C) = true)
    (hb : ∀ (kV doc pm : Value) (an : Option Addr) (cdv ct : Value) (us : List Value), us.length = ps.length → bindArgs (PySem.W.fnOf "__init__" qual (defArgs st) (defBody st) (defScope st) .none kV doc pm an cdv ct) ⟨us, []⟩ = pure (ps.zip us)) : IniAt K mg C x qual st ps :=
  ⟨f, _, fun_mk (st := st) l c k, ⟨mk, a, i, kc⟩, hm, (fun_mk (st := st) l c k).binds hb⟩
theorem MetAt.mk1 {K : PySem.W.Frag} {h : Heap} {mg : Str → Option Value} {x : Str} {C : Addr} {m qual : Str} {st : Stmt} {ps : List Str} {f : Addr} {od an : Option Addr} {sl : Array (Option Value)} {oc kV dc pm cd ct : Value} (X : K.In h) (hC : mg x = some (.ref C))
    (a : PySem.W.findIn K (.ref C) m = some (some (.ref f))) (l : K.lookup f = some ⟨oc, od, .func (PySem.W.fnOf m qual (defArgs st) (defBody st) (defScope st) .none kV dc pm an cd ct), sl⟩) (c : PySem.W.codeIn K cd qual = true) (k : PySem.W.keepIn K (.ref f) = true) (i : PySem.W.isFn K (.ref f) = true)
    (hb : ∀ (kV doc pm : Value) (an : Option Addr) (cdv ct : Value) (us : List Value), us.length = ps.length → bindArgs (PySem.W.fnOf m qual (defArgs st) (defBody st) (defScope st) .none kV doc pm an cdv ct) ⟨us, []⟩ = pure (ps.zip us)) : MetAt K C m qual st ps :=
  ⟨f, _, fun_mk (st := st) l c k, ⟨a, i, k⟩, (fun_mk (st := st) l c k).binds hb⟩
theorem PrpAt.mk1 {K : PySem.W.Frag} {h : Heap} {mg : Str → Option Value} {x : Str} {C : Addr} {m qual : Str} {st : Stmt} {ps : List Str} {f p : Addr} {rest : List Value} {od an : Option Addr} {sl : Array (Option Value)} {oc kV dc pm cd ct : Value} (X : K.In h) (hC : mg x = some (.ref C))
    (a : PySem.W.findIn K (.ref C) m = some (some (.ref p))) (g : PySem.W.specialIn K (.ref p) "__get__" = some (some (.builtin "property.__get__"))) (t : PySem.W.takesIn K (.ref p) = some true) (r : PySem.W.recIn K p "property" = some (.ref f :: rest))
    (l : K.lookup f = some ⟨oc, od, .func (PySem.W.fnOf m qual (defArgs st) (defBody st) (defScope st) .none kV dc pm an cd ct), sl⟩) (c : PySem.W.codeIn K cd qual = true) (k : PySem.W.keepIn K (.ref f) = true)
    (hb : ∀ (kV doc pm : Value) (an : Option Addr) (cdv ct : Value) (us : List Value), us.length = ps.length → bindArgs (PySem.W.fnOf m qual (defArgs st) (defBody st) (defScope st) .none kV doc pm an cdv ct) ⟨us, []⟩ = pure (ps.zip us)) : PrpAt K C m qual st ps :=
  ⟨f, p, _, fun_mk (st := st) l c k, ⟨a, g, t, rest, r⟩, (fun_mk (st := st) l c k).binds hb⟩
theorem glob_mk {K : PySem.W.Frag} {h : Heap} {mg : Str → Option Value} {x : Str} {C : Addr} (X : K.In h) (G : h.Ns mainGlobals mg) (a : PySem.W.nsIn K mainGlobals x = some (some (.ref C))) : mg x = some (.ref C) := PySem.W.mg_of X G a
/-- a def with defaults -/
theorem funD_mk {K : PySem.W.Frag} {h : Heap} {mg : Str → Option Value} {x : Str} {st : Stmt} {dvs : List V} {f T : Addr} {o : Obj} {its : List Value} {n : Nat} {od an : Option Addr} {sl : Array (Option Value)} {oc kV dc pm cd ct : Value} (X : K.In h) (G : h.Ns mainGlobals mg)
    (a : PySem.W.nsIn K mainGlobals x = some (some (.ref f))) (l : K.lookup f = some ⟨oc, od, .func (PySem.W.fnOf x x (defArgs st) (defBody st) (defScope st) (.ref T) kV dc pm an cd ct), sl⟩) (c : PySem.W.codeIn K cd x = true) (k : PySem.W.keepIn K (.ref f) = true)
    (t : K.lookup T = some o) (e : o.data = .seq its.toArray n) (hv : Vals dvs its) (hd : dvs ≠ []) : FunD K x x (defArgs st) (defBody st) (defScope st) dvs [] f (PySem.W.fnOf x x (defArgs st) (defBody st) (defScope st) (.ref T) kV dc pm an cd ct) ∧ mg x = some (.ref f) :=
  ⟨⟨⟨oc, od, _, kV, dc, pm, an, cd, ct, sl, rfl, l, c, .inr ⟨hd, T, o, its, n, rfl, t, e, hv⟩, .inl rfl⟩, k⟩, PySem.W.mg_of X G a⟩
/-- the law's own def -/
theorem DefAt.law {K : PySem.W.Frag} {mg : Str → Option Value} {x : Str} {st : Stmt} {fa : Addr} {p : Str} (D : DefAt K mg x st [p]) (hfa : mg x = some (.ref fa))
    (hb : ∀ (kV doc pm : Value) (an : Option Addr) (cdv ct : Value) (us : List Value), us.length = 1 → bindArgs (PySem.W.fnOf x x (defArgs st) (defBody st) (defScope st) .none kV doc pm an cdv ct) ⟨us, []⟩ = pure ([p].zip us)) :
    ∃ fd : FuncData, Fun K x x st fa fd ∧ ∀ (s : Shared) (u : Value), BindsTo s fd ⟨[u], []⟩ [(p, u)] := by
  obtain ⟨f, fd, F, hm, b⟩ := D.ex
  rw [hfa] at hm
  cases hm
  obtain ⟨oc, od, kV, doc, pm, an, cdv, ct, osl, rfl, lk, hcd⟩ := F.ex
  exact ⟨_, F, fun s u => .of_eq (hb kV doc pm an cdv ct [u] rfl)⟩
end Sq

/-! the mathematics of replacements on lengths of runs -/
namespace Sq
def once (n k : Int) : Int := n / k + n % k
def sqz (n : Int) (row : List Int) : Int := row.foldl once n
def rb (R k : Int) : Int := if k > R + 1 then R else (R + 3 - k) * k - 2
def reachOf (row : List Int) (most : Int) : Int := row.foldr (fun k R => rb R k) most
abbrev Two (row : List Int) : Prop := ∀ k ∈ row, (2 : Int) ≤ k
def Mid (ns : List Int) : Prop := ∀ k ∈ ns, (2 : Int) ≤ k ∧ k < 2 ^ 240
theorem Mid.two {ns : List Int} (h : Mid ns) : Two ns := fun k hk => (h k hk).1
theorem sqz_cons (n k : Int) (r : List Int) : sqz n (k :: r) = sqz (once n k) r := rfl
theorem sqz_app (n : Int) (a b : List Int) : sqz n (a ++ b) = sqz (sqz n a) b := by simp [sqz, List.foldl_append]
theorem sqz_snoc (n k : Int) (a : List Int) : sqz n (a ++ [k]) = once (sqz n a) k := by rw [sqz_app]; rfl
theorem sqz_take {row : List Int} {n k : Int} {i : Nat} (h : row[i]? = some k) : sqz n (row.take (i + 1)) = once (sqz n (row.take i)) k := by
  rw [List.take_add_one, h]
  exact sqz_snoc _ _ _
theorem once_nn {n k : Int} (hn : 0 ≤ n) (hk : 2 ≤ k) : 0 ≤ once n k := by
  unfold once
  have h1 := Int.ediv_nonneg hn (by omega : (0 : Int) ≤ k)
  have h2 := Int.emod_nonneg n (by omega : k ≠ 0)
  omega
/-- quotient and rest -/
theorem qr (n : Int) {k : Int} (hk : 2 ≤ k) : ∃ q r, n = q * k + r ∧ 0 ≤ r ∧ r < k ∧ n / k = q ∧ n % k = r :=
  ⟨n / k, n % k, by have := Int.mul_ediv_add_emod n k; rw [Int.mul_comm] at this; omega, Int.emod_nonneg n (by omega), Int.emod_lt_of_pos n (by omega), rfl, rfl⟩
theorem qr_of {q r k : Int} (h0 : 0 ≤ r) (h1 : r < k) : (q * k + r) / k = q ∧ (q * k + r) % k = r := by
  have hk : k ≠ 0 := by omega
  constructor
  · rw [Int.add_comm, Int.add_mul_ediv_right _ _ hk, Int.ediv_eq_zero_of_lt h0 h1]; omega
  · rw [Int.add_comm, Int.add_mul_emod_self_right, Int.emod_eq_of_lt h0 h1]
theorem once_qr {q r k : Int} (h0 : 0 ≤ r) (h1 : r < k) : once (q * k + r) k = q + r := by
  obtain ⟨a, b⟩ := qr_of (q := q) h0 h1
  unfold once
  rw [a, b]
theorem once_le {n k : Int} (hn : 0 ≤ n) (hk : 2 ≤ k) : once n k ≤ n := by
  obtain ⟨q, r, e, h0, h1, e1, e2⟩ := qr n hk
  unfold once
  rw [e1, e2]
  have hq : 0 ≤ q := by rw [← e1]; exact Int.ediv_nonneg hn (by omega)
  have := Int.mul_le_mul_of_nonneg_left (by omega : (1 : Int) ≤ k) hq
  omega
theorem once_small {n k : Int} (hn : 0 ≤ n) (h : n < k) : once n k = n := by
  unfold once
  rw [Int.ediv_eq_zero_of_lt hn h, Int.emod_eq_of_lt hn h]
  omega
theorem once_pos {n k : Int} (hn : 1 ≤ n) (hk : 2 ≤ k) : 1 ≤ once n k := by
  obtain ⟨q, r, e, h0, h1, e1, e2⟩ := qr n hk
  unfold once
  rw [e1, e2]
  have hq : 0 ≤ q := by rw [← e1]; exact Int.ediv_nonneg (by omega) (by omega)
  rcases Int.lt_or_eq_of_le hq with h | h
  · omega
  · subst h; omega
theorem sqz_nn : ∀ {row : List Int} {n : Int}, 0 ≤ n → Two row → 0 ≤ sqz n row
  | [], n, h, _ => h
  | k :: r, n, h, t => sqz_nn (row := r) (once_nn h (t k (List.mem_cons_self ..))) fun j hj => t j (List.mem_cons_of_mem _ hj)
theorem sqz_le : ∀ {row : List Int} {n : Int}, 0 ≤ n → Two row → sqz n row ≤ n
  | [], n, h, _ => Int.le_refl n
  | k :: r, n, h, t => Int.le_trans (sqz_le (row := r) (once_nn h (t k (List.mem_cons_self ..))) fun j hj => t j (List.mem_cons_of_mem _ hj)) (once_le h (t k (List.mem_cons_self ..)))
theorem sqz_pos : ∀ {row : List Int} {n : Int}, 1 ≤ n → Two row → 1 ≤ sqz n row
  | [], n, h, _ => h
  | k :: r, n, h, t => sqz_pos (row := r) (once_pos h (t k (List.mem_cons_self ..))) fun j hj => t j (List.mem_cons_of_mem _ hj)
/-- one step of the reach -/
theorem rb_pos {R k : Int} (hR : 1 ≤ R) (hk : 2 ≤ k) : R ≤ rb R k := by
  unfold rb
  split
  · omega
  · rename_i h
    have e : (R + 3 - k) * k - 2 - R = (R + 1 - k) * (k - 1) + (k - 1) := by
      have e1 : R + 3 - k = (R + 1 - k) + 2 := by omega
      have e2 : k = (k - 1) + 1 := by omega
      rw [e1]
      have e3 : (R + 1 - k) * k = (R + 1 - k) * (k - 1) + (R + 1 - k) := by
        have := Int.mul_sub (R + 1 - k) k 1
        omega
      have e4 : (R + 1 - k + 2) * k = (R + 1 - k) * k + 2 * k := Int.add_mul _ _ _
      omega
    have := Int.mul_nonneg (by omega : (0 : Int) ≤ R + 1 - k) (by omega : (0 : Int) ≤ k - 1)
    omega
theorem rb_all {R k n : Int} (hR : 1 ≤ R) (hk : 2 ≤ k) (h0 : 0 ≤ n) (h : n ≤ rb R k) : once n k ≤ R := by
  unfold rb at h
  split at h
  · rw [once_small h0 (by omega)]; exact h
  · rename_i hh
    obtain ⟨q, r, e, h1, h2, e1, e2⟩ := qr n hk
    unfold once
    rw [e1, e2]
    have e3 : (R + 3 - k) * k = (R + 2 - k) * k + k := by
      have : R + 3 - k = (R + 2 - k) + 1 := by omega
      rw [this, Int.add_mul, Int.one_mul]
    rcases Int.lt_or_le q (R + 2 - k) with hq | hq
    · omega
    · rcases Int.lt_or_eq_of_le hq with hq | hq
      · have := Int.mul_le_mul_of_nonneg_right (by omega : R + 3 - k ≤ q) (by omega : (0 : Int) ≤ k)
        omega
      · subst hq
        omega
theorem rb_next {R k : Int} (hR : 1 ≤ R) (hk : 2 ≤ k) : once (rb R k + 1) k = R + 1 := by
  unfold rb
  split
  · rw [once_small (by omega) (by omega)]
  · have e3 : (R + 3 - k) * k - 2 + 1 = (R + 2 - k) * k + (k - 1) := by
      have : R + 3 - k = (R + 2 - k) + 1 := by omega
      rw [this, Int.add_mul, Int.one_mul]; omega
    rw [e3, once_qr (by omega) (by omega)]
    omega
theorem reach_pos : ∀ {row : List Int} {m : Int}, 1 ≤ m → Two row → m ≤ reachOf row m
  | [], m, _, _ => Int.le_refl m
  | k :: r, m, h, t => by
    have ih := reach_pos (row := r) h fun j hj => t j (List.mem_cons_of_mem _ hj)
    exact Int.le_trans ih (rb_pos (by omega) (t k (List.mem_cons_self ..)))
theorem reach_all : ∀ {row : List Int} {m n : Int}, 1 ≤ m → Two row → 0 ≤ n → n ≤ reachOf row m → sqz n row ≤ m
  | [], m, n, _, _, _, h => h
  | k :: r, m, n, h, t, h0, hn => by
    have t' : Two r := fun j hj => t j (List.mem_cons_of_mem _ hj)
    have hk := t k (List.mem_cons_self ..)
    have p := reach_pos h t'
    exact reach_all (row := r) h t' (once_nn h0 hk) (rb_all (by omega) hk h0 hn)
theorem reach_next : ∀ {row : List Int} {m : Int}, 1 ≤ m → Two row → sqz (reachOf row m + 1) row = m + 1
  | [], m, _, _ => rfl
  | k :: r, m, h, t => by
    have t' : Two r := fun j hj => t j (List.mem_cons_of_mem _ hj)
    have hk := t k (List.mem_cons_self ..)
    have p := reach_pos h t'
    show sqz (once (rb (reachOf r m) k + 1) k) r = m + 1
    rw [rb_next (by omega) hk]
    exact reach_next h t'
/-- the reach is where the first greater one stands -/
theorem reach_is {row : List Int} {m n : Int} (h : 1 ≤ m) (t : Two row) (h0 : 0 ≤ n) (hn : m < sqz n row) (ha : ∀ j, 0 ≤ j → j < n → sqz j row ≤ m) : reachOf row m = n - 1 := by
  have p := reach_pos h t
  rcases Int.lt_or_le (reachOf row m) n with a | a
  · rcases Int.lt_or_le (reachOf row m + 1) n with b | b
    · have := ha _ (by omega) b
      rw [reach_next h t] at this
      omega
    · omega
  · have := reach_all h t h0 a
    omega
theorem reach_mono {row : List Int} {m m' : Int} (h : 1 ≤ m) (hm : m ≤ m') (t : Two row) : reachOf row m ≤ reachOf row m' := by
  rcases Int.lt_or_le (reachOf row m') (reachOf row m) with a | a
  · have p := reach_pos (m := m') (by omega) t
    have := reach_all h t (n := reachOf row m' + 1) (by omega) (by omega)
    rw [reach_next (by omega) t] at this
    omega
  · exact a
end Sq


namespace Sq
open PySem PySem.Spec PyProof.Rows L2
/-! ## ranges of wide ints -/
theorem turn_wide {P : Program} {w : World} {K : PySem.W.Frag} {tg : Expr} (z : Addr) (lo : Int) (n : Nat) : Turn P w K tg (Itr lo n) [z] z (fun i h => IsLongIter h z (lo + (i : Nat) * 1) ((n : Int) - (i : Nat)) 1) := by
  refine ⟨List.mem_singleton.mpr rfl, fun i h st b hb => ?_, fun i h h2 st k => k z (List.mem_singleton.mpr rfl) _ st, ?_, ?_, fun A i s Q E st h => wpAny_pyIter_longiter st h⟩
  · rw [List.mem_singleton.mp hb]
    exact ⟨_, st, fun v c => by cases (show Data.fields _ = Data.cell v from c)⟩
  · rintro X rfl rfl rfl hc i pins s σ H E I hf st hg
    have f := hf z (List.mem_singleton.mpr rfl)
    refine (Walks.longrange (prog := X.prog) (w := X.w) (I.ok.hd hc) z lo 1 n).item i s _ _ hg st fun v h2 tk hv st2 kk => ?_
    obtain ⟨t, rfl⟩ := hv
    have J : Inv X pins σ H { s with heap := h2, toks := tk } := I.turned (fun b o hb e => kk b o (fun m => hb (List.mem_singleton.mp m)) e) f.1 f.2.1 f.2.2.2.1 f.2.2.2.2.1 f.2.2.2.2.2
    refine ⟨_, rfl, go_of (s := { s with heap := h2, toks := tk }) (n := "longrange_iterator") st2 rfl rfl (by decide) ⟨.int (lo + i), H, J, ⟨t, by rw [Int.mul_one]⟩, ⟨rfl, rfl⟩, st2, fun b hb => (hf b hb).1⟩⟩
  · rintro X rfl rfl rfl hc i pins s σ H E I hf st hg
    have f := hf z (List.mem_singleton.mpr rfl)
    have m : n ≤ i := hg
    exact wpAny_pyNext_long_end (I.ok.hd hc) st (by omega) fun h2 k => ⟨rfl, I.turned (t' := s.toks) (fun b o hb e => k b o hb e) f.1 f.2.1 f.2.2.2.1 f.2.2.2.2.1 f.2.2.2.2.2⟩
section
variable {X : Cx} {tg a b : Expr} {t : TA} {p pos : Pos}
theorem rsz (lo hi : Int) : Builtin.Range.rangeSize lo hi 1 = ((hi - lo).toNat : Int) := by
  rw [rangeSize_one]
  split <;> omega
theorem wide_it {pins : List (Addr × Obj)} {σ : L2.St} {H : Hp} {s : Shared} {R : It → Hp → Prop} {E : Value → Shared → Prop} {lo hi : Int} {t u v : Tok} {tk : Nat} (I : Inv X pins σ H s) (q : R (Itr lo (hi - lo).toNat) H) :
    wpAny (model X.prog X.w) X.A (pyIter (.ref s.heap.objs.size)) (PIE X pins σ tg R) E { s with heap := s.heap.push { cls := .type "range", data := .fields #[.int lo t, .int hi u, .int 1 v] }, toks := tk } := by
  have J : Inv X pins σ H { s with heap := s.heap.push { cls := .type "range", data := .fields #[.int lo t, .int hi u, .int 1 v] }, toks := tk } := I.kept fun b o e => Heap.get?_push_of_some _ e
  have z0 : lo + ((0 : Nat) : Int) * 1 = lo := by omega
  have z1 : (((hi - lo).toNat : Nat) : Int) - ((0 : Nat) : Int) = Builtin.Range.rangeSize lo hi 1 := by
    rw [rsz]
    omega
  by_cases sm : Builtin.Range.small lo hi 1 = true
  · refine wpAny_pyIter_range (IsRange.new ..) sm ⟨(s.heap.push { cls := .type "range", data := .fields #[.int lo t, .int hi u, .int 1 v] }).objs.size, [(s.heap.push { cls := .type "range", data := .fields #[.int lo t, .int hi u, .int 1 v] }).objs.size], _, _, H, rfl,
      J.kept (t' := tk) fun b o e => Heap.get?_push_of_some _ e, turn_range _ lo (hi - lo).toNat, ?_, fun b hb => ?_, q⟩
    · show IsRangeIter _ _ (lo + ((0 : Nat) : Int) * 1) ((((hi - lo).toNat : Nat) : Int) - ((0 : Nat) : Int)) 1
      rw [z0, z1]
      exact Heap.get?_push_size _ rfl
    · rw [List.mem_singleton.mp hb]
      exact J.fpOk (Nat.le_refl _) (J.hok.fresh (Nat.le_refl _))
  · refine wpAny_pyIter_longrange (IsRange.new ..) (Bool.not_eq_true _ ▸ sm) ⟨(s.heap.push { cls := .type "range", data := .fields #[.int lo t, .int hi u, .int 1 v] }).objs.size, [(s.heap.push { cls := .type "range", data := .fields #[.int lo t, .int hi u, .int 1 v] }).objs.size], _, _, H, rfl,
      J.kept (t' := tk) fun b o e => Heap.get?_push_of_some _ e, turn_wide _ lo (hi - lo).toNat, ?_, fun b hb => ?_, q⟩
    · show IsLongIter _ _ (lo + ((0 : Nat) : Int) * 1) ((((hi - lo).toNat : Nat) : Int) - ((0 : Nat) : Int)) 1
      rw [z0, z1]
      exact Heap.get?_push_size _ rfl
    · rw [List.mem_singleton.mp hb]
      exact J.fpOk (Nat.le_refl _) (J.hok.fresh (Nat.le_refl _))
def iRngW (t : TA) : TI := fun σ H R => t σ H fun vs H1 => ∃ i j : Int, vs = [.int i, .int j] ∧ R (Itr i (j - i).toNat) H1
theorem pi_range2W (hg : Gl X "range") (hm : X.mg "range" = none) (ha : PA X [a, b] t) (h1 : starEach [a, b] X.env = [(false, eval a X.env), (false, eval b X.env)] := by rfl) (h2 : starEach [b] X.env = [(false, eval b X.env)] := by rfl) :
    PI X tg (.Call (.Name "range" p) [a, b] [] pos) (iRngW t) := by
  refine ⟨fun pins s σ H R I h => Call_ (ld_blt I hg hm boot_range (PyProof.Rows.callWith_type1 (thn (ha.run pos pins s σ H _ I h) fun us s1 hx => ?_) (by rw [h1, h2]) (by rw [h2]; rfl)))⟩
  obtain ⟨vs, H1, J, r, i, j, rfl, q⟩ := hx
  obtain ⟨u, v, rfl, ⟨c, rfl⟩, ⟨d, rfl⟩⟩ : ∃ u v, us = [u, v] ∧ RelV (.int i) u ∧ RelV (.int j) v := by
    cases r with
    | cons r1 r => cases r with
      | cons r2 r => cases r; exact ⟨_, _, rfl, r1, r2⟩
  exact call_range_2 (wide_it J q)
end
/-! ## parts of a list -/
theorem cut_from (xs : List V) (k : Nat) : cutV xs (some (k : Int)) none = xs.drop k := by
  unfold cutV
  rw [HT.sIx_nat, HT.sIx_none]
  rcases Nat.le_total k xs.length with h | h
  · rw [Nat.min_eq_left h]
    exact List.take_of_length_le (by rw [List.length_drop]; omega)
  · rw [Nat.min_eq_right h, List.drop_eq_nil_of_le (Nat.le_refl _), List.drop_eq_nil_of_le h]
    simp
theorem cut_to (xs : List V) (k : Nat) : cutV xs none (some (k : Int)) = xs.take k := by
  unfold cutV
  rw [HT.sIx_nat, HT.sIx_none, List.drop_zero, Nat.sub_zero]
  rcases Nat.le_total k xs.length with h | h
  · rw [Nat.min_eq_left h]
  · rw [Nat.min_eq_right h, List.take_of_length_le (Nat.le_refl _), List.take_of_length_le h]
theorem cut_mid (xs : List V) (j k : Nat) : cutV xs (some (j : Int)) (some (k : Int)) = (xs.drop j).take (k - j) := by
  unfold cutV
  rw [HT.sIx_nat, HT.sIx_nat]
  rcases Nat.le_total j xs.length with h | h
  · rw [Nat.min_eq_left h]
    rcases Nat.le_total k xs.length with h2 | h2
    · rw [Nat.min_eq_left h2]
    · rw [Nat.min_eq_right h2, List.take_of_length_le (by rw [List.length_drop]; omega), List.take_of_length_le (by rw [List.length_drop]; omega)]
  · rw [Nat.min_eq_right h, List.drop_eq_nil_of_le (Nat.le_refl _), List.drop_eq_nil_of_le h]
    simp
theorem iv_drop (ns : List Int) (k : Nat) : (iv ns).drop k = iv (ns.drop k) := by simp
theorem iv_take (ns : List Int) (k : Nat) : (iv ns).take k = iv (ns.take k) := by simp
/-! ## a op b op c op d -/
def tChain3 (r r' r'' : R2) (ta tb tc td : TE) : TE := fun σ H Q => ta σ H fun x H1 => tb σ H1 fun y H2 => r x y H2 fun z H3 => ∃ k, z = .bl k ∧
  (if k = true then tc σ H3 fun v H4 => r' y v H4 fun z' H5 => ∃ k', z' = .bl k' ∧ (if k' = true then td σ H5 fun u H6 => r'' v u H6 Q else Q (.bl false) H5) else Q (.bl false) H3)
section
variable {X : Cx} {a b c d : Expr} {ta tb tc td : TE} {pos : Pos} {op op' op'' : CmpOp} {r r' r'' : R2}
theorem pt_chain3 (h1 : OpR X (compareOp op) r) (h2 : OpR X (compareOp op') r') (h3 : OpR X (compareOp op'') r'') (ha : PE X a ta) (hb : PE X b tb) (hc : PE X c tc) (hd : PE X d td)
    (hm : lastMarks [op, op', op''] [b, c, d] = false := by with_unfolding_all rfl) : PT X (.Compare a [op, op', op''] [b, c, d] pos) (tTest (tChain3 r r' r'' ta tb tc td)) := by
  refine ⟨fun pins s σ H Q I h => isTrue_chain (thn (ha.run pins s σ H _ I h) fun v s1 ⟨x, H1, I1, r1, q1⟩ => test_link (thn (hb.run pins s1 σ H1 _ I1 q1) fun u s2 ⟨y, H2, I2, r2, q2⟩ =>
    thn (h1 pins s2 σ H2 x y v u _ I2 r1 r2 q2) fun e s3 ⟨z, H3, I3, r3, k, ez, q3⟩ => ?_)) hm⟩
  subst ez
  cases r3
  refine wpAny_truthy_bool ?_
  cases k with
  | false =>
    obtain ⟨k2, e2, q2⟩ := q3
    cases e2
    exact ite_ff ⟨H3, I3, q2⟩
  | true =>
    refine ite_tt (test_link (thn (hc.run pins s3 σ H3 _ I3 q3) fun w4 s4 ⟨y4, H4, I4, r4, q4⟩ => thn (h2 pins s4 σ H4 y y4 u w4 _ I4 r2 r4 q4) fun e5 s5 ⟨z5, H5, I5, r5, k5, e5', q5⟩ => ?_))
    subst e5'
    cases r5
    refine wpAny_truthy_bool ?_
    cases k5 with
    | false =>
      obtain ⟨k2, e2, q2⟩ := q5
      cases e2
      exact ite_ff ⟨H5, I5, q2⟩
    | true =>
      refine ite_tt (test_last (thn (hd.run pins s5 σ H5 _ I5 q5) fun w6 s6 ⟨y6, H6, I6, r6, q6⟩ => thn (h3 pins s6 σ H6 y4 y6 w4 w6 _ I6 r4 r6 q6) fun e7 s7 ⟨z7, H7, I7, r7, k7, e7', q7⟩ => ?_))
      subst e7'
      cases r7
      exact wpAny_truthy_bool ⟨H7, I7, q7⟩
end
end Sq


set_option Elab.async false
set_option maxRecDepth 100000
set_option maxHeartbeats 4000000
namespace Sq
open PySem PySem.Spec PyProof.Rows L2
/-! ## an own exception's __init__(self, value): super().__init__(text); self.value = value -/
section
open PySem.W PySem.Calls
variable {prog : Program} {w : World} {A : Around} {E : Value → Shared → Prop} {h : Heap} {g : Array GenState} {d : Drawn} {t : Nat} {os : OsState}
variable {nm q : Str} {C N : Addr} {bs bm : List Value} {hdct : Bool} {sn : List Str} {sub : List Value} {ab : Bool} {col : Option Bool} {dd : Option Addr} {k0 k1 k2 k3 k5 : Option Value}
/-- ValueError.__init__, bound to e, called -/
theorem call_vw {u e t0 : Addr} {rest : List Value} {Q : Value → Shared → Prop}
    (hC : h.get? C = some (excClassObj nm q C N bs bm hdct sn sub ab col dd k0 k1 k2 k3 k5 "ValueError.__new__")) (he : h.get? e = some (HandSPX.excO C t0)) (hu : h.get? u = some (kxs_mw "ValueError.__init__" e)) (hrest : rest.length ≤ sizeLine)
    (hq : ∀ h' t1, (∀ b o, b ≠ e → h.get? b = some o → h'.get? b = some o) → h'.get? e = some (HandSPX.excO C t1) → Q .none ⟨h', g, d, t, os⟩) :
    wpAny (model prog w) A (call (.ref u) rest) Q E ⟨h, g, d, t, os⟩ := by
  refine wpAny_call (codeAny_of_tree ?_)
  show wpAny _ A.in1 (callAny (.ref u) ⟨rest, []⟩) _ _ _
  simp only [callAny]
  refine wpAny_bind (wpAny_load hu ?_)
  simp only [kxs_mw, show (Value.type "method-wrapper" == Value.type "method" || Value.type "method-wrapper" == Value.type "builtin_function_or_method" || Value.type "method-wrapper" == Value.type "method-wrapper") = true by decide, if_true]
  refine W.KFB.if_so (by decide) ?_
  refine wpAny_bind (check_bound_init F.excBase_ValueError.toExcCallFacts hC he rfl ?_)
  refine wpAny_bind (wpAny_pure (wpAny_pure ⟨Code.quiet_builtin _ (by decide +kernel), codeAny_builtin F.excBase_ValueError.initEntry ?_⟩))
  exact exc_init_tree (cls := .ref C) (t0 := t0) (dv := none) (c2 := .none) (c3 := .none) (b4 := .bool false) he hrest fun h' k e' _ => hq h' h.objs.size k e'
end

def spXI (C : Addr) : Sp := fun vs H Q _ => ∃ (a : Addr) (v : V), vs = [.ref a, v] ∧ H a = some (exo a C none) ∧ ∀ dx, H dx = none → dx ≠ a → Q .non (upd (upd H dx (exd dx [("value", v)])) a (exo a C (some dx)))
/-- what the written part says of such an __init__ -/
structure XIn (P : Program) (K : PySem.W.Frag) (C f cc cda : Addr) (qual file : Str) : Prop where
  code : PySem.W.codeIn K (.ref cda) qual = true
  cell : ∃ cl cld csl, K.lookup cc = some ⟨cl, cld, .cell (some (.ref C)), csl⟩
  rec_ : ∃ ccl cdd vs ccs tf, K.lookup cda = some ⟨ccl, cdd, .fields vs, ccs⟩ ∧ vs[2]? = some (.str file tf)
  file : ((P.main.file : Str) == file) = true
  top : (P.main.scope.names.lookup ("super" : Str)).isSome = false
  opq : PySem.W.nsIn K PySem.cStatics "thirdparty.any" = some none
  sup : PySem.W.ks_superIn K C C "__init__" = some (some (.builtin "ValueError.__init__"))
  veb : PySem.W.subIn K (.ref C) (.type "ValueError") = some true
  self : PySem.W.mroIn K C (.ref C) = some true
  val : PySem.W.findIn K (.ref C) "value" = some none
abbrev xiScope : Scope := ⟨.function, [("self", .local), ("value", .local), ("__class__", .free), ("super", .globalImplicit)], false, false, []⟩
abbrev xiArgs (q0 q1 : Pos) : Arguments := { posonlyargs := [], args := [{ arg := "self", annotation := none, pos := q0 }, { arg := "value", annotation := none, pos := q1 }], vararg := none, kwonlyargs := [], kw_defaults := [], kwarg := none, defaults := [] }
abbrev xiBody (m : Str) (p0 p1 p2 p3 p4 p5 p6 p7 p8 p9 : Pos) : List Stmt := [.Expr (.Call (.Attribute (.Call (.Name "super" p0) [] [] p1) "__init__" p2) [.Constant (.str m) 0 p3] [] p4) p5, .Assign [.Attribute (.Name "self" p6) "value" p7] (.Name "value" p8) p9]
theorem xi_S : NdefX.NScope ["self", "value", "__class__"] ["self", "value"] ["__class__"] xiScope := NdefX.nscope_by (by decide +kernel)
/-- how the call of super().__init__ begins (by rfl, once the places are known) -/
def XiCall (qual : Str) (f cc cda : Addr) (m : Str) (p0 p1 p2 p3 p4 : Pos) : Prop := ∀ L : Addr, eval (.Call (.Attribute (.Call (.Name "super" p0) [] [] p1) "__init__" p2) [.Constant (.str m) 0 p3] [] p4) (PySem.W.ksEnv qual xiScope L f (.ref cda) cc) = (do
  let ov ← attributeBase (.Call (.Name "super" p0) [] [] p1) "__init__" (PySem.W.ksEnv qual xiScope L f (.ref cda) cc) (eval (.Call (.Name "super" p0) [] [] p1) (PySem.W.ksEnv qual xiScope L f (.ref cda) cc))
  standAt p2.atName
  let (g, first) ← holding [ov] (getMethod ov "__init__" (do return (← importBound (.Call (.Name "super" p0) [] [] p1) (PySem.W.ksEnv qual xiScope L f (.ref cda) cc)).getD true))
  callWith p4 g first (backTo p4 (starEach [.Constant (.str m) 0 p3] (PySem.W.ksEnv qual xiScope L f (.ref cda) cc))) [])
theorem ok_xi {P : Program} {w : World} {K : PySem.W.Frag} {mg : Str → Option Value} {base : Heap} {CX : CXT} {k : Nat} {C f cc cda : Addr} {qual file : Str} {kV doc pm ct oc : Value} {an od : Option Addr} {osl : Array (Option Value)}
    {p0 p1 p2 p3 p4 p5 p6 p7 p8 p9 q0 q1 : Pos} {m : Str} (T : OexC K C) (XI : XIn P K C f cc cda qual file)
    (lk : K.lookup f = some ⟨oc, od, .func (PySem.W.ksFn "__init__" qual (xiArgs q0 q1) (xiBody m p0 p1 p2 p3 p4 p5 p6 p7 p8 p9) xiScope .none kV doc pm an (.ref cda) ct cc), osl⟩) (hms : mg "super" = none) (he : XiCall qual f cc cda m p0 p1 p2 p3 p4) :
    FnOk P w K mg base CX (k + 1) f (PySem.W.ksFn "__init__" qual (xiArgs q0 q1) (xiBody m p0 p1 p2 p3 p4 p5 p6 p7 p8 p9) xiScope .none kV doc pm an (.ref cda) ct cc) ["self", "value"] (spXI C) := by
  refine ⟨fun vs H Q E h => by obtain ⟨a, v, rfl, _⟩ := h; rfl, fun A outer s H args us vs Q E hr e0 hbind r hsp => ?_⟩
  obtain ⟨a, v, rfl, ha, hq⟩ := hsp
  have KX : K.In s.heap := e0.mod.kin.keeps fun b o e => (e0.bs b o e).1
  have lim : s.heap.NoLimit := e0.mod.nolimit.keeps fun b o e => (e0.bs b o e).1
  obtain ⟨cl, cld, csl, hcell⟩ := XI.cell
  obtain ⟨ccl, cdd, cvs, ccs, tf, hcode, hvs⟩ := XI.rec_
  refine PySem.ks_codeAny_call_defAt (binds := (["self", "value"] : List Str).zip us) hr.depth (KX _ _ lk) rfl lim (PySem.W.codeRec_of KX XI.code) rfl hbind xi_S.nocell (fun ⟨n, _⟩ hy => xi_S.par n (List.of_mem_zip hy).1) (fun h1 hns kp => ?_) xi_S.co xi_S.gen xi_S.kind
  have S := xi_S
  let F : NdefX.NF := ⟨"__init__", qual, xiArgs q0 q1, xiBody m p0 p1 p2 p3 p4 p5 p6 p7 p8 p9, xiScope, [("__class__", cc)], cda⟩
  have cells : NdefX.CellsAt F.cl ["__class__"] [none] s.heap H := by
    have one : ∀ y c, F.cl.lookup y = some c → y = ("__class__" : Str) ∧ c = cc := fun y c e => by
      have e' : ([("__class__", cc)] : List (Str × Addr)).lookup y = some c := e
      by_cases z : y = ("__class__" : Str)
      · subst z
        simp [List.lookup] at e'
        exact ⟨rfl, e'.symm⟩
      · have z2 : (y == ("__class__" : Str)) = false := by simpa using z
        simp [List.lookup, z2] at e'
    refine ⟨rfl, fun y c e => ?_, fun x y c e1 e2 => ?_, fun i y e => ?_⟩
    · rw [(one y c e).2]
      exact ⟨(e0.bs _ _ (e0.mod.kin _ _ hcell)).2, _, ⟨_, KX _ _ hcell, rfl⟩⟩
    · rw [(one x c e1).1, (one y c e2).1]
    · cases i with
      | zero =>
        obtain rfl : ("__class__" : Str) = y := by simpa using e
        exact ⟨cc, by simp [F, List.lookup], fun v h => by simp at h⟩
      | succ i => simp at e
  have I : Inv (NdefX.ncx CX P w K mg base ["self", "value", "__class__"] F f A outer s H E) [] (NdefX.startF ["self", "value", "__class__"] [.ref a, v] [none]) H { s with heap := h1, toks := s.toks + ((["self", "value"] : List Str).zip us).length } :=
    NdefX.inv_startN (F := F) S hr.hd e0 rfl r cells hns kp
  have K1 : K.In h1 := KX.keeps kp
  show PySem.wpAt (model P w) (A.deeper (PySem.W.ksEnv qual xiScope s.heap.objs.size f (.ref cda) cc)) (.func (xiBody m p0 p1 p2 p3 p4 p5 p6 p7 p8 p9) (PySem.W.ksEnv qual xiScope s.heap.objs.size f (.ref cda) cc)) (execs (xiBody m p0 p1 p2 p3 p4 p5 p6 p7 p8 p9) (PySem.W.ksEnv qual xiScope s.heap.objs.size f (.ref cda) cc)) _ _ _
  refine ks_wpAt_execs_cons (ks_wpAt_Expr_any (ks_wpAt_MethodCall ?_ (he _)))
  refine ks_wpAt_super_base (env := NdefX.envF F f s.heap.objs.size) rfl rfl (by decide) rfl (K1 _ _ lk) rfl rfl rfl (K1 _ _ hcode) rfl hvs XI.file XI.top ?_
  obtain ⟨nm, q, N, bs, bm, sn, sub, ab, col, dd, k0, k1, k2, k3, k5, hC, hbm⟩ := T.cls
  have hcl : PySem.W.clsIn K C = some { name := nm, bases := bs, mro := .ref C :: bm, ns := N, qualname := q, hasDict := true, slotNames := sn, subclasses := sub, abstract := ab, collection := col, hasDel := false } := by unfold PySem.W.clsIn; rw [hC] <;> rfl
  obtain ⟨mb, hb1, hb2⟩ := I.mod.blt
  obtain ⟨t1, hoe⟩ := exo_at I.hok ha
  have hself : (((["self", "value"] : List Str).zip us).reverse.lookup ("self" : Str)) = some (Value.ref a) := by
    cases r with
    | cons r1 r => cases r with
      | cons r2 r =>
        cases r
        obtain rfl := r1
        rfl
  refine PySem.W.ks_loadName_global rfl rfl (Calls.loadGlobal_builtin (I.mod.glob.keeps I.bk) hms (hb1.keeps I.bk) ((hb2 _ (by decide)).trans PyProof.Rows.Boot.«super») ⟨rfl, ?_⟩)
  refine wpAny_loadName_free rfl rfl rfl ⟨_, K1 _ _ hcell, rfl⟩ ?_
  refine wpAny_loadName_local rfl rfl hns hself ?_
  refine ks_wpAny_isType_cls (K1 _ _ hC) rfl ⟨rfl, ?_⟩
  refine ks_wpAny_call_super (K1 _ _ hC) rfl hoe rfl (fun c e => by cases e) (PySem.W.looks_mroIn K1 XI.self) (fun h2 e2 kp2 => ?_)
  have I2 := I.kept (t' := s.toks + ((["self", "value"] : List Str).zip us).length) kp2
  have K2 : K.In h2 := K1.keeps kp2
  obtain ⟨t2, hoe2⟩ := exo_at I2.hok ha
  have at2 : PySem.W.InstAt h2 a { cls := .ref C, dict := none, data := .fields #[.ref t2, .none, .none, .none, .bool false, .none] } C none := ⟨hoe2, rfl, rfl, trivial⟩
  have hsup : PySem.W.alongIn K "__init__" (((.ref C :: bm).dropWhile (· != Value.ref C)).drop 1) = some (some (.builtin "ValueError.__init__")) := by
    have z := XI.sup
    unfold PySem.W.ks_superIn at z
    rw [hcl] at z
    exact z
  refine PySem.W.kxs_getMethod PySem.W.kxs_ValueError e2 (PySem.W.looks_opaque K2 XI.opq) (l₀ := .ref C :: bm) ((PySem.W.looks_clsIn K2 hcl).andThen .now) rfl K2 hsup (at2.type.andThen (PySem.W.looks_subIn K2 XI.veb)) (PySem.W.ks_ne K2 at2 hcl) (by decide) ?_
  have I3 := I2.kept (h' := h2.push (PySem.W.kxs_mw "ValueError.__init__" a)) (t' := s.toks + ((["self", "value"] : List Str).zip us).length + 1) fun b o e => Heap.get?_push_of_some _ e
  refine PySem.W.kxs_callWith (i := "ValueError.__init__") (x := a) rfl (Calls.evalArgs_plain (Calls.spliced_cons (Calls.Constant_str (pos := p3) (k := 0) (Calls.spliced_nil ⟨Heap.get?_push_at rfl rfl, ?_⟩))))
  have I4 := I3.tok (s.toks + ((["self", "value"] : List Str).zip us).length + 1 + 1)
  obtain ⟨t4, hoe4⟩ := exo_at I4.hok ha
  refine call_vw (t0 := t4) (Heap.get?_push_of_some _ (K2 _ _ hC)) hoe4 (Heap.get?_push_at rfl rfl) (by simp [sizeLine_eq]) fun h5 t5 k5 e5 => ?_
  have J0 := I4.write (h' := h5) (t' := s.toks + ((["self", "value"] : List Str).zip us).length + 1 + 1) (x := a) (e := a) (o := exo a C none) (by rw [ha]; exact True.intro) (.inl rfl) k5 ⟨_, e5⟩ (exo_ok e5)
  have eu : upd H a (exo a C none) = H := by
    funext b
    by_cases hb : b = a
    · rw [hb, upd_same, ha]
    · rw [upd_ne hb]
  rw [eu] at J0
  show PySem.wpAt _ _ _ (execs [.Assign [.Attribute (.Name "self" p6) "value" p7] (.Name "value" p8) p9] _) _ _ _
  refine wpAt_of_wpAny ?_
  have pst : PSs (NdefX.ncx CX P w K mg base ["self", "value", "__class__"] F f A outer s H E) [.Assign [.Attribute (.Name "self" p6) "value" p7] (.Name "value" p8) p9] (tOst K "value" (tVar 0) (tVar 1)) := pss_one (ps_ost (pv 0) (pv 1) rfl)
  refine wpAny_mono (pst.run [] _ _ H { nx := fun _ H' => Q .non H', rt := Q } J0 ⟨v, rfl, .ref a, rfl, a, C, rfl, T, XI.val, .inl ⟨ha, fun dx n ne => hq dx n ne⟩⟩) (fun fl s' hs => ?_) fun e s' hs => hs
  cases fl with
  | ret u =>
    obtain ⟨v, σ', H', J, rv, q⟩ := hs
    exact ⟨v, H', J.os, J.bare, J.base, J.hok, rv, q⟩
  | next =>
    obtain ⟨σ', H', J, q⟩ := hs
    exact ⟨.non, H', J.os, J.bare, J.base, J.hok, rfl, q⟩
  | brk =>
    obtain ⟨_, _, _, q⟩ := hs
    exact False.elim q
  | cont =>
    obtain ⟨_, _, _, q⟩ := hs
    exact False.elim q
end Sq


set_option Elab.async false
set_option maxRecDepth 100000
set_option maxHeartbeats 4000000
namespace Sq
open PySem PySem.Spec PyProof.Rows L2
/-! ## an exception that has been caught and is kept -/
/-- at a: an exception of the class cls with the dict d, at rest -/
def Xo (a : Addr) (cls : Value) (d : Option Addr) : HO := .ext fun h => ∃ (oe : Obj) (vs : Array Value), h.get? a = some oe ∧ Zc cls d oe ∧ oe.data = .fields vs
theorem xo_ok {P : Program} {w : World} {H : Hp} {h : Heap} {a : Addr} {cls : Value} {d : Option Addr} {oe : Obj} {vs : Array Value} (e : h.get? a = some oe) (z : Zc cls d oe) (f : oe.data = .fields vs) : ObjOk P w H h a (Xo a cls d) :=
  ⟨⟨oe, vs, e, z, f⟩, ⟨_, e⟩, fun _ _ ⟨o2, v2, e2, z2, f2⟩ k => ⟨o2, v2, k _ e2, z2, f2⟩⟩
theorem xo_at {P : Program} {w : World} {H : Hp} {h : Heap} {a : Addr} {cls : Value} {d : Option Addr} (hok : HOk P w H h) (e : H a = some (Xo a cls d)) : ∃ (oe : Obj) (vs : Array Value), h.get? a = some oe ∧ Zc cls d oe ∧ oe.data = .fields vs := by
  have x : ObjOk P w H h a (.ext fun h => ∃ (oe : Obj) (vs : Array Value), h.get? a = some oe ∧ Zc cls d oe ∧ oe.data = .fields vs) := hok a _ e
  exact x.1
section
variable {X : Cx} {pins : List (Addr × Obj)} {σ : L2.St} {H : Hp} {s : Shared} {a : Addr} {cls : Value} {d : Option Addr} {oe : Obj} {vs : Array Value}
/-- an object that is younger than the entry and that nothing holds is kept from now on -/
theorem track (J : Inv X pins σ H s) (e : s.heap.get? a = some oe) (na : H a = none) (nL : a ≠ X.env.locals) (np : ∀ p ∈ X.pn ++ pins, p.1 ≠ a) (young : X.s_0.heap.get? a = none) (z : Zc cls d oe) (f : oe.data = .fields vs) : Inv X pins σ (upd H a (Xo a cls d)) s := by
  have old : ∀ {b : Addr} {o : Obj}, X.s_0.heap.get? b = some o → b ≠ a := fun {b o} q c => by
    rw [c, young] at q
    cases q
  have set : ∀ {b : Addr} {o : HO}, H b = some o → b ≠ a := fun {b o} q c => by
    rw [c, na] at q
    cases q
  refine ⟨J.ok, J.os, J.bare, ⟨J.base.keep, J.base.slot, fun b o q n x => ?_, J.base.there, fun b xs q => ?_, fun b o v q => ?_, fun b ps q => ?_⟩, J.loc, J.cell, ?_, fun y c q => ?_, fun p hp => ?_, fun b o q => ?_, J.len⟩
  · rw [upd_ne (old q)]
    exact J.base.free b o q n x
  · have z := J.base.tups b xs q
    rw [upd_ne (set z)]
    exact z
  · have z := J.base.frzs b o v q
    rw [upd_ne (set z)]
    exact z
  · obtain ⟨more, z⟩ := J.base.tbls b ps q
    exact ⟨more, by rw [upd_ne (set z)]; exact z⟩
  · rw [upd_ne (Ne.symm nL)]
    exact J.free
  · have nc : c ≠ a := fun h => by
      obtain ⟨w, o, e2, d2⟩ := J.cell y c q
      rw [h, e] at e2
      cases e2
      rw [f] at d2
      cases d2
    rw [upd_ne nc]
    exact J.freeC y c q
  · obtain ⟨e1, n1, r1⟩ := J.pin p hp
    exact ⟨e1, by rw [upd_ne (np p hp)]; exact n1, r1⟩
  · by_cases hb : b = a
    · subst hb
      rw [upd_same] at q
      cases q
      exact xo_ok e z f
    · rw [upd_ne hb] at q
      have own : ∀ c, H c = some (.own b) → c ≠ a := fun c hc h => by
        rw [h, na] at hc
        cases hc
      exact (J.hok b o q).stay (fun c v _ k => k) (fun c hc => by rw [upd_ne (own c hc)]; exact hc) fun c xs hc => by rw [upd_ne fun h => by rw [h, na] at hc; cases hc]; exact hc
end

/-- what is wished behind the suite of 'except x as n' -/
def keepD (D : Ends) (i : Nat) : Ends where
  nx := fun τ G => D.nx (τ.set i none) G
  rt := D.rt
  bk := fun τ G => D.bk (τ.set i none) G
  ct := fun τ G => D.ct (τ.set i none) G
def wKeep (K : PySem.W.Frag) (c : Value) (i : Nat) (ts : Addr → Value → Option Addr → TS) (Wout : WX) (D : Ends) : WX := fun cls d σ H => ∃ b, PySem.W.exmOne K cls c = some b ∧
  (b = true → ∀ a, H a = none → ts a cls d (keepD D i) (σ.set i (some (.ref a))) (upd H a (Xo a cls d))) ∧ (b = false → Wout cls d σ H)
/-- into the suite and out of it -/
theorem suite_in {X : Cx} {pins : List (Addr × Obj)} {σ : L2.St} {H : Hp} {s : Shared} {a : Addr} (I : Inv X pins σ H s) : Inv (X.suite a (X.pn ++ pins)) [] σ H s :=
  ⟨I.ok.suite _ _, I.os, I.bare, I.base, I.loc, I.cell, I.free, I.freeC, fun p hp => I.pin p (by rw [List.append_nil] at hp; exact hp), I.hok, I.len⟩
theorem suite_out {X : Cx} {pins : List (Addr × Obj)} {σ : L2.St} {H : Hp} {s : Shared} {a : Addr} (I : Inv (X.suite a (X.pn ++ pins)) [] σ H s) (ok : X.Ok) : Inv X pins σ H s :=
  ⟨ok, I.os, I.bare, I.base, I.loc, I.cell, I.free, I.freeC, fun p hp => I.pin p (by rw [List.append_nil]; exact hp), I.hok, I.len⟩
section
variable {X : Cx} {x n : Str} {c : Value} {i : Nat} {body rest : List Stmt} {st : Stmt} {np pos pos2 : Pos} {tb : WX → TS} {ts : Addr → Value → Option Addr → TS} {Wout : WX}
/-- as ps_try_as; the exception stays behind the suite -/
theorem ps_try_keep (hs : X.stack = X.env :: X.outer) (hf : X.env.frame = some X.env.locals) (hN : X.N.Nodup) (hi : X.N[i]? = some n) (hln : X.env.kindOf n = some .local) (hex : X.ex = []) (hc : Names X x c) (tk : Takes X Wout)
    (hb : ∀ (W : WX) (pn : List (Addr × Obj)) (xe : Value → Shared → Prop), Takes (X.tr pn xe) W → PassesOwn (model X.prog X.w) X.A X.env xe → PSs (X.tr pn xe) body (tb W))
    (hsu : ∀ (a : Addr) (cls : Value) (d : Option Addr) (pn : List (Addr × Obj)), PSs (X.suite a pn) (st :: rest) (ts a cls d)) :
    PS X (.Try body [.ExceptHandler (some (.Name x np)) (some n) (st :: rest) pos2] [] [] pos) (fun D σ H => tb (wKeep X.K c i ts Wout D) D σ H) := by
  refine ⟨fun pins s σ H D I h => wpAny_Try_except ?_⟩
  have ok := I.ok
  have hfr : X.A.frames = some (X.env :: X.outer) := by rw [ok.frames, hs]
  have hlc : Loc X.env.scope n := .inl hln
  have seen : ∀ {C : Heap} {h : Heap} {q : Addr} {o : Obj} {vs : Array Value}, h.FunFrames C (X.env :: X.outer) → h.get? q = some o → o.data = .fields vs → q ∉ frs (X.env :: X.outer) := fun {C h q o vs} ff e dd hm => by
    obtain ⟨_, o2, e2, nn⟩ := ff.mem hm
    rw [e] at e2
    cases e2
    exact nn _ dd
  refine wpAny_mono ((hb (wKeep X.K c i ts Wout D) (X.pn ++ pins) _ (fun u s2 air => ?_) PassesOwn.looking).run [] s σ H D (I.toTry _) h) (fun fl s2 q => ?_) fun _ _ z => z
  · obtain ⟨a, G, sI, pins2, τ, H2, cls, d, rfl, J2, nb, up, sky, na, os, ag, b, hb1, yes, no⟩ := air
    have J : Inv X pins τ H2 sI := J2.ofTry ok
    rw [hs] at sky
    refine Sky.land Zc.steady hfr hf sky fun h3 l3 up3 => ?_
    have J3 : Inv X pins τ H2 { s2 with heap := h3 } := J.landed nb l3.1 (up.trans up3) os ag
    obtain ⟨o3, v3, e3, z3, d3⟩ := l3.there
    have out := seen l3.2.2.1 e3 d3
    have nL : a ≠ X.env.locals := fun z => out (List.mem_filterMap.mpr ⟨X.env, List.mem_cons_self, by rw [hf, z]⟩)
    have nF : a ∉ X.fs := fun hm => by
      obtain ⟨e, he, q⟩ := List.mem_filterMap.mp hm
      exact out (List.mem_filterMap.mpr ⟨e, List.mem_cons_of_mem _ he, q⟩)
    have young : sI.heap.get? a = none := by
      cases q : sI.heap.get? a with
      | none => rfl
      | some o =>
        have z := nb a o q (by rw [hs]; exact out)
        rw [l3.2.1] at z
        cases z
    have young0 : X.s_0.heap.get? a = none := by
      cases q : X.s_0.heap.get? a with
      | none => rfl
      | some o =>
        obtain ⟨o2, z⟩ := J.base.there a o q (by rw [hex]; simp)
        rw [young] at z
        cases z
    have off : ∀ p ∈ X.pn ++ pins, p.1 ≠ a := fun p hp z => by
      have y := (J.pin p hp).1
      rw [z, young] at y
      cases y
    have S3 := J3.suite e3 d3 na nL nF
    have LT : PySem.W.Looks (model X.prog X.w) h3 (typeOf (.ref a)) cls := fun _ _ _ s k q => wpAny_typeOf_ref (k _ _ e3) (by rw [z3.1]; exact q)
    have LM := PySem.W.exm_one (M := model X.prog X.w) J3.kIn LT hb1
    have ask : ∀ {Q2 : Value → Shared → Prop} {E2 : Value → Shared → Prop}, Q2 c { s2 with heap := h3 } → wpAny (model X.prog X.w) (X.A.mark (some (.ref a))) (eval (.Name x np) X.env) Q2 E2 { s2 with heap := h3 } := fun {Q2 E2} q => by
      obtain ⟨hg, hdb, hm | ⟨hm, hv, hnn⟩⟩ := hc
      · exact ld_glob (X := X.suite a ((a, o3) :: (X.pn ++ pins))) S3 hg hm q hdb
      · exact ld_blt (X := X.suite a ((a, o3) :: (X.pn ++ pins))) S3 hg hm hv q hnn hdb
    refine wpAny_handleBy_cons (codeAny_handlers_test (ask (LM.here ?_))) (by intro q; cases q)
    cases b with
    | true =>
      refine codeAny_handlers_suite_as (HandSPX.lands_againZ l3 fun h4 l4 up4 => ?_)
      have J4 : Inv X pins τ H2 { s2 with heap := h4 } := J.landed nb l4.1 ((up.trans up3).trans up4) os ag
      obtain ⟨o4, v4, e4, z4, d4⟩ := l4.there
      have S4 : Inv (X.suite a (X.pn ++ pins)) [] τ (upd H2 a (Xo a cls d)) { s2 with heap := h4 } := suite_in (track J4 e4 na nL off young0 z4 d4)
      refine store_ok (X := X.suite a (X.pn ++ pins)) (v := .ref a) S4 hN hi hlc rfl (fun s5 S5 => ?_) (.inr hln)
      refine wpAny_mono ((hsu a cls d (X.pn ++ pins)).run [] s5 _ _ _ S5 (yes rfl a na)) (fun fl s6 hsp => ?_) fun _ _ z => z.elim
      have fin : ∀ {σ6 : L2.St} {H6 : Hp} {Q2 : Shared → Prop}, Inv (X.suite a (X.pn ++ pins)) [] σ6 H6 s6 → (∀ s7, Inv X pins (σ6.set i none) H6 s7 → Q2 s7) →
          wpAny (model X.prog X.w) X.A (do bindName X.env n .none; unbindBehindTheSuite X.env n pos2) (fun _ s7 => Q2 s7) X.xe s6 := fun {σ6 H6 Q2} S6 hq =>
        gone_ok (X := X.suite a (X.pn ++ pins)) S6 hN hi hln fun s7 S7 => hq s7 (suite_out S7 ok)
      cases fl with
      | next =>
        obtain ⟨σ6, H6, S6, q6⟩ := hsp
        exact fin S6 fun s7 J7 => ⟨_, _, J7, q6⟩
      | brk =>
        obtain ⟨σ6, H6, S6, q6⟩ := hsp
        exact fin S6 fun s7 J7 => ⟨_, _, J7, q6⟩
      | cont =>
        obtain ⟨σ6, H6, S6, q6⟩ := hsp
        exact fin S6 fun s7 J7 => ⟨_, _, J7, q6⟩
      | ret u =>
        obtain ⟨v6, σ6, H6, S6, r6, q6⟩ := hsp
        exact fin S6 fun s7 J7 => ⟨_, _, _, J7, r6, q6⟩
    | false =>
      refine wpAny_handleBy_nil ?_
      obtain ⟨_, _, _, oe, vs, T, _, _, he, _, hd, h1, _⟩ := id l3
      unfold PySem.passOn
      refine wpAny_bind (wpAny_field he hd h1 ?_)
      rw [if_neg (show ¬ ((Value.ref T == Value.none) = true) from by simp)]
      have go : wpAny (model X.prog X.w) X.A (setFlight (.ref a) X.env.frame) (fun _ s4 => wpAny (model X.prog X.w) X.A (throw (.ref a) : Sem Flow) (SP X pins D) X.xe s4) X.xe { s2 with heap := h3 } := by
        rw [hf]
        exact HandSPX.setFlight_upZ l3 fun h4 g4 up4 => wpAny_throw (tk _ _ ⟨a, G, sI, pins, τ, H2, cls, d, rfl, J, nb, (up.trans up3).trans up4, .inr (.inr (by rw [hs]; exact g4)), na, os, ag, no rfl⟩)
      first
        | exact wpAny_bind (wpAny_pure (wpAny_bind go))
        | exact wpAny_bind go
  · cases fl with
    | next =>
      obtain ⟨τ, H2, J, q⟩ := q
      exact wpAny_execs_nil ⟨τ, H2, J.ofTry ok, q⟩
    | brk =>
      obtain ⟨τ, H2, J, q⟩ := q
      exact ⟨τ, H2, J.ofTry ok, q⟩
    | cont =>
      obtain ⟨τ, H2, J, q⟩ := q
      exact ⟨τ, H2, J.ofTry ok, q⟩
    | ret u =>
      obtain ⟨v, τ, H2, J, r, q⟩ := q
      exact ⟨v, τ, H2, J.ofTry ok, r, q⟩
end

/-! ## a kept exception looked at -/
/-- at a: a kept exception of the own class C with the attributes fs -/
def Kept (H : Hp) (a C : Addr) (fs : List (Str × V)) : Prop := ∃ d, (H a = some (Xo a (.ref C) (some d)) ∧ H d = some (.xd fs)) ∨ (H a = some (exo a C (some d)) ∧ H d = some (exd d fs))
theorem kept_at {X : Cx} {pins : List (Addr × Obj)} {σ : L2.St} {H : Hp} {s : Shared} {a C : Addr} {fs : List (Str × V)} (I : Inv X pins σ H s) (k : Kept H a C fs) :
    ∃ (oe od : Obj) (d : Addr) (mA : Str → Option Value), PySem.W.InstAt s.heap a oe C (some od) ∧ s.heap.get? d = some od ∧ s.heap.Ns1 d mA ∧ ∀ f, RelO (fs.lookup f) (mA f) := by
  obtain ⟨d, ⟨h1, h2⟩ | ⟨h1, h2⟩⟩ := k
  · obtain ⟨oe, vs, e, z, f⟩ := xo_at I.hok h1
    have hx : ObjOk X.prog X.w H s.heap d (.xd fs) := I.hok d _ h2
    obtain ⟨mA, hns, hr⟩ := hx
    obtain ⟨od, ho, _⟩ := lookIn_ns hns
    exact ⟨oe, od, d, mA, ⟨e, z.1, by unfold PySem.W.notCls; rw [f] <;> rfl, by rw [z.2]; exact ho⟩, ho, hns, hr⟩
  · obtain ⟨t1, e⟩ := exo_at I.hok h1
    obtain ⟨mA, hns, hr⟩ := exd_at I.hok h2
    obtain ⟨od, ho, _⟩ := lookIn_ns hns
    exact ⟨_, od, d, mA, ⟨e, rfl, rfl, ho⟩, ho, hns, hr⟩
def rIsX (K : PySem.W.Frag) : List V → Hp → VK → Prop := fun xs H Q => ∃ (a C : Addr) (fs : List (Str × V)) (c : V) (cv : Value) (b : Bool), xs = [.ref a, c] ∧ Kept H a C fs ∧ ExcC K C ∧ ClsV c cv ∧ PySem.W.kitOne K (.ref C) cv = some b ∧ Q (.bl b) H
theorem call_isX {X : Cx} {K : PySem.W.Frag} (h : X.K = K := by rfl) : CallR X (.builtin "isinstance") (rIsX K) := by
  subst h
  intro pins s σ H xs us Q I r h
  obtain ⟨a, C, fs, c, cv, b, rfl, k, EC, hc, e, q⟩ := h
  obtain ⟨oe, od, d, mA, J, _⟩ := kept_at I k
  cases r with
  | @cons _ u0 _ ur rx rr =>
    cases rr with
    | @cons _ u1 _ _ rt rr =>
      cases rr
      cases rx
      have ec : u1 = cv := by
        cases hc <;> exact rt
      subst ec
      obtain ⟨cd, hcd, _⟩ := PySem.W.any_some EC.hd
      exact PySem.W.kia_one (PySem.W.kitx_exc (by rw [hcd]; rfl) EC.hg EC.hk EC.hs EC.ha EC.hn EC.ht EC.hm) I.kIn J e (fun z => nomatch z) fun tk => ⟨.bl b, H, I.kept (t' := tk) fun _ _ z => z, rfl, q⟩
def tXv (K : PySem.W.Frag) (te : TE) (f : Str) : TE := fun σ H Q => te σ H fun x H1 => ∃ (a C : Addr) (fs : List (Str × V)) (v : V), x = .ref a ∧ Kept H1 a C fs ∧ XfC K C ∧ PySem.W.findIn K (.ref C) f = some none ∧ fs.lookup f = some v ∧ Q v H1
theorem pe_xv {X : Cx} {K : PySem.W.Frag} {e : Expr} {te : TE} {f : Str} {pos : Pos} (he : PE X e te) (hb : attributeBase e f X.env (eval e X.env) = eval e X.env := by rfl) (h : X.K = K := by rfl) : PE X (.Attribute e f pos) (tXv K te f) := by
  subst h
  refine ⟨fun pins s σ H Q I h => attr_of hb (thn (he.run pins s σ H _ I h) fun u s1 hh => ?_)⟩
  obtain ⟨x, H1, I1, rx, a, C, fs, v, rfl, k, T, hno, l, q⟩ := hh
  obtain rfl : u = Value.ref a := rx
  obtain ⟨oe, od, d, mA, J, ho, hns, hr⟩ := kept_at I1 k
  obtain ⟨od2, ho2, hl⟩ := lookIn_ns hns
  rw [ho] at ho2
  cases ho2
  obtain ⟨u, hu, ru⟩ := RelO.some_of (v := v) (o := mA f) (by rw [← l]; exact hr f)
  exact HandSPX.exc_get I1.kIn J T.ga T.gg T.exC (PySem.W.findObj_own T.hdC hno rfl (by rw [hl, hu])) (handed_of ru) ⟨v, H1, I1.tok _, ru, q⟩
end Sq


set_option Elab.async false
set_option maxRecDepth 100000
set_option maxHeartbeats 4000000
namespace Sq
open PySem PySem.Spec PyProof.Rows L2
/-! ## raise C(e), C an own class with the __init__ of MExc -/
structure Rai (P : Program) (w : World) (K : PySem.W.Frag) (mg : Str → Option Value) (base : Heap) (k : Nat) (x : Str) (C : Addr) : Prop where
  ex : ∃ (f : Addr) (fd : FuncData), OexC K C ∧ PySem.W.findIn K (.ref C) "__init__" = some (some (.ref f)) ∧ PySem.W.typeIn K (.ref f) = some (.type "function") ∧ FnOk P w K mg base CX0 k f fd ["self", "value"] (spXI C) ∧ mg x = some (.ref C) ∧ L2.Binds K fd ["self", "value"] []
def tRx (W : WX) (C : Addr) (te : TE) : TS := fun _ σ H => te σ H fun v H1 => ∀ d, H1 d = none → W (.ref C) (some d) σ (upd H1 d (.xd [("value", v)]))
theorem heap_rx {H : Hp} {a d : Addr} {u z o : HO} (na : H a = none) (n : d ≠ a) : upd (del (upd (upd (upd H a u) d z) a o) a) d (.xd [("value", v)]) = upd H d (.xd [("value", v)]) := by
  funext b
  by_cases h1 : b = d
  · rw [h1, upd_same, upd_same]
  · rw [upd_ne h1, upd_ne h1]
    by_cases h2 : b = a
    · rw [h2, del_same, na]
    · rw [del_ne h2, upd_ne h2, upd_ne h1, upd_ne h2]
/-- a reading that may be weakened -/
def tWk (te : TE) : TE := fun σ H Q => ∃ R : VK, te σ H R ∧ ∀ v G, R v G → Q v G
theorem pe_wk {X : Cx} {e : Expr} {te : TE} (h : PE X e te) : PE X e (tWk te) := ⟨fun pins s σ H Q I ⟨R, q, k⟩ => wpAny_mono (h.run pins s σ H R I q) (fun u s1 ⟨x, G, J, r, z⟩ => ⟨x, G, J, r, k _ _ z⟩) fun _ _ z => z⟩
section
variable {X : Cx} {W : WX} {k j : Nat} {C : Addr} {x : Str} {p pos pos2 : Pos} {e : Expr} {te : TE}
theorem ps_rx (c : Rai X.prog X.w X.K X.mg X.base k x C) (hr : Room j X.A) (hk : k + 1 ≤ j) (hg : Gl X x) (tk : Takes X W) (ha : PE X e te) (hc : X.calm = true := by rfl)
    (hdb : (x == ("__debug__" : Str)) = false := by decide) (he : starEach [e] X.env = (false, eval e X.env) :: starEach [] X.env := by rfl) (hpl : (backTo pos (starEach [] X.env)).any (·.1) = false := by rfl) : PS X (.Raise (some (.Call (.Name x p) [e] [] pos)) none pos2) (tRx W C te) := by
  obtain ⟨f, fd, T, iC, tI, F, hm, b⟩ := c.ex
  have mk := pmk_oex (pos := pos) (p := p) T iC tI F (hr.mono hk) b .nil pass0 hg hm (pa_cons (pe_wk ha) pa_nil he) hdb he hpl
  have r := ps_raise (pos := pos2) hc tk mk
  refine ⟨fun pins s σ H D I h => r.run pins s σ H D I ⟨_, h, fun v G q => ⟨Nat.le_of_ble_eq_true rfl, fun a na => ⟨a, v, rfl, upd_same, fun dx nd ne => ?_⟩⟩⟩⟩
  have nd' : G dx = none := by
    rw [upd_ne ne] at nd
    exact nd
  refine ⟨rfl, dx, _, upd_same, by rw [upd_ne ne, upd_same], nd', ?_⟩
  rw [heap_rx na ne]
  exact q dx nd'
end

/-! ## defs that may raise -/
structure CalX (P : Program) (w : World) (K : PySem.W.Frag) (mg : Str → Option Value) (base : Heap) (k : Nat) (x : Str) (sp : Sp) : Prop where
  ex : ∃ (f : Addr) (fd : FuncData) (ps : List Str), FnOk P w K mg base (L2.CX P w) k f fd ps sp ∧ mg x = some (.ref f) ∧ PySem.W.keepIn K (.ref f) = true ∧ L2.Binds K fd ps []
section
variable {P : Program} {w : World} {K : PySem.W.Frag} {mg : Str → Option Value} {base : Heap}
theorem DefAt.calX {x : Str} {st : Stmt} {ps N : List Str} {k : Nat} {sp : Sp} (D : DefAt K mg x st ps) (S : FnScope N ps (defScope st)) (len : ∀ vs H Q E, sp vs H Q E → vs.length = ps.length)
    (hb : ∀ (f : Addr) (cdv : Value) (A : Around) (outer : List Env) (s : Shared) (H : Hp) (vs : List V) (Q : VK) (E : XK), Room k (A.deeper (envOfC x (defScope st) s.heap.objs.size f cdv)) → sp vs H Q E →
      (Takes (cxOf (L2.CX P w) P w K mg base N x (defScope st) f cdv A outer s H E) fun cls d _ G => E cls d G) →
      ∃ t, PSs (cxOf (L2.CX P w) P w K mg base N x (defScope st) f cdv A outer s H E) (defBody st) t ∧ t { nx := fun _ H' => Q .non H', rt := Q } (start N vs) H) : CalX P w K mg base (k + 1) x sp := by
  obtain ⟨f, fd, F, hm, b⟩ := D.ex
  exact ⟨f, fd, ps, F.okX S len fun cdv A outer s H vs Q E hr hsp => hb f cdv A outer s H vs Q E hr hsp (takes_of rfl rfl rfl rfl), hm, F.kp, b⟩
/-- where it raises nothing it is a plain def -/
theorem fn_calm {k : Nat} {f : Addr} {fd : FuncData} {ps : List Str} {sp sp' : Sp} (F : FnOk P w K mg base (L2.CX P w) k f fd ps sp) (h : ∀ vs H Q E, sp' vs H Q E → sp vs H Q E0) : FnOk P w K mg base CX0 k f fd ps sp' := by
  refine ⟨fun vs H Q E q => F.len _ _ _ _ (h _ _ _ _ q), fun A outer s H args us vs Q E hr e0 b r q => codeAny_mono (F.run A outer s H args us vs Q E0 hr e0 b r (h _ _ _ _ q)) fun res s' z => ?_⟩
  cases res with
  | ok fl => cases fl <;> exact z
  | error e =>
    obtain ⟨_, _, _, _, _, _, _, _, _, _, _, _, no⟩ := z
    exact no.elim
theorem CalX.calm {x : Str} {k : Nat} {sp sp' : Sp} (c : CalX P w K mg base k x sp) (h : ∀ vs H Q E, sp' vs H Q E → sp vs H Q E0) : Cal P w K mg base k x sp' [] := by
  obtain ⟨f, fd, ps, F, hm, kp, b⟩ := c.ex
  exact ⟨f, fd, ps, [], fn_calm F h, hm, kp, b, .nil⟩
theorem CalX.imp {x : Str} {k j : Nat} {sp sp' : Sp} (c : CalX P w K mg base k x sp) (hk : k ≤ j) (h : ∀ vs H Q E, sp' vs H Q E → sp vs H Q E) : CalX P w K mg base j x sp' := by
  obtain ⟨f, fd, ps, F, hm, kp, b⟩ := c.ex
  exact ⟨f, fd, ps, (F.mono hk).imp h, hm, kp, b⟩
end
section
variable {X : Cx} {W : WX} {k j : Nat} {x : Str} {sp : Sp} {p pos : Pos} {e : Expr} {es : List Expr} {t : TA}
/-- a call that may raise, where W is wished of what is raised -/
theorem pe_cx (c : CalX X.prog X.w X.K X.mg X.base k x sp) (hr : Room j X.A) (hk : k ≤ j) (tk : Takes X W) (hg : Gl X x) (ha : PA X (e :: es) t)
    (hdb : (x == ("__debug__" : Str)) = false := by decide) (he : starEach (e :: es) X.env = (false, eval e X.env) :: starEach es X.env := by rfl) (hpl : (backTo pos (starEach es X.env)).any (·.1) = false := by rfl) :
    PE X (.Call (.Name x p) (e :: es) [] pos) (tCallS sp (WE W) t) := by
  obtain ⟨f, fd, ps, F, hm, kp, b⟩ := c.ex
  exact pe_callS F (hr.mono hk) hg hm kp b (passAt tk) ha hdb he hpl
/-- a call of such a def that raises nothing -/
theorem pe_cx0 (c : CalX X.prog X.w X.K X.mg X.base k x sp) (hr : Room j X.A) (hk : k ≤ j) (hg : Gl X x) (ha : PA X (e :: es) t)
    (hdb : (x == ("__debug__" : Str)) = false := by decide) (he : starEach (e :: es) X.env = (false, eval e X.env) :: starEach es X.env := by rfl) (hpl : (backTo pos (starEach es X.env)).any (·.1) = false := by rfl) :
    PE X (.Call (.Name x p) (e :: es) [] pos) (tCall sp [] E0 t) := by
  obtain ⟨f, fd, ps, F, hm, kp, b⟩ := c.ex
  exact L2.pe_call F (hr.mono hk) hg hm kp b .nil passL ha hdb he hpl
end

/-! ## methods and new objects that may raise -/
structure MetX (P : Program) (w : World) (K : PySem.W.Frag) (mg : Str → Option Value) (base : Heap) (k : Nat) (C : Addr) (m : Str) (sp : Sp) : Prop where
  ex : ∃ (f : Addr) (fd : FuncData) (ps : List Str), Cls K C ∧ Meth K C m f ∧ FnOk P w K mg base (L2.CX P w) k f fd ps sp ∧ L2.Binds K fd ps []
structure MakX (P : Program) (w : World) (K : PySem.W.Frag) (mg : Str → Option Value) (base : Heap) (k : Nat) (x : Str) (C : Addr) (sp : Sp) : Prop where
  ex : ∃ (f : Addr) (fd : FuncData) (ps : List Str), Mk K C f ∧ FnOk P w K mg base (L2.CX P w) k f fd ps sp ∧ mg x = some (.ref C) ∧ L2.Binds K fd ps []
section
variable {P : Program} {w : World} {K : PySem.W.Frag} {mg : Str → Option Value} {base : Heap} {C : Addr} {m x qual : Str} {st : Stmt} {ps N : List Str} {k : Nat} {sp : Sp}
theorem MetAt.metX (D : MetAt K C m qual st ps) (cl : Cls K C) (S : FnScope N ps (defScope st)) (len : ∀ vs H Q E, sp vs H Q E → vs.length = ps.length)
    (hb : ∀ (f : Addr) (cdv : Value) (A : Around) (outer : List Env) (s : Shared) (H : Hp) (vs : List V) (Q : VK) (E : XK), Room k (A.deeper (envOfC qual (defScope st) s.heap.objs.size f cdv)) → sp vs H Q E →
      (Takes (cxOf (L2.CX P w) P w K mg base N qual (defScope st) f cdv A outer s H E) fun cls d _ G => E cls d G) →
      ∃ t, PSs (cxOf (L2.CX P w) P w K mg base N qual (defScope st) f cdv A outer s H E) (defBody st) t ∧ t { nx := fun _ H' => Q .non H', rt := Q } (start N vs) H) : MetX P w K mg base (k + 1) C m sp := by
  obtain ⟨f, fd, F, hm, b⟩ := D.ex
  exact ⟨f, fd, ps, cl, hm, F.okX S len fun cdv A outer s H vs Q E hr hsp => hb f cdv A outer s H vs Q E hr hsp (takes_of rfl rfl rfl rfl), b⟩
theorem IniAt.makX (D : IniAt K mg C x qual st ps) (S : FnScope N ps (defScope st)) (len : ∀ vs H Q E, sp vs H Q E → vs.length = ps.length)
    (hb : ∀ (f : Addr) (cdv : Value) (A : Around) (outer : List Env) (s : Shared) (H : Hp) (vs : List V) (Q : VK) (E : XK), Room k (A.deeper (envOfC qual (defScope st) s.heap.objs.size f cdv)) → sp vs H Q E →
      (Takes (cxOf (L2.CX P w) P w K mg base N qual (defScope st) f cdv A outer s H E) fun cls d _ G => E cls d G) →
      ∃ t, PSs (cxOf (L2.CX P w) P w K mg base N qual (defScope st) f cdv A outer s H E) (defBody st) t ∧ t { nx := fun _ H' => Q .non H', rt := Q } (start N vs) H) : MakX P w K mg base (k + 1) x C sp := by
  obtain ⟨f, fd, F, hm, hg, b⟩ := D.ex
  exact ⟨f, fd, ps, hm, F.okX S len fun cdv A outer s H vs Q E hr hsp => hb f cdv A outer s H vs Q E hr hsp (takes_of rfl rfl rfl rfl), hg, b⟩
end
theorem MetX.calm {P : Program} {w : World} {K : PySem.W.Frag} {mg : Str → Option Value} {base : Heap} {C : Addr} {m : Str} {k : Nat} {sp sp' : Sp} (c : MetX P w K mg base k C m sp) (h : ∀ vs H Q E, sp' vs H Q E → sp vs H Q E0) : Met P w K mg base k C m sp' := by
  obtain ⟨f, fd, ps, c1, c2, F, b⟩ := c.ex
  exact ⟨f, fd, ps, c1, c2, fn_calm F h, b⟩
theorem MakX.calm {P : Program} {w : World} {K : PySem.W.Frag} {mg : Str → Option Value} {base : Heap} {C : Addr} {x : Str} {k : Nat} {sp sp' : Sp} (c : MakX P w K mg base k x C sp) (h : ∀ vs H Q E, sp' vs H Q E → sp vs H Q E0) : Mak P w K mg base k x C sp' := by
  obtain ⟨f, fd, ps, M, F, hm, b⟩ := c.ex
  exact ⟨f, fd, ps, M, fn_calm F h, hm, b⟩
def tMethS (C : Addr) (m : Str) (sp : Sp) (E : L2.St → XK) (ta : TE) (t : TA) : TE := fun σ H Q => ta σ H fun x H1 => ∃ a dx fs, x = .ref a ∧ H1 a = some (.ins C dx fs) ∧ fs.lookup m = none ∧ t σ H1 fun vs H2 => sp (x :: vs) H2 Q (E σ)
def tMakeS (C : Addr) (sp : Sp) (E : L2.St → XK) (t : TA) : TE := fun σ H Q => t σ H fun vs H1 => ∀ x dx, H1 x = none → H1 dx = none → dx ≠ x →
  sp (.ref x :: vs) (upd (upd H1 dx (.own x)) x (.ins C dx [])) (fun v H2 => v = .non ∧ Q (.ref x) H2) (E σ)
section
variable {X : Cx} {W : WX} {k j : Nat} {C : Addr} {x m : Str} {sp : Sp} {p pos apos : Pos} {e o : Expr} {es : List Expr} {ta : TE} {t : TA}
theorem pe_mx {pl : Sem Bool} (c : MetX X.prog X.w X.K X.mg X.base k C m sp) (hr : Room j X.A) (hk : k ≤ j) (tk : Takes X W) (he : PE X o ta) (ha : PA X (e :: es) t)
    (ht : eval (.Call (.Attribute o m apos) (e :: es) [] pos) X.env = (do
      let ov ← eval o X.env
      standAt apos.atName
      let (f, first) ← holding [ov] (getMethod ov m pl)
      callWith pos f first (backTo pos (starEach (e :: es) X.env)) (backToKw pos (keywordEach [] X.env))) := by rfl)
    (hst : starEach (e :: es) X.env = (false, eval e X.env) :: starEach es X.env := by rfl) (hpl : (backTo pos (starEach es X.env)).any (·.1) = false := by rfl) : PE X (.Call (.Attribute o m apos) (e :: es) [] pos) (tMethS C m sp (WE W) ta t) := by
  obtain ⟨f, fd, ps, cl, hm, F, b⟩ := c.ex
  refine ⟨fun pins s σ H Q I h => PySem.W.methodCall_KW (pl := pl) (thn (he.run pins s σ H _ I h) fun u s1 hh => ?_) ht⟩
  obtain ⟨x, H1, I1, rx, a, dx, fs, rfl, ea, l, q⟩ := hh
  obtain rfl : u = Value.ref a := rx
  refine getmeth_ok I1 ea cl hm l (PySem.W.callWith_K (first := [.ref a]) (h₀ := X.base) I.ok.mod.kin hm.kp (thn (ha.run pos pins s1 σ H1 _ I1 q) fun us s2 hh => ?_) hst hpl)
  obtain ⟨vs, H2, I2, r, q2⟩ := hh
  exact ⟨I2.kIn, run_fnS (us := .ref a :: us) (vs := .ref a :: vs) F (hr.mono hk) b (passAt tk σ) I2 (.cons rfl r) q2⟩
theorem pe_mkx (c : MakX X.prog X.w X.K X.mg X.base k x C sp) (hr : Room j X.A) (hk : k + 1 ≤ j) (tk : Takes X W) (hg : Gl X x) (ha : PA X (e :: es) t)
    (hdb : (x == ("__debug__" : Str)) = false := by decide) (he : starEach (e :: es) X.env = (false, eval e X.env) :: starEach es X.env := by rfl) (hpl : (backTo pos (starEach es X.env)).any (·.1) = false := by rfl) :
    PE X (.Call (.Name x p) (e :: es) [] pos) (tMakeS C sp (WE W) t) := by
  obtain ⟨f, fd, ps, M, F, hm, b⟩ := c.ex
  refine ⟨fun pins s σ H Q I h => wpAny_Call_Name_kw (ld_glob I hg hm ?_ hdb)⟩
  refine PySem.W.callWith_K (h₀ := X.base) I.ok.mod.kin M.kp (thn (ha.run pos pins s σ H _ I h) fun us s1 hh => ?_) he hpl
  obtain ⟨vs, H1, I1, r, q⟩ := hh
  refine ⟨I1.kIn, ?_⟩
  have hq := q (s1.heap.objs.size + 1) s1.heap.objs.size (I1.hok.fresh (Nat.le_succ _)) (I1.hok.fresh (Nat.le_refl _)) (Nat.ne_of_lt (Nat.lt_succ_self _))
  have I2 := Inv.made (C := C) I1
  have r2 : Vals (V.ref (s1.heap.objs.size + 1) :: vs) (Value.ref (s1.heap.objs.size + 1) :: us) := .cons rfl r
  have ln : (Value.ref (s1.heap.objs.size + 1) :: us).length = ps.length := by
    rw [← r2.length]
    exact F.len _ _ _ _ hq
  have bb := b _ (Value.ref (s1.heap.objs.size + 1) :: us) I2.kIn (by rw [List.append_nil]; exact ln)
  rw [List.append_nil] at bb
  show wpAny _ _ (call (.ref C) us) _ _ _
  refine wpAny_call (make_map (f := f) I1.kIn M.makes M.init (beq_iff_eq.mp M.fn) (codeAny_mono (F.run _ X.stack _ _ ⟨Value.ref (s1.heap.objs.size + 1) :: us, []⟩ _ _ _ (WE W σ) ((hr.mono hk).make C us []) (I2.env0.make C us []) bb r2 hq) fun r s' hq2 => ?_))
  cases r with
  | error er => exact passAt tk σ pins _ _ er s' I2 hq2
  | ok fl =>
    cases fl with
    | ret u =>
      obtain ⟨v, H', I3, rv, ev, q3⟩ := I2.after hq2
      subst ev
      exact ⟨rv, ⟨V.ref (s1.heap.objs.size + 1), H', I3, rfl, q3⟩⟩
    | next => exact False.elim hq2
    | brk => exact False.elim hq2
    | cont => exact False.elim hq2
theorem pe_mx0 {pl : Sem Bool} (c : MetX X.prog X.w X.K X.mg X.base k C m sp) (hr : Room j X.A) (hk : k ≤ j) (he : PE X o ta) (ha : PA X (e :: es) t)
    (ht : eval (.Call (.Attribute o m apos) (e :: es) [] pos) X.env = (do
      let ov ← eval o X.env
      standAt apos.atName
      let (f, first) ← holding [ov] (getMethod ov m pl)
      callWith pos f first (backTo pos (starEach (e :: es) X.env)) (backToKw pos (keywordEach [] X.env))) := by rfl)
    (hst : starEach (e :: es) X.env = (false, eval e X.env) :: starEach es X.env := by rfl) (hpl : (backTo pos (starEach es X.env)).any (·.1) = false := by rfl) : PE X (.Call (.Attribute o m apos) (e :: es) [] pos) (tMeth C m sp [] E0 ta t) := by
  obtain ⟨f, fd, ps, c1, c2, F, b⟩ := c.ex
  exact L2.pe_meth (pl := pl) he c1 c2 F (hr.mono hk) b .nil passL ha hst hpl ht
theorem pe_mkx0 (c : MakX X.prog X.w X.K X.mg X.base k x C sp) (hr : Room j X.A) (hk : k + 1 ≤ j) (hg : Gl X x) (ha : PA X (e :: es) t)
    (hdb : (x == ("__debug__" : Str)) = false := by decide) (he : starEach (e :: es) X.env = (false, eval e X.env) :: starEach es X.env := by rfl) (hpl : (backTo pos (starEach es X.env)).any (·.1) = false := by rfl) :
    PE X (.Call (.Name x p) (e :: es) [] pos) (tMake C sp [] E0 t) := by
  obtain ⟨f, fd, ps, M, F, hm, b⟩ := c.ex
  exact L2.pe_make M F (hr.mono hk) hg hm b .nil passL ha hdb he hpl
end

/-! ## an exception class of the text, out of what the top has written -/
theorem rai_mk {P : Program} {w : World} {K : PySem.W.Frag} {h base : Heap} {mg : Str → Option Value} {x : Str} {C f cc cda N : Addr} {nm q qual m file : Str} {bs bm sub : List Value} {sn : List Str} {ab : Bool} {col : Option Bool} {dd cld cdd od an : Option Addr} {k0 k1 k2 k3 k5 : Option Value}
    {cl ccl oc kV doc pm ct : Value} {csl ccs osl : Array (Option Value)} {cvs : Array Value} {tf : Tok} {p0 p1 p2 p3 p4 p5 p6 p7 p8 p9 q0 q1 : Pos} (X : K.In h) (G : h.Ns mainGlobals mg) (hm : mg x = some (.ref C))
    (lC : K.lookup C = some (excClassObj nm q C N bs bm true sn sub ab col dd k0 k1 k2 k3 k5 "ValueError.__new__")) (rC : PySem.HandSPX.refsVE bm = true) (sa : PySem.W.findIn K (.ref C) "__setattr__" = some (some (.builtin "object.__setattr__")))
    (ex : PySem.W.subIn K (.ref C) (.type "BaseException") = some true) (ty : PySem.W.typeIn K (.ref C) = some (.type "type")) (kc : PySem.W.keepIn K (.ref C) = true)
    (ini : PySem.W.findIn K (.ref C) "__init__" = some (some (.ref f))) (tyf : PySem.W.typeIn K (.ref f) = some (.type "function"))
    (l : K.lookup f = some ⟨oc, od, .func (PySem.W.ksFn "__init__" qual (xiArgs q0 q1) (xiBody m p0 p1 p2 p3 p4 p5 p6 p7 p8 p9) xiScope .none kV doc pm an (.ref cda) ct cc), osl⟩)
    (co : PySem.W.codeIn K (.ref cda) qual = true) (cell : K.lookup cc = some ⟨cl, cld, .cell (some (.ref C)), csl⟩) (rec_ : K.lookup cda = some ⟨ccl, cdd, .fields cvs, ccs⟩) (v2 : cvs[2]? = some (.str file tf)) (fl : ((P.main.file : Str) == file) = true)
    (top : (P.main.scope.names.lookup ("super" : Str)).isSome = false) (opq : PySem.W.nsIn K PySem.cStatics "thirdparty.any" = some none) (sup : PySem.W.ks_superIn K C C "__init__" = some (some (.builtin "ValueError.__init__"))) (veb : PySem.W.subIn K (.ref C) (.type "ValueError") = some true)
    (slf : PySem.W.mroIn K C (.ref C) = some true) (val : PySem.W.findIn K (.ref C) "value" = some none) (ms : PySem.W.nsIn K mainGlobals "super" = some none) (he : XiCall qual f cc cda m p0 p1 p2 p3 p4)
    (hb : ∀ us : List Value, us.length = 2 → bindArgs (PySem.W.ksFn "__init__" qual (xiArgs q0 q1) (xiBody m p0 p1 p2 p3 p4 p5 p6 p7 p8 p9) xiScope .none kV doc pm an (.ref cda) ct cc) ⟨us, []⟩ = pure ((["self", "value"] : List Str).zip us)) : Rai P w K mg base 1 x C :=
  ⟨f, _, ⟨⟨nm, q, N, bs, bm, sn, sub, ab, col, dd, k0, k1, k2, k3, k5, lC, rC⟩, sa, ex, ty, kc⟩, ini, tyf,
    ok_xi ⟨⟨nm, q, N, bs, bm, sn, sub, ab, col, dd, k0, k1, k2, k3, k5, lC, rC⟩, sa, ex, ty, kc⟩ ⟨co, ⟨cl, cld, csl, cell⟩, ⟨ccl, cdd, cvs, ccs, tf, rec_, v2⟩, fl, top, opq, sup, veb, slf, val⟩ l (PySem.W.mg_none_of X G ms) he, hm, L2.Binds.all hb⟩
end Sq


set_option Elab.async false
set_option maxRecDepth 100000
set_option maxHeartbeats 4000000
namespace Sq
open PySem PySem.Spec PyProof.Rows L2
/-! ## methods called by keywords alone -/
structure MetKX (P : Program) (w : World) (K : PySem.W.Frag) (mg : Str → Option Value) (base : Heap) (k : Nat) (C : Addr) (m : Str) (ks : List Str) (sp : Sp) : Prop where
  ex : ∃ (f : Addr) (fd : FuncData) (ps : List Str) (spf : Sp) (g : List Value → List Value → List Value) (gV : List V → List V → List V),
    Cls K C ∧ Meth K C m f ∧ FnOk P w K mg base (L2.CX P w) k f fd ps spf ∧ KBn K fd ps 1 ks g gV ∧ ∀ x zs H Q E, sp (x :: zs) H Q E → zs.length = ks.length ∧ spf (gV [x] zs) H Q E
def tMetK (C : Addr) (m : Str) (sp : Sp) (E : L2.St → XK) (ta : TE) (tk : TA) : TE := fun σ H Q => ta σ H fun x H1 => ∃ a dx fs, x = .ref a ∧ H1 a = some (.ins C dx fs) ∧ fs.lookup m = none ∧ tk σ H1 fun zs H2 => sp (x :: zs) H2 Q (E σ)
section
variable {X : Cx} {W : WX} {k j : Nat} {C : Addr} {m : Str} {ks : List Str} {sp : Sp} {pos apos : Pos} {o : Expr} {kws : List Keyword} {ta : TE} {t : TA}
theorem pe_mkwx {pl : Sem Bool} (c : MetKX X.prog X.w X.K X.mg X.base k C m ks sp) (hr : Room j X.A) (hk : k ≤ j) (tk : Takes X W) (he : PE X o ta) (ha : PK X kws t)
    (ht : eval (.Call (.Attribute o m apos) [] kws pos) X.env = (do
      let ov ← eval o X.env
      standAt apos.atName
      let (f, first) ← holding [ov] (getMethod ov m pl)
      callWith pos f first (backTo pos (starEach [] X.env)) (backToKw pos (keywordEach kws X.env))) := by rfl)
    (hall : (backToKw pos (keywordEach kws X.env)).all (·.1.isSome) = true := by rfl) (hks : (backToKw pos (keywordEach kws X.env)).filterMap (·.1) = ks := by rfl)
    (hpl : ((backTo pos (starEach [] X.env)).any (·.1) || (backToKw pos (keywordEach kws X.env)).any (·.1.isNone)) = false := by rfl) : PE X (.Call (.Attribute o m apos) [] kws pos) (tMetK C m sp (WE W) ta t) := by
  obtain ⟨f, fd, ps, spf, g, gV, cl, hm, F, hb, hs⟩ := c.ex
  refine ⟨fun pins s σ H Q I h => PySem.W.methodCall_KW (pl := pl) (thn (he.run pins s σ H _ I h) fun u s1 hh => ?_) ht⟩
  obtain ⟨x, H1, I1, rx, a, dx, fs, rfl, ea, l, q⟩ := hh
  obtain rfl : u = Value.ref a := rx
  refine getmeth_ok I1 ea cl hm l (PySem.W.callWith_KW0 (first := [.ref a]) (h₀ := X.base) I.ok.mod.kin hm.kp hall (thn (ha.run pos pins s1 σ H1 _ I1 q) fun ws s2 hh => ?_) hpl)
  obtain ⟨zs, H2, I2, rz, q2⟩ := hh
  obtain ⟨lz, q3⟩ := hs _ _ _ _ _ q2
  refine ⟨I2.kIn, ?_⟩
  rw [hks]
  have r1 : Vals [V.ref a] [Value.ref a] := .cons rfl .nil
  refine wpAny_call (codeAny_mono (F.run X.A X.stack s2 H2 ⟨[.ref a], ks.zip ws⟩ (g [.ref a] ws) (gV [.ref a] zs) Q (WE W σ) (hr.mono hk) I2.env0 (hb.to s2 [.ref a] ws I2.kIn rfl (rz.length.symm.trans lz)) (hb.rel r1 rz) q3) fun r s3 hq => ?_)
  cases r with
  | error er => exact passAt tk σ pins H2 s2 er s3 I2 hq
  | ok fl =>
    cases fl with
    | ret u => exact I2.after hq
    | next => exact False.elim hq
    | brk => exact False.elim hq
    | cont => exact False.elim hq
end
/-! ## new objects made by keywords alone -/
structure MakK (P : Program) (w : World) (K : PySem.W.Frag) (mg : Str → Option Value) (base : Heap) (k : Nat) (x : Str) (C : Addr) (ks : List Str) (sp : Sp) : Prop where
  ex : ∃ (f : Addr) (fd : FuncData) (ps : List Str) (spf : Sp) (g : List Value → List Value → List Value) (gV : List V → List V → List V),
    Mk K C f ∧ FnOk P w K mg base CX0 k f fd ps spf ∧ mg x = some (.ref C) ∧ KBn K fd ps 1 ks g gV ∧ ∀ x zs H Q E, sp (x :: zs) H Q E → zs.length = ks.length ∧ spf (gV [x] zs) H Q E
def tMakK (C : Addr) (sp : Sp) (tk : TA) : TE := fun σ H Q => tk σ H fun zs H1 => ∀ x dx, H1 x = none → H1 dx = none → dx ≠ x → sp (.ref x :: zs) (upd (upd H1 dx (.own x)) x (.ins C dx [])) (fun v H3 => v = .non ∧ Q (.ref x) H3) E0
section
variable {X : Cx} {k j : Nat} {C : Addr} {x : Str} {ks : List Str} {sp : Sp} {p pos : Pos} {kws : List Keyword} {t : TA}
theorem pe_mkk (c : MakK X.prog X.w X.K X.mg X.base k x C ks sp) (hr : Room j X.A) (hk : k + 1 ≤ j) (hg : Gl X x) (ha : PK X kws t)
    (hall : (backToKw pos (keywordEach kws X.env)).all (·.1.isSome) = true := by rfl) (hks : (backToKw pos (keywordEach kws X.env)).filterMap (·.1) = ks := by rfl) (hdb : (x == ("__debug__" : Str)) = false := by decide)
    (hpl : ((backTo pos (starEach [] X.env)).any (·.1) || (backToKw pos (keywordEach kws X.env)).any (·.1.isNone)) = false := by rfl) : PE X (.Call (.Name x p) [] kws pos) (tMakK C sp t) := by
  obtain ⟨f, fd, ps, spf, g, gV, M, F, hm, hb, hs⟩ := c.ex
  refine ⟨fun pins s σ H Q I h => wpAny_Call_Name_kw (ld_glob I hg hm (PySem.W.callWith_KW0 (h₀ := X.base) I.ok.mod.kin M.kp hall (thn (ha.run pos pins s σ H _ I h) fun ws s2 hh => ?_) hpl) hdb)⟩
  obtain ⟨zs, H2, I2, rz, q2⟩ := hh
  refine ⟨I2.kIn, ?_⟩
  rw [hks]
  have lz : zs.length = ks.length := (hs _ _ _ _ _ (q2 (s2.heap.objs.size + 1) s2.heap.objs.size (I2.hok.fresh (Nat.le_succ _)) (I2.hok.fresh (Nat.le_refl _)) (Nat.ne_of_lt (Nat.lt_succ_self _)))).1
  exact run_makeK (us := []) (vs := []) M F (hr.mono hk) hb pass0 I2 .nil rz rfl lz fun x dx n1 n2 n3 => (hs _ _ _ _ _ (q2 x dx n1 n2 n3)).2
end
/-! ## list.count of plain values -/
def rCntF (K : PySem.W.Frag) : V → List V → Hp → VK → Prop := fun x xs H Q => ∃ (a : Addr) (ys : List V) (y : V), x = .ref a ∧ xs = [y] ∧ SqL K H a ys ∧ flatV y = true ∧ ys.all flatV = true ∧ Q (.int ((ys.countP fun z => eqV z y : Nat) : Int)) H
theorem count_flat {y : V} : ∀ {ys : List V} {us : List Value}, Vals ys us → ys.all flatV = true → us.countP (eqU y) = ys.countP fun z => eqV z y
  | _, _, .nil, _ => rfl
  | _, _, .cons (a := z) (b := u) r t, f => by
    rw [List.all_cons, Bool.and_eq_true] at f
    rw [List.countP_cons, List.countP_cons, count_flat t f.2, eqU_of r f.1]
theorem mt_countF {X : Cx} : MtR X "list.count" (rCntF X.K) := by
  intro pins s σ H x xs v us Q I rx rxs h
  obtain ⟨a, ys, y, rfl, rfl, hs, fy, fys, q⟩ := h
  cases rx
  obtain ⟨uy, rfl, ry⟩ := rxs.one
  obtain ⟨its, rv, ⟨⟨cls, dd, data, sl⟩, n, ho, hc, hdn, hd⟩, hlen⟩ := I.list hs
  simp only at hc hd
  subst hc hd
  refine call_meets PySem.F.slot_list_count ⟨_, ho, rfl⟩ PySem.F.entry_list_count (PySem.F.args_list_count_2 _ _) (SeqAt.list_countAt a its.toArray n dd sl uy (eqU y)) ⟨ho, fun u2 hu2 => mem_eqAt ry fy rv fys u2 (by simpa using hu2), ?_⟩
  refine ⟨.int ((ys.countP fun z => eqV z y : Nat) : Int), H, I.tok _, ⟨s.toks, ?_⟩, q⟩
  show Value.int ((its.toArray.toList.countP (eqU y) : Nat) : Int) s.toks = _
  rw [List.toList_toArray, count_flat rv fys]
/-! ## a method, an __init__ called by place and by keywords -/
theorem kbn_self {K : PySem.W.Frag} {x qual : Str} {st : Stmt} {f : Addr} {fd : FuncData} {ps ks : List Str} (F : Fun K x qual st f fd) (g : {α : Type} → α → List α → List α) (hg : ∀ {v : V} {u : Value} {vs : List V} {us : List Value}, RelV v u → Vals vs us → Vals (g v vs) (g u us))
    (h : ∀ (kV doc pm : Value) (an : Option Addr) (cdv ct u : Value) (ws : List Value), ws.length = ks.length →
      bindArgs (PySem.W.fnOf x qual (defArgs st) (defBody st) (defScope st) .none kV doc pm an cdv ct) ⟨[u], ks.zip ws⟩ = pure (ps.zip (g u ws))) : KBn K fd ps 1 ks (fun us ws => match us with | [u] => g u ws | _ => ws) (fun us ws => match us with | [u] => g u ws | _ => ws) := by
  obtain ⟨oc, od, kV, doc, pm, an, cdv, ct, osl, rfl, lk, hcd⟩ := F.ex
  refine ⟨fun s us ws X l1 l2 => ?_, fun r1 r2 => ?_⟩
  · match us, l1 with
    | [u], _ => exact .of_eq (h kV doc pm an cdv ct u ws l2)
  · cases r1 with
    | nil => exact r2
    | cons a r => cases r with
      | nil => exact hg a r2
      | cons b r => exact r2
section
variable {P : Program} {w : World} {K : PySem.W.Frag} {mg : Str → Option Value} {base : Heap} {C : Addr} {m x qual : Str} {st : Stmt} {ps ks N : List Str} {k : Nat} {sp spk : Sp}
theorem MetAt.metKX (D : MetAt K C m qual st ps) (cl : Cls K C) (S : FnScope N ps (defScope st)) (len : ∀ vs H Q E, sp vs H Q E → vs.length = ps.length)
    (hb : ∀ (f : Addr) (cdv : Value) (A : Around) (outer : List Env) (s : Shared) (H : Hp) (vs : List V) (Q : VK) (E : XK), Room k (A.deeper (envOfC qual (defScope st) s.heap.objs.size f cdv)) → sp vs H Q E →
      (Takes (cxOf (L2.CX P w) P w K mg base N qual (defScope st) f cdv A outer s H E) fun cls d _ G => E cls d G) →
      ∃ t, PSs (cxOf (L2.CX P w) P w K mg base N qual (defScope st) f cdv A outer s H E) (defBody st) t ∧ t { nx := fun _ H' => Q .non H', rt := Q } (start N vs) H)
    (g : {α : Type} → α → List α → List α) (hg : ∀ {v : V} {u : Value} {vs : List V} {us : List Value}, RelV v u → Vals vs us → Vals (g v vs) (g u us))
    (h : ∀ (kV doc pm : Value) (an : Option Addr) (cdv ct u : Value) (ws : List Value), ws.length = ks.length →
      bindArgs (PySem.W.fnOf m qual (defArgs st) (defBody st) (defScope st) .none kV doc pm an cdv ct) ⟨[u], ks.zip ws⟩ = pure (ps.zip (g u ws)))
    (hs : ∀ x zs H Q E, spk (x :: zs) H Q E → zs.length = ks.length ∧ sp (g x zs) H Q E) : MetX P w K mg base (k + 1) C m sp ∧ MetKX P w K mg base (k + 1) C m ks spk := by
  obtain ⟨f, fd, F, hm, b⟩ := D.ex
  have ok := F.okX S len fun cdv A outer s H vs Q E hr hsp => hb f cdv A outer s H vs Q E hr hsp (takes_of rfl rfl rfl rfl)
  exact ⟨⟨f, fd, ps, cl, hm, ok, b⟩, ⟨f, fd, ps, sp, _, _, cl, hm, ok, kbn_self F g hg h, hs⟩⟩
theorem IniAt.makK (D : IniAt K mg C x qual st ps) (S : FnScope N ps (defScope st)) (len : ∀ vs H Q E, sp vs H Q E → vs.length = ps.length)
    (hb : ∀ (f : Addr) (cdv : Value) (A : Around) (outer : List Env) (s : Shared) (H : Hp) (vs : List V) (Q : VK) (E : XK), Room k (A.deeper (envOfC qual (defScope st) s.heap.objs.size f cdv)) → sp vs H Q E →
      (Takes (cxOf (L2.CX P w) P w K mg base N qual (defScope st) f cdv A outer s H E) fun cls d _ G => E cls d G) →
      ∃ t, PSs (cxOf (L2.CX P w) P w K mg base N qual (defScope st) f cdv A outer s H E) (defBody st) t ∧ t { nx := fun _ H' => Q .non H', rt := Q } (start N vs) H)
    (g : {α : Type} → α → List α → List α) (hg : ∀ {v : V} {u : Value} {vs : List V} {us : List Value}, RelV v u → Vals vs us → Vals (g v vs) (g u us))
    (h : ∀ (kV doc pm : Value) (an : Option Addr) (cdv ct u : Value) (ws : List Value), ws.length = ks.length →
      bindArgs (PySem.W.fnOf "__init__" qual (defArgs st) (defBody st) (defScope st) .none kV doc pm an cdv ct) ⟨[u], ks.zip ws⟩ = pure (ps.zip (g u ws)))
    (hs : ∀ x zs H Q E, spk (x :: zs) H Q E → zs.length = ks.length ∧ sp (g x zs) H Q E0) : MakX P w K mg base (k + 1) x C sp ∧ MakK P w K mg base (k + 1) x C ks spk := by
  obtain ⟨f, fd, F, hm, hg2, b⟩ := D.ex
  have ok := F.okX S len fun cdv A outer s H vs Q E hr hsp => hb f cdv A outer s H vs Q E hr hsp (takes_of rfl rfl rfl rfl)
  have ok0 : FnOk P w K mg base CX0 (k + 1) f fd ps (fun vs H Q _ => sp vs H Q E0) := fn_calm ok fun vs H Q E z => z
  exact ⟨⟨f, fd, ps, hm, ok, hg2, b⟩, ⟨f, fd, ps, _, _, _, hm, ok0, hg2, kbn_self F g hg h, hs⟩⟩
end
/-! ## [.. for i, x in enumerate(xs) ..] -/
theorem lc_enum {K : PySem.W.Frag} {a : Addr} {xs : List V} {g : TG} {tt : TT} {te : TE} {vs : List Nat} {σ : L2.St} {H1 : Hp} {D : Addr} {Qd : Hp → Prop} (Pv : Nat → Hp → Prop) (h0 : Pv 0 (upd H1 D (.lst []))) (hq : ∀ i H, Pv i H → SqL K H a xs)
    (hs : ∀ (i : Nat) (x : V) (T : Addr) (H : Hp), xs[i]? = some x → Pv i H → H T = none → g (.ref T) (wipe σ vs) (upd H T (.tup [.int (i : Nat), x])) fun σ2 H2 => wipe σ2 vs = wipe σ vs ∧ tt σ2 H2 fun b H3 =>
      if b = true then te σ2 H3 fun y H4 => ∃ acc, H4 D = some (.lst acc) ∧ acc.length < sizeLine ∧ Pv (i + 1) (upd H4 D (.lst (acc ++ [y]))) else Pv (i + 1) H3) (hd : ∀ H, Pv xs.length H → Qd H) :
    ∃ W : Nat → Nat → Hp → Prop, (∃ m, W 0 m (upd H1 D (.lst []))) ∧ ∀ i m H, W i m H →
      ((Ite K a).stop i H ∧ Qd H) ∨ ((Ite K a).go i H ∧ ∃ Nx : Hp → Prop, (∀ H', Nx H' → ∃ m', m' < m ∧ W (i + 1) m' H') ∧ ∀ x H', (Ite K a).yld i H x H' → g x (wipe σ vs) H' fun σ2 H2 => wipe σ2 vs = wipe σ vs ∧ tt σ2 H2 fun b H3 =>
        if b = true then te σ2 H3 fun y H4 => ∃ acc, H4 D = some (.lst acc) ∧ acc.length < sizeLine ∧ Nx (upd H4 D (.lst (acc ++ [y]))) else Nx H3) := by
  refine ⟨fun i m H => m + i = xs.length ∧ Pv i H, ⟨xs.length, rfl, h0⟩, fun i m H hW => ?_⟩
  obtain ⟨em, p⟩ := hW
  have q := hq i H p
  by_cases lt : i < xs.length
  · have ex : xs[i]? = some xs[i] := List.getElem?_eq_getElem lt
    refine .inr ⟨⟨xs, _, q, ex⟩, Pv (i + 1), fun H' p' => ⟨m - 1, by omega, by omega, p'⟩, fun v H' hy => ?_⟩
    obtain ⟨T, x, rfl, nT, rfl, f⟩ := hy
    exact hs i x T H (f xs q) p nT
  · have ei : i = xs.length := by omega
    subst ei
    exact .inl ⟨⟨xs, q, Nat.le_refl _⟩, hd H p⟩
/-! ## a kept exception stays -/
theorem Kept.same {H H' : Hp} {a C : Addr} {fs : List (Str × V)} (k : Kept H a C fs) (s : Same H H') : Kept H' a C fs := by
  obtain ⟨d, ⟨h1, h2⟩ | ⟨h1, h2⟩⟩ := k
  · exact ⟨d, .inl ⟨s _ _ h1, s _ _ h2⟩⟩
  · exact ⟨d, .inr ⟨s _ _ h1, s _ _ h2⟩⟩
theorem kept_new {H : Hp} {a C d : Addr} {fs : List (Str × V)} (na : H a = none) (hd : H d = some (.xd fs)) : Kept (upd H a (Xo a (.ref C) (some d))) a C fs := ⟨d, .inl ⟨upd_same, upd_keep na hd⟩⟩
theorem But.same {o : Addr} {H H1 H' : Hp} (b : But o H1 H') (s : Same H H1) (n : H o = none) : Same H H' := fun c u e => b c u (fun z => by
  rw [z, n] at e
  cases e) (s c u e)
theorem exm_mk {K : PySem.W.Frag} {C S : Addr} {b : Bool} (h1 : PySem.W.subIn K (.ref S) (.type "BaseException") = some true) (h2 : PySem.W.isClsIn K S = true) (h3 : PySem.W.typeIn K (.ref S) = some (.type "type")) (h4 : PySem.W.subIn K (.ref C) (.ref S) = some b) : PySem.W.exmOne K (.ref C) (.ref S) = some b := by
  have e1 : (PySem.W.subIn K (.ref S) (.type "BaseException") == some true) = true := by rw [h1] <;> rfl
  have e2 : ((PySem.W.clsIn K S).isSome && PySem.W.typeIn K (.ref S) == some (.type "type")) = true := by
    have h2' : (PySem.W.clsIn K S).isSome = true := h2
    rw [h2', h3] <;> rfl
  show (if (PySem.W.subIn K (.ref S) (.type "BaseException") == some true) = true then (if ((PySem.W.clsIn K S).isSome && PySem.W.typeIn K (.ref S) == some (.type "type")) = true then PySem.W.subIn K (.ref C) (.ref S) else none) else none) = some b
  rw [if_pos e1, if_pos e2]
  exact h4
end Sq


set_option Elab.async false
set_option maxRecDepth 100000
set_option maxHeartbeats 4000000
namespace Sq
open PySem PySem.Spec PyProof.Rows L2
/-! ## a, *b = a list -/
theorem star_list {prog : Program} {w : World} {A : Around} {E : Value → Shared → Prop} {s : Shared} {l : Addr} {items : Array Value} {n i : Nat} {Q : List Value → Shared → Prop} (hl : s.heap.IsList l items) (hh : A.handled = none) (hi : i < n) (hn : n ≤ items.size + 1) (hz : items.size ≤ 16384)
    (h : ∀ (h₂ : Heap) (tk : Nat), (∀ b o, s.heap.get? b = some o → h₂.get? b = some o) → Q (items.toList.take i ++ [.ref h₂.objs.size] ++ (items.toList.drop i).drop (items.size + 1 - n)) { s with heap := h₂.push { cls := .type "list", data := .seq ((items.toList.drop i).take (items.size + 1 - n)).toArray }, toks := tk }) :
    wpAny (model prog w) A (unpackItems (.ref l) n (some i)) Q E s := by
  have hlt : l ≠ s.heap.objs.size := by obtain ⟨o, ho, _⟩ := hl; exact Nat.ne_of_lt (Heap.lt_size ho)
  have hll : l < s.heap.objs.size := by obtain ⟨o, ho, _⟩ := hl; exact Heap.lt_size ho
  unfold unpackItems
  refine wpAny_bind ?_
  unfold notIterableAtAll
  refine wpAny_bind (wpAny_specialOf hl.typeIs PySem.F.slot_list_iter.lookup ?_)
  refine wpAny_pure ?_
  simp only [Bool.false_eq_true, if_false]
  refine wpAny_bind (wpAny_holding (wpAny_pyIter_list hl ?_))
  refine wpAny_bind (wpAny_holding (PySem.W.kun_draw hlt i 0 _ _ ⟨_, Heap.get?_push_size _ rfl, rfl, rfl⟩ (hl.push _) (by omega) fun h₁ hit₁ hs₁ => ?_))
  have hl₁ : h₁.IsList l items := (hl.push _).extBut hs₁.extBut hlt
  rw [Nat.zero_add] at hit₁
  have hit₁' := hit₁
  obtain ⟨oi, hoi, _⟩ := hit₁'
  have hl₁' := hl₁
  obtain ⟨ol, hol, _⟩ := hl₁'
  rw [List.drop_zero]
  have hfl : (items.toList.take i).length = i := by rw [List.length_take, Array.length_toList]; omega
  rw [if_neg (show ¬ ((items.toList.take i).length < i) by rw [hfl]; omega)]
  refine wpAny_bind (wpAny_holding (PySem.W.kun_collect (s := { s with heap := h₁ }) (T := "list_iterator") (.inr (.inr (.inl rfl))) (Walks.list (A := A.in1) hh s.heap.objs.size l hlt items) (fun j u st => st.1.typeIs) (k := i) (by omega) ⟨hit₁, hl₁⟩ (Heap.lt_size hoi) (Heap.lt_size hol) (fun h₂ tk hk => ?_) (by rw [sizeLine_eq]; omega)))
  have hrl : (items.toList.drop i).length = items.size - i := by rw [List.length_drop, Array.length_toList]
  have hmid : (items.toList.drop i).length - (n - 1 - i) = items.size + 1 - n := by rw [hrl]; omega
  show wpAny _ _ (if (items.toList.drop i).length < n - 1 - i then _ else _) _ _ _
  rw [if_neg (by rw [hrl]; omega)]
  show wpAny _ _ (newList ((items.toList.drop i).take ((items.toList.drop i).length - (n - 1 - i))) >>= fun d => pure (items.toList.take i ++ [d] ++ (items.toList.drop i).drop ((items.toList.drop i).length - (n - 1 - i)))) _ _ _
  rw [hmid]
  have he : ∀ b o, s.heap.get? b = some o → h₂.get? b = some o := fun b o e => hk b o (Nat.ne_of_lt (Heap.lt_size e)) (hs₁.extBut b o (Nat.ne_of_lt (Heap.lt_size e)) (Heap.get?_push_of_some _ e))
  exact wpAny_bind (wpAny_newList (wpAny_pure (h h₂ tk he)) (by rw [List.length_take, hrl, sizeLine_eq]; omega))
def gStar (K : PySem.W.Frag) (t : TGs) : TG := fun v σ H Q => ∃ a x xs, v = .ref a ∧ SqL K H a (x :: xs) ∧ xs.length ≤ 16000 ∧ ∀ D, H D = none → t [x, .ref D] σ (upd H D (.lst xs)) Q
section
variable {X : Cx} {K : PySem.W.Frag} {e : Expr} {es : List Expr} {t : TG} {u ts : TGs} {p pos : Pos} {k : Nat}
theorem pgs_star (h1 : PG X e t) (h2 : PGs X es u) (hs : (assignEach (.Starred e p :: es) X.env).map (·.2) = assign e X.env :: (assignEach es X.env).map (·.2) := by rfl) : PGs X (.Starred e p :: es) (gCons t u) := by
  refine ⟨fun pins s σ H vs us Q I r h => ?_⟩
  obtain ⟨v, vr, e1, h⟩ := h
  subst e1
  cases r with
  | cons r rr =>
    rw [hs]
    refine assignInOrder_cons (thn (h1.run pins s σ H _ _ _ I r h) fun _ s1 ⟨σ1, H1, I1, q1⟩ => ?_)
    exact h2.run pins s1 σ1 H1 _ _ Q I1 rr q1
/-- a, *b = a list -/
theorem pg_star (hc : X.calm = true) (h : PGs X es ts) (hn : (assignEach es X.env).length = 2 := by rfl) (hst : (assignEach es X.env).findIdx? (·.1) = some 1 := by rfl) (hK : X.K = K := by rfl) : PG X (.Tuple es k pos) (gStar K ts) := by
  subst hK
  refine ⟨fun pins s σ H v u Q I r hw => ?_⟩
  obtain ⟨a, x, xs, e1, hq, hl, hw⟩ := hw
  subst e1
  cases r
  obtain ⟨its, rv, pl, hz⟩ := I.list hq
  have hl' : s.heap.IsList a its.toArray := by
    obtain ⟨o, m, e, c, d, q⟩ := pl
    exact ⟨o, e, c, m, q⟩
  rw [PyProof.Rows.assign_Tuple]
  refine wpAny_bind (wpAny_standAt ?_)
  unfold unpack
  rw [hn, hst]
  cases rv with
  | @cons _ v0 _ vs0 r0 rr =>
    have hlen : vs0.length = xs.length := rr.length.symm
    refine wpAny_bind (wpAny_holding (star_list hl' (I.ok.hd hc) (by decide) (by rw [List.size_toArray, List.length_cons]; omega) (by rw [List.size_toArray, List.length_cons]; omega) fun h₂ tk kp => ?_))
    have I1 : Inv X pins σ H { s with heap := h₂, toks := tk } := I.kept kp
    have em : (((v0 :: vs0).toArray.toList.drop 1).take ((v0 :: vs0).toArray.size + 1 - 2)) = vs0 := by
      rw [List.toList_toArray, List.size_toArray, List.length_cons, List.drop_one, List.tail_cons]
      exact List.take_of_length_le (by omega)
    have el : (((v0 :: vs0).toArray.toList.drop 1).drop ((v0 :: vs0).toArray.size + 1 - 2)) = [] := by
      rw [List.toList_toArray, List.size_toArray, List.length_cons, List.drop_one, List.tail_cons]
      exact List.drop_eq_nil_of_le (by omega)
    have hf := I1.hok.fresh (Nat.le_refl _)
    have I2 : Inv X pins σ (upd H h₂.objs.size (.lst xs)) { s with heap := h₂.push { cls := .type "list", data := .seq vs0.toArray }, toks := tk } :=
      I1.laid (t' := tk) (fun b u q => Heap.get?_push_of_some _ q) (Nat.le_refl _) ⟨by rw [sizeLine_eq]; omega, vs0, _, rr, Heap.get?_push_size _ rfl⟩
    rw [em, el]
    exact h.run pins _ σ _ [x, .ref h₂.objs.size] [v0, .ref h₂.objs.size] Q I2 (.cons r0 (.cons rfl .nil)) (hw _ hf)
end
def tStarL (K : PySem.W.Frag) (te : TE) (t : TA) : TA := fun σ H Q => te σ H fun x H1 => ∃ (p : Addr) (xs : List V), x = V.ref p ∧ SqL K H1 p xs ∧ t σ H1 fun ys H2 => Q (xs ++ ys) H2
/-- *e in a display, e a list -/
theorem pa_starK {X : Cx} {K : PySem.W.Frag} {e : Expr} {es : List Expr} {te : TE} {t : TA} {p : Pos} (he : PE X e te) (hr : PA X es t) (hs : starEach (.Starred e p :: es) X.env = (true, eval e X.env) :: starEach es X.env := by rfl) (hK : X.K = K := by rfl) : PA X (.Starred e p :: es) (tStarL K te t) := by
  subst hK
  have z := StX.pa_star (pe_wk he) hr hs
  refine ⟨fun pos pins s σ H Q I h => z.run pos pins s σ H Q I ⟨_, h, fun v G q => ?_⟩⟩
  obtain ⟨a, xs, e, hq, q⟩ := q
  exact ⟨a, xs, e, .inr hq, q⟩
theorem pe_gc {X : Cx} {x : Str} {v : V} {pos : Pos} (hg : Gl X x) (h : ∃ u, X.mg x = some u ∧ RelV v u) (hdb : (x == ("__debug__" : Str)) = false := by decide) : PE X (.Name x pos) (tC v) := by
  obtain ⟨u, a, b⟩ := h
  exact pe_glob hg a b hdb
/-! ## texts of lists, sign by sign -/
def dig (c : Nat) : Bool := decide (48 ≤ c) && decide (c ≤ 57)
def wrd (n t : Nat) : List Nat := if 1 < t then TL.numL n ++ 94 :: TL.numL t else TL.numL n
/-- equal neighbours, and how often -/
def grpS (acc : List (Int × Nat)) (k : Int) : List (Int × Nat) := match acc.getLast? with
  | some (a, c) => if a = k then acc.dropLast ++ [(a, c + 1)] else acc ++ [(k, 1)]
  | none => [(k, 1)]
def grp (ns : List Int) : List (Int × Nat) := ns.foldl grpS []
def ungrp (ps : List (Int × Nat)) : List Int := ps.flatMap fun p => List.replicate p.2 p.1
theorem ungrp_app (a b : List (Int × Nat)) : ungrp (a ++ b) = ungrp a ++ ungrp b := List.flatMap_append
theorem last_split {α : Type} {l : List α} {x : α} (h : l.getLast? = some x) : l = l.dropLast ++ [x] := by
  have ne : l ≠ [] := fun e => by
    rw [e] at h
    cases h
  rw [List.getLast?_eq_some_getLast ne] at h
  have e := List.dropLast_concat_getLast ne
  rw [Option.some.inj h] at e
  exact e.symm
theorem ungrp_step (acc : List (Int × Nat)) (k : Int) : ungrp (grpS acc k) = ungrp acc ++ [k] := by
  unfold grpS
  cases h : acc.getLast? with
  | none =>
    have e : acc = [] := by
      cases acc with
      | nil => rfl
      | cons a t => simp at h
    subst e
    simp [ungrp]
  | some p =>
    obtain ⟨a, c⟩ := p
    have e := last_split h
    simp only
    split
    · rename_i z
      subst z
      rw [ungrp_app]
      conv => rhs; rw [e, ungrp_app]
      simp [ungrp, List.replicate_succ']
    · rw [ungrp_app]
      simp [ungrp]
theorem ungrp_fold : ∀ (ns : List Int) (acc : List (Int × Nat)), ungrp (ns.foldl grpS acc) = ungrp acc ++ ns
  | [], acc => by simp
  | k :: r, acc => by
    rw [List.foldl_cons, ungrp_fold r, ungrp_step, List.append_assoc]
    rfl
theorem ungrp_grp (ns : List Int) : ungrp (grp ns) = ns := by
  unfold grp
  rw [ungrp_fold]
  simp [ungrp]
/-- the counts are at least 1; what stands there stands in the list -/
def GrpOk (b : Int → Prop) (N : Nat) (ps : List (Int × Nat)) : Prop := ∀ p ∈ ps, b p.1 ∧ 1 ≤ p.2 ∧ p.2 ≤ N
theorem grp_step {b : Int → Prop} {N : Nat} {acc : List (Int × Nat)} {k : Int} (h : GrpOk b N acc) (hk : b k) : GrpOk b (N + 1) (grpS acc k) := by
  have up : ∀ p ∈ acc, b p.1 ∧ 1 ≤ p.2 ∧ p.2 ≤ N + 1 := fun p hp => ⟨(h p hp).1, (h p hp).2.1, Nat.le_succ_of_le (h p hp).2.2⟩
  unfold grpS
  cases e : acc.getLast? with
  | none =>
    intro p hp
    rw [List.mem_singleton.mp hp]
    exact ⟨hk, Nat.le_refl _, by simp⟩
  | some q =>
    obtain ⟨a, c⟩ := q
    have es := last_split e
    have hq := h (a, c) (by rw [es]; simp)
    simp only
    split
    · intro p hp
      rcases List.mem_append.mp hp with z | z
      · exact up p (List.dropLast_subset _ z)
      · rw [List.mem_singleton.mp z]
        exact ⟨hq.1, by simp, by have := hq.2.2; simp only at this ⊢; omega⟩
    · intro p hp
      rcases List.mem_append.mp hp with z | z
      · exact up p z
      · rw [List.mem_singleton.mp z]
        exact ⟨hk, Nat.le_refl _, by simp⟩
theorem grp_fold {b : Int → Prop} : ∀ (ns : List Int) (N : Nat) (acc : List (Int × Nat)), GrpOk b N acc → (∀ k ∈ ns, b k) → GrpOk b (N + ns.length) (ns.foldl grpS acc)
  | [], N, acc, h, _ => h
  | k :: r, N, acc, h, hk => by
    have := grp_fold r (N + 1) (grpS acc k) (grp_step h (hk k (List.mem_cons_self ..))) fun j hj => hk j (List.mem_cons_of_mem _ hj)
    rw [List.foldl_cons, List.length_cons, show N + (r.length + 1) = N + 1 + r.length by omega]
    exact this
theorem grp_ok {b : Int → Prop} {ns : List Int} (h : ∀ k ∈ ns, b k) : GrpOk b ns.length (grp ns) := by
  have := grp_fold ns 0 [] (fun p z => nomatch z) h
  rw [Nat.zero_add] at this
  exact this
theorem grp_snoc (ns : List Int) (k : Int) : grp (ns ++ [k]) = grpS (grp ns) k := by
  unfold grp
  rw [List.foldl_append]
  rfl
theorem grpS_len (acc : List (Int × Nat)) (k : Int) : (grpS acc k).length ≤ acc.length + 1 ∧ 0 < (grpS acc k).length := by
  unfold grpS
  cases e : acc.getLast? with
  | none => simp
  | some q =>
    obtain ⟨a, c⟩ := q
    have es := congrArg List.length (last_split e)
    simp only [List.length_append, List.length_singleton] at es
    simp only
    split <;> simp <;> omega
theorem grp_len (ns : List Int) : (grp ns).length ≤ ns.length := by
  have : ∀ (ns : List Int) (acc : List (Int × Nat)), (ns.foldl grpS acc).length ≤ acc.length + ns.length := by
    intro ns
    induction ns with
    | nil => intro acc; simp
    | cons k r ih =>
      intro acc
      have a := ih (grpS acc k)
      have b := (grpS_len acc k).1
      rw [List.foldl_cons, List.length_cons]
      omega
  have a := this ns []
  simpa [grp] using a
theorem grp_nil {ns : List Int} : grp ns = [] ↔ ns = [] := by
  constructor
  · intro h
    have e := ungrp_grp ns
    rw [h] at e
    exact e.symm
  · rintro rfl
    rfl
def noneL : List Nat := [110, 111, 110, 101]
def wrds (ns : List Int) : List (List Nat) := (grp ns).map fun p => wrd p.1.toNat p.2
def showL (ns : List Int) : List Nat := if ns = [] then noneL else TL.joinL [44, 32] (wrds ns)
/-! ## and read back -/
def numIn (w : List Nat) : Option Nat := if 1 ≤ w.length ∧ w.length ≤ 200 ∧ w.all dig = true then some (NumText.digitsVal w) else none
def numsIn (w : List Nat) : Option (List Int) := match TL.spl [94] 0 [] w with
  | [] => none
  | f :: o => match numIn f, (match o with | [] => some 1 | t :: _ => numIn t) with
    | some n, some t => if 1 < o.length ∨ n < 2 then none else some (List.replicate t (n : Int))
    | _, _ => none
theorem dig_num (n : Nat) : (TL.numL n).all dig = true := by
  rw [List.all_eq_true]
  intro c hc
  have := TL.numL_digits n c hc
  unfold dig
  rw [Bool.and_eq_true, decide_eq_true_eq, decide_eq_true_eq]
  exact this
theorem numIn_num {n : Nat} (h : (TL.numL n).length ≤ 200) : numIn (TL.numL n) = some n := by
  unfold numIn
  have l : 1 ≤ (TL.numL n).length := by
    cases e : TL.numL n with
    | nil => exact absurd e (TL.numL_ne n)
    | cons a t => simp
  rw [if_pos ⟨l, h, dig_num n⟩, TL.numL_val]
theorem free94 (n : Nat) : 94 ∉ TL.numL n := TL.numL_free (.inr (by decide))
theorem free44 (n t : Nat) : 44 ∉ wrd n t := by
  unfold wrd
  have a : ∀ m, 44 ∉ TL.numL m := fun m => TL.numL_free (.inl (by decide))
  split
  · simp only [List.mem_append, List.mem_cons, not_or]
    exact ⟨a n, by decide, a t⟩
  · exact a n
theorem spl_wrd (n t : Nat) : TL.spl [94] 0 [] (wrd n t) = if 1 < t then [TL.numL n, TL.numL t] else [TL.numL n] := by
  unfold wrd
  split
  · have e := TL.spl_part1 (s := 94) (S := []) (p := TL.numL n) (rest := TL.numL t) (acc := []) (free94 n)
    rw [show TL.numL n ++ 94 :: TL.numL t = TL.numL n ++ ([94] ++ TL.numL t) from rfl, e, TL.spl_last1 (free94 t)]
    rfl
  · rw [TL.spl_last1 (free94 n)]
    rfl
theorem nums_wrd {n t : Nat} (hn : (TL.numL n).length ≤ 200) (ht : (TL.numL t).length ≤ 200) (h2 : 2 ≤ n) (h1 : 1 ≤ t) : numsIn (wrd n t) = some (List.replicate t (n : Int)) := by
  unfold numsIn
  rw [spl_wrd]
  by_cases h : 1 < t
  · rw [if_pos h]
    simp only [numIn_num hn, numIn_num ht]
    rw [if_neg (by simp; omega)]
  · rw [if_neg h]
    simp only [numIn_num hn]
    rw [if_neg (by simp; omega), show t = 1 by omega]
theorem free110 (n t : Nat) : 110 ∉ wrd n t := by
  unfold wrd
  have a : ∀ m, 110 ∉ TL.numL m := fun m => TL.numL_free (.inr (by decide))
  split
  · simp only [List.mem_append, List.mem_cons, not_or]
    exact ⟨a n, by decide, a t⟩
  · exact a n
theorem wrds_ne {ns : List Int} (h : ns ≠ []) : wrds ns ≠ [] := fun e => h (grp_nil.mp (List.map_eq_nil_iff.mp e))
theorem spl_show {ns : List Int} (h : ns ≠ []) : TL.spl [44, 32] 0 [] (showL ns) = wrds ns := by
  unfold showL
  rw [if_neg h]
  refine TL.spl_join (wrds_ne h) fun p hp => ?_
  obtain ⟨q, _, rfl⟩ := List.mem_map.mp hp
  exact free44 _ _
theorem show_ne {ns : List Int} (h : ns ≠ []) : showL ns ≠ noneL := fun e => by
  have a := spl_show h
  rw [e, TL.spl_last1 (show 44 ∉ noneL by decide)] at a
  have m : noneL ∈ wrds ns := by
    rw [← a]
    simp
  obtain ⟨q, _, eq⟩ := List.mem_map.mp m
  have : 110 ∈ noneL := by decide
  rw [← eq] at this
  exact free110 _ _ this
theorem show_inj_nil {ns : List Int} : showL ns = noneL ↔ ns = [] := ⟨fun e => Classical.byContradiction fun h => show_ne h e, fun e => by
  subst e
  rfl⟩
/-- lists that are shown and read here -/
def Nice (ns : List Int) : Prop := (∀ k ∈ ns, 2 ≤ k ∧ k < 10 ^ 200) ∧ ns.length ≤ 5000
theorem num_len {k : Int} (h0 : 0 ≤ k) (h : k < 10 ^ 200) : (TL.numL k.toNat).length ≤ 200 := by
  have e : ((10 : Int) ^ 200) = ((10 ^ 200 : Nat) : Int) := by norm_cast
  refine TL.numL_len (by decide) ?_
  rw [e] at h
  omega
theorem lt5 {n : Nat} (h : n ≤ 5000) : n < sizeLine := by
  rw [sizeLine_eq]
  omega
theorem num_len3 {t : Nat} (h : t ≤ 5000) : (TL.numL t).length ≤ 4 := TL.numL_len (by decide) (by omega)
theorem Nice.grp {ns : List Int} (h : Nice ns) : GrpOk (fun k => 2 ≤ k ∧ k < 10 ^ 200) 5000 (grp ns) := fun p hp => by
  have := grp_ok h.1 p hp
  have l := h.2
  exact ⟨this.1, this.2.1, by omega⟩
theorem wrd_len {k : Int} {t : Nat} (h0 : 0 ≤ k) (h : k < 10 ^ 200) (ht : t ≤ 5000) : (wrd k.toNat t).length ≤ 205 := by
  have a := num_len h0 h
  have b := num_len3 ht
  unfold wrd
  split
  · rw [List.length_append, List.length_cons]
    omega
  · omega
theorem join_len (s : List Nat) : ∀ ws : List (List Nat), (TL.joinL s ws).length ≤ (ws.map (·.length)).sum + ws.length * s.length
  | [] => by simp [TL.joinL]
  | [p] => by simp [TL.joinL]
  | p :: q :: r => by
    have ih := join_len s (q :: r)
    simp only [TL.joinL, List.length_append, List.map_cons, List.sum_cons, List.length_cons] at ih ⊢
    have : (r.length + 1 + 1) * s.length = (r.length + 1) * s.length + s.length := by rw [Nat.add_mul (r.length + 1) 1]; omega
    omega
theorem sum_le {b : Nat} : ∀ {ws : List (List Nat)}, (∀ w ∈ ws, w.length ≤ b) → (ws.map (·.length)).sum ≤ ws.length * b
  | [], _ => by simp
  | w :: r, h => by
    have a := h w (List.mem_cons_self ..)
    have c := sum_le (ws := r) fun x hx => h x (List.mem_cons_of_mem _ hx)
    rw [List.map_cons, List.sum_cons, List.length_cons, Nat.add_mul]
    omega
theorem Nice.words {ns : List Int} (h : Nice ns) : (∀ w ∈ wrds ns, w.length ≤ 205) ∧ (wrds ns).length ≤ 5000 := by
  refine ⟨fun w hw => ?_, ?_⟩
  · obtain ⟨p, hp, rfl⟩ := List.mem_map.mp hw
    obtain ⟨a, b, c⟩ := h.grp p hp
    exact wrd_len (by omega) a.2 c
  · unfold wrds
    rw [List.length_map]
    exact Nat.le_trans (grp_len ns) h.2
theorem Nice.len {ns : List Int} (h : Nice ns) : (showL ns).length ≤ 1050000 := by
  obtain ⟨a, b⟩ := h.words
  unfold showL
  split
  · decide
  · have c := join_len [44, 32] (wrds ns)
    have d := sum_le a
    have e := Nat.mul_le_mul_right 205 b
    have f : (wrds ns).length * ([44, 32] : List Nat).length ≤ 5000 * 2 := Nat.mul_le_mul_right 2 b
    omega
theorem wrds_get {ns : List Int} {i : Nat} {w : List Nat} (h : (wrds ns)[i]? = some w) : ∃ p, (grp ns)[i]? = some p ∧ w = wrd p.1.toNat p.2 := by
  unfold wrds at h
  rw [List.getElem?_map] at h
  cases e : (grp ns)[i]? with
  | none =>
    rw [e] at h
    cases h
  | some p =>
    rw [e] at h
    exact ⟨p, rfl, (Option.some.inj h).symm⟩
theorem ungrp_take {ps : List (Int × Nat)} {i : Nat} {p : Int × Nat} (h : ps[i]? = some p) : ungrp (ps.take (i + 1)) = ungrp (ps.take i) ++ List.replicate p.2 p.1 := by
  rw [List.take_add_one, h, ungrp_app]
  simp [ungrp]
/-! ## the pairs in the heap -/
def Prs (H : Hp) (l : Addr) (ps : List (Int × Nat)) : Prop := ∃ ts : List Addr, H l = some (.lst (ts.map V.ref)) ∧ ts.length = ps.length ∧ ∀ (i : Nat) (t : Addr) (p : Int × Nat), ts[i]? = some t → ps[i]? = some p → H t = some (.tup [.int p.1, .int ((p.2 : Nat) : Int)])
theorem Prs.same {H H' : Hp} {l : Addr} {ps : List (Int × Nat)} (h : Prs H l ps) (s : Same H H') : Prs H' l ps := by
  obtain ⟨ts, a, b, c⟩ := h
  exact ⟨ts, s _ _ a, b, fun i t p h1 h2 => s _ _ (c i t p h1 h2)⟩
def dPs (ps : List (Int × Nat)) : PyData := .list (ps.map fun p => .tuple [.int p.1, .int ((p.2 : Nat) : Int)])
theorem dpall_prs {K : PySem.W.Frag} {H : Hp} : ∀ (ts : List Addr) (ps : List (Int × Nat)), ts.length = ps.length → (∀ (i : Nat) (t : Addr) (p : Int × Nat), ts[i]? = some t → ps[i]? = some p → H t = some (.tup [.int p.1, .int ((p.2 : Nat) : Int)])) →
    DpAll K H (ts.map V.ref) (ps.map fun p => .tuple [.int p.1, .int ((p.2 : Nat) : Int)])
  | [], [], _, _ => .nil
  | [], _ :: _, h, _ => by simp at h
  | _ :: _, [], h, _ => by simp at h
  | t :: ts, p :: ps, h, c => .cons (.tup (SqT.of (c 0 t p rfl rfl)) (.cons (.int _) (.cons (.int _) .nil))) (dpall_prs ts ps (by simpa using h) fun i t' p' h1 h2 => c (i + 1) t' p' (by simpa using h1) (by simpa using h2))
theorem dp_prs {K : PySem.W.Frag} {H : Hp} {l : Addr} {ps : List (Int × Nat)} (h : Prs H l ps) : Dp K H (.ref l) (dPs ps) := by
  obtain ⟨ts, a, b, c⟩ := h
  exact .lst (seqL_of a) (dpall_prs ts ps b c)
theorem can_prs : ∀ ps : List (Int × Nat), PyData.canLayAll0 (ps.map fun p => .tuple [.int p.1, .int ((p.2 : Nat) : Int)]) = true
  | [] => by simp [PyData.canLayAll0]
  | p :: r => by simp [PyData.canLayAll0, PyData.canLay0, can_prs r]
theorem dep_prs : ∀ ps : List (Int × Nat), PyData.depthAll (ps.map fun p => .tuple [.int p.1, .int ((p.2 : Nat) : Int)]) ≤ 1
  | [] => by simp [PyData.depthAll]
  | p :: r => by
    have := dep_prs r
    simp only [List.map_cons, PyData.depthAll, PyData.depth]
    omega
theorem shaped_prs (ps : List (Int × Nat)) : SeqAt.shaped (dPs ps) = true := by
  have := dep_prs ps
  unfold SeqAt.shaped dPs
  rw [Bool.and_eq_true, decide_eq_true_eq]
  refine ⟨by simp only [PyData.canLay0, can_prs], ?_⟩
  show PyData.depth _ ≤ 64
  rw [PyData.depth]
  omega
theorem eqv_prs0 (ps : List (Int × Nat)) : PyData.eqv (dPs ps) (dI []) = decide (ps = []) := by
  unfold dPs dI
  cases ps with
  | nil => simp [PyData.eqv, PyData.eqvAll]
  | cons a r => simp [PyData.eqv, PyData.eqvAll]
/-- found != [] -/
theorem r_nePs {K : PySem.W.Frag} {H : Hp} {l b : Addr} {ps : List (Int × Nat)} {Q : VK} (h1 : Prs H l ps) (h2 : SqL K H b (iv [])) (q : Q (.bl (!decide (ps = []))) H) : rNeQ K (.ref l) (.ref b) H Q :=
  rNeQ_of ⟨dPs ps, dI [], dp_prs h1, dp_iv h2, shaped_prs ps, shaped_dI [], by rw [eqv_prs0]; exact q⟩
theorem Prs.last {H : Hp} {l : Addr} {ps : List (Int × Nat)} {a : Int} {c : Nat} (h : Prs H l ps) (e : ps.getLast? = some (a, c)) :
    ∃ (ts : List Addr) (t : Addr) (j : Nat), H l = some (.lst (ts.map V.ref)) ∧ ixN (ts.map V.ref).length (-1) = some j ∧ atI (ts.map V.ref) (-1) = some (.ref t) ∧ H t = some (.tup [.int a, .int ((c : Nat) : Int)]) ∧
      ∀ (T : Addr) (k : Int) (H' : Hp), (∀ b o, b ≠ l → H b = some o → H' b = some o) → H' T = some (.tup [.int k, .int (((c + 1 : Nat) : Nat) : Int)]) → H' l = some (.lst ((ts.map V.ref).set j (.ref T))) → Prs H' l (ps.dropLast ++ [(k, c + 1)]) := by
  obtain ⟨ts, h1, h2, h3⟩ := h
  have ep := last_split e
  have lp := congrArg List.length ep
  simp only [List.length_append, List.length_singleton, List.length_dropLast] at lp
  have hpos : 0 < ts.length := by omega
  have lt : ts.length - 1 < ts.length := by omega
  have ix : ixN (ts.map V.ref).length (-1) = some (ts.length - 1) := by
    rw [List.length_map]
    unfold ixN
    rw [if_neg (by omega)]
    rw [if_pos (by omega)]
    congr 1
    omega
  have eg : ps[ts.length - 1]? = some (a, c) := by
    rw [h2, ep]
    simp
  refine ⟨ts, ts[ts.length - 1], ts.length - 1, h1, ix, ?_, h3 _ _ _ (List.getElem?_eq_getElem lt) eg, fun T k H' keep hT hl => ?_⟩
  · unfold atI
    rw [ix]
    show (ts.map V.ref)[ts.length - 1]? = _
    rw [List.getElem?_map, List.getElem?_eq_getElem lt]
    rfl
  · refine ⟨ts.set (ts.length - 1) T, by rw [hl, List.map_set], by rw [List.length_set, List.length_append, List.length_dropLast, List.length_singleton]; omega, fun i t p ht hp => ?_⟩
    have li : i < ts.length := by
      have := (List.getElem?_eq_some_iff.mp ht).1
      rw [List.length_set] at this
      exact this
    by_cases z : i = ts.length - 1
    · subst z
      rw [List.getElem?_set_self lt] at ht
      have et : T = t := Option.some.inj ht
      rw [List.getElem?_append_right (by rw [List.length_dropLast]; omega), List.length_dropLast, show ts.length - 1 - (ps.length - 1) = 0 by omega] at hp
      have epp : (k, c + 1) = p := by simpa using hp
      rw [← et, ← epp]
      exact hT
    · rw [List.getElem?_set_ne (by omega)] at ht
      rw [List.getElem?_append_left (by rw [List.length_dropLast]; omega), List.getElem?_dropLast, if_pos (by omega)] at hp
      have old := h3 i t p ht hp
      refine keep t _ (fun e => ?_) old
      rw [e, h1] at old
      cases old
theorem Prs.snoc {H H' : Hp} {l : Addr} {ps : List (Int × Nat)} {k : Int} (h : Prs H l ps) : ∃ ts : List Addr, H l = some (.lst (ts.map V.ref)) ∧ ts.length = ps.length ∧
    ∀ (T : Addr) (H' : Hp), (∀ b o, b ≠ l → H b = some o → H' b = some o) → H' T = some (.tup [.int k, .int ((1 : Nat) : Int)]) → H' l = some (.lst (ts.map V.ref ++ [.ref T])) → Prs H' l (ps ++ [(k, 1)]) := by
  obtain ⟨ts, h1, h2, h3⟩ := h
  refine ⟨ts, h1, h2, fun T H' keep hT hl => ⟨ts ++ [T], by rw [hl]; simp, by simp [h2], fun i t p ht hp => ?_⟩⟩
  by_cases z : i < ts.length
  · rw [List.getElem?_append_left z] at ht
    rw [List.getElem?_append_left (by omega)] at hp
    have old := h3 i t p ht hp
    refine keep t _ (fun e => ?_) old
    rw [e, h1] at old
    cases old
  · have li : i = ts.length := by
      have := (List.getElem?_eq_some_iff.mp ht).1
      simp at this
      omega
    subst li
    rw [List.getElem?_append_right (Nat.le_refl _), Nat.sub_self] at ht
    rw [h2, List.getElem?_append_right (Nat.le_refl _), Nat.sub_self] at hp
    have et : T = t := by simpa using ht
    have ep : (k, 1) = p := by simpa using hp
    rw [← et, ← ep]
    exact hT
theorem show_short {ns : List Int} (h : Nice ns) {n : Nat} (hn : ns.length ≤ n) : (showL ns).length ≤ n * 207 + 4 := by
  obtain ⟨a, b⟩ := h.words
  unfold showL
  split
  · show 4 ≤ _
    omega
  · have c := join_len [44, 32] (wrds ns)
    have d := sum_le a
    have l : (wrds ns).length ≤ n := by
      unfold wrds
      rw [List.length_map]
      exact Nat.le_trans (grp_len ns) hn
    have e := Nat.mul_le_mul_right 205 l
    have f : (wrds ns).length * ([44, 32] : List Nat).length ≤ n * 2 := Nat.mul_le_mul_right 2 l
    omega
theorem fold_rep (k : Int) : ∀ (c : Nat) (gs : List (Int × Nat)) (t : Nat), (List.replicate c k).foldl grpS (gs ++ [(k, t)]) = gs ++ [(k, t + c)]
  | 0, gs, t => by simp
  | c + 1, gs, t => by
    have e : grpS (gs ++ [(k, t)]) k = gs ++ [(k, t + 1)] := by
      unfold grpS
      simp
    rw [List.replicate_succ, List.foldl_cons, e, fold_rep k c gs (t + 1), show t + 1 + c = t + (c + 1) by omega]
theorem grp_add {ns : List Int} {gs : List (Int × Nat)} {k : Int} {c : Nat} (h : grp ns = gs) (hl : ∀ a t, gs.getLast? = some (a, t) → a ≠ k) (hc : 1 ≤ c) : grp (ns ++ List.replicate c k) = gs ++ [(k, c)] := by
  obtain ⟨c', rfl⟩ : ∃ c', c = c' + 1 := ⟨c - 1, by omega⟩
  unfold grp at h ⊢
  rw [List.foldl_append, h, List.replicate_succ, List.foldl_cons]
  have e : grpS gs k = gs ++ [(k, 1)] := by
    unfold grpS
    cases el : gs.getLast? with
    | none =>
      have : gs = [] := List.getLast?_eq_none_iff.mp el
      subst this
      rfl
    | some q =>
      obtain ⟨a, t⟩ := q
      simp only
      rw [if_neg (hl a t el)]
  rw [e, fold_rep k c' gs 1, show 1 + c' = c' + 1 by omega]
theorem grp_two {o : Int} {m : Nat} (h : 1 ≤ m) : grp ((o + 1) :: List.replicate m o) = [(o + 1, 1), (o, m)] :=
  grp_add (ns := [o + 1]) (gs := [(o + 1, 1)]) rfl (fun a t e => by
    have : a = o + 1 := by
      have := congrArg (Option.map Prod.fst) e
      simpa using this.symm
    omega) h
theorem show_two {o : Int} {m : Nat} (h : 2 ≤ m) : showL ((o + 1) :: List.replicate m o) = TL.numL (o + 1).toNat ++ ([44, 32] ++ (TL.numL o.toNat ++ 94 :: TL.numL m)) := by
  unfold showL wrds
  rw [if_neg (by simp), grp_two (by omega)]
  simp only [List.map_cons, List.map_nil, TL.joinL]
  unfold wrd
  rw [if_neg (by decide), if_pos (by omega)]
end Sq


set_option Elab.async false
set_option maxRecDepth 100000
set_option maxHeartbeats 4000000
namespace Sq
open PySem PySem.Spec PyProof.Rows L2
/-! ## any text read -/
def numsAll : List (List Nat) → Option (List Int)
  | [] => some []
  | w :: r => match numsIn w with
    | none => none
    | some a => match numsAll r with
      | none => none
      | some b => some (a ++ b)
def wordsOf (u : List Nat) : List (List Nat) := if u = noneL then [] else TL.spl [44, 32] 0 [] u
def readR (u : List Nat) : Option (List Int) := match numsAll (wordsOf u) with
  | none => none
  | some ns => if showL ns = u then some ns else none
theorem nums_snoc (w : List Nat) : ∀ {ws : List (List Nat)} {a : List Int}, numsAll ws = some a → numsAll (ws ++ [w]) = match numsIn w with | none => none | some b => some (a ++ b)
  | [], a, h => by
    have : a = [] := (Option.some.inj h).symm
    subst this
    show numsAll [w] = _
    unfold numsAll
    cases numsIn w with
    | none => rfl
    | some b => simp [numsAll]
  | v :: r, a, h => by
    unfold numsAll at h
    show numsAll (v :: (r ++ [w])) = _
    unfold numsAll
    cases hv : numsIn v with
    | none =>
      rw [hv] at h
      cases h
    | some x =>
      rw [hv] at h
      simp only at h ⊢
      cases hr : numsAll r with
      | none =>
        rw [hr] at h
        cases h
      | some y =>
        rw [hr] at h
        simp only at h
        have e : x ++ y = a := Option.some.inj h
        rw [nums_snoc w hr]
        cases numsIn w with
        | none => rfl
        | some b => simp [← e]
theorem nums_bad {w : List Nat} (hw : numsIn w = none) : ∀ {ws : List (List Nat)}, w ∈ ws → numsAll ws = none
  | [], h => nomatch h
  | v :: r, h => by
    unfold numsAll
    rcases List.mem_cons.mp h with rfl | z
    · rw [hw]
    · cases numsIn v with
      | none => rfl
      | some x => simp only [nums_bad hw z]
theorem nums_take {ws : List (List Nat)} {i : Nat} {w : List Nat} {a : List Int} (h : ws[i]? = some w) (e : numsAll (ws.take i) = some a) : numsAll (ws.take (i + 1)) = match numsIn w with | none => none | some b => some (a ++ b) := by
  rw [List.take_add_one, h]
  exact nums_snoc w e
/-! ### what is shown is read -/
theorem nums_shown : ∀ {ps : List (Int × Nat)}, (∀ p ∈ ps, (2 ≤ p.1 ∧ p.1 < 10 ^ 200) ∧ 1 ≤ p.2 ∧ p.2 ≤ 5000000) → numsAll (ps.map fun p => wrd p.1.toNat p.2) = some (ungrp ps)
  | [], _ => rfl
  | p :: r, h => by
    obtain ⟨⟨h2, h200⟩, h1, h5⟩ := h p (List.mem_cons_self ..)
    have ih := nums_shown (ps := r) fun q hq => h q (List.mem_cons_of_mem _ hq)
    have lt : (TL.numL p.2).length ≤ 200 := Nat.le_trans (TL.numL_len (k := 7) (by decide) (by omega)) (by decide)
    have e := nums_wrd (n := p.1.toNat) (t := p.2) (num_len (by omega) h200) lt (by omega) h1
    rw [List.map_cons]
    unfold numsAll
    rw [e]
    simp only [ih]
    rw [Int.toNat_of_nonneg (by omega)]
    rfl
/-- lists that are shown and read, also long ones -/
def NiceW (ns : List Int) : Prop := (∀ k ∈ ns, 2 ≤ k ∧ k < 10 ^ 200) ∧ ns.length ≤ 5000000 ∧ (grp ns).length ≤ 5000
theorem Nice.w {ns : List Int} (h : Nice ns) : NiceW ns := ⟨h.1, Nat.le_trans h.2 (by decide), Nat.le_trans (grp_len ns) h.2⟩
theorem NiceW.grp {ns : List Int} (h : NiceW ns) : GrpOk (fun k => 2 ≤ k ∧ k < 10 ^ 200) 5000000 (grp ns) := fun p hp => by
  have := grp_ok h.1 p hp
  have l := h.2.1
  exact ⟨this.1, this.2.1, by omega⟩
theorem words_shown {ns : List Int} : wordsOf (showL ns) = wrds ns := by
  unfold wordsOf
  by_cases h : ns = []
  · subst h
    rfl
  · rw [if_neg (show_ne h), spl_show h]
theorem read_shown {ns : List Int} (h : NiceW ns) : readR (showL ns) = some ns := by
  unfold readR
  rw [words_shown]
  unfold wrds
  rw [nums_shown fun p hp => h.grp p hp, ungrp_grp]
  exact if_pos rfl
theorem show_inj {a b : List Int} (ha : NiceW a) (hb : NiceW b) (e : showL a = showL b) : a = b := by
  have x := read_shown ha
  rw [e, read_shown hb] at x
  exact (Option.some.inj x).symm
theorem num_len7 {t : Nat} (h : t ≤ 5000000) : (TL.numL t).length ≤ 7 := TL.numL_len (by decide) (by omega)
theorem wrd_len7 {k : Int} {t : Nat} (h0 : 0 ≤ k) (h : k < 10 ^ 200) (ht : t ≤ 5000000) : (wrd k.toNat t).length ≤ 208 := by
  have a := num_len h0 h
  have b := num_len7 ht
  unfold wrd
  split
  · rw [List.length_append, List.length_cons]
    omega
  · omega
theorem ltW {n : Nat} (h : n ≤ 5000000) : n < sizeLine := by
  rw [sizeLine_eq]
  omega
theorem NiceW.words {ns : List Int} (h : NiceW ns) : (∀ w ∈ wrds ns, w.length ≤ 208) ∧ (wrds ns).length ≤ 5000 := by
  refine ⟨fun w hw => ?_, ?_⟩
  · obtain ⟨p, hp, rfl⟩ := List.mem_map.mp hw
    obtain ⟨a, b, c⟩ := h.grp p hp
    exact wrd_len7 (by omega) a.2 c
  · unfold wrds
    rw [List.length_map]
    exact h.2.2
/-! ### pieces -/
theorem spl_part (S : List Nat) : ∀ (l : List Nat) (k : Nat) (acc w : List Nat), w ∈ TL.spl S k acc l → (∃ x a b, w = acc ++ x ∧ l = a ++ x ++ b ∧ (k = 0 → a = [])) ∨ ∃ a b, l = a ++ w ++ b
  | [], k, acc, w, h => by
    rw [TL.spl_nil] at h
    exact .inl ⟨[], [], [], by rw [List.mem_singleton.mp h, List.append_nil], rfl, fun _ => rfl⟩
  | c :: r, 0, acc, w, h => by
    cases hp : TL.pre S (c :: r) with
    | true =>
      rw [TL.spl_hit hp] at h
      rcases List.mem_cons.mp h with rfl | z
      · exact .inl ⟨[], [], c :: r, by rw [List.append_nil], rfl, fun _ => rfl⟩
      · rcases spl_part S r _ [] w z with ⟨x, a, b, e1, e2, _⟩ | ⟨a, b, e⟩
        · rw [List.nil_append] at e1
          subst e1
          exact .inr ⟨c :: a, b, by rw [e2]; rfl⟩
        · exact .inr ⟨c :: a, b, by rw [e]; rfl⟩
    | false =>
      rw [TL.spl_miss hp] at h
      rcases spl_part S r 0 (acc ++ [c]) w h with ⟨x, a, b, e1, e2, e3⟩ | ⟨a, b, e⟩
      · have := e3 rfl
        subst this
        exact .inl ⟨c :: x, [], b, by rw [e1]; simp, by rw [e2]; rfl, fun _ => rfl⟩
      · exact .inr ⟨c :: a, b, by rw [e]; rfl⟩
  | c :: r, k + 1, acc, w, h => by
    rcases spl_part S r k acc w h with ⟨x, a, b, e1, e2, e3⟩ | ⟨a, b, e⟩
    · exact .inl ⟨x, c :: a, b, e1, by rw [e2]; rfl, fun z => absurd z (by omega)⟩
    · exact .inr ⟨c :: a, b, by rw [e]; rfl⟩
theorem spl_in {S l w : List Nat} (h : w ∈ TL.spl S 0 [] l) : ∃ a b, l = a ++ w ++ b := by
  rcases spl_part S l 0 [] w h with ⟨x, a, b, e1, e2, _⟩ | z
  · rw [List.nil_append] at e1
    subst e1
    exact ⟨a, b, e2⟩
  · exact z
theorem spl_count (S : List Nat) : ∀ (l : List Nat) (k : Nat) (acc : List Nat), (TL.spl S k acc l).length ≤ l.length + 1
  | [], k, acc => by
    rw [TL.spl_nil]
    exact Nat.le_refl _
  | c :: r, 0, acc => by
    cases hp : TL.pre S (c :: r) with
    | true =>
      rw [TL.spl_hit hp]
      have := spl_count S r (S.length - 1) []
      rw [List.length_cons, List.length_cons]
      omega
    | false =>
      rw [TL.spl_miss hp]
      have := spl_count S r 0 (acc ++ [c])
      rw [List.length_cons]
      omega
  | c :: r, k + 1, acc => by
    have := spl_count S r k acc
    rw [List.length_cons]
    exact Nat.le_succ_of_le this
theorem spl_head {s : Nat} : ∀ {l acc f : List Nat} {o : List (List Nat)}, TL.spl [s] 0 acc l = f :: o → (o = [] ∧ f = acc ++ l) ∨ ∃ x rest, f = acc ++ x ∧ l = x ++ s :: rest ∧ o = TL.spl [s] 0 [] rest
  | [], acc, f, o, h => by
    rw [TL.spl_nil] at h
    injection h with h1 h2
    exact .inl ⟨h2.symm, by rw [← h1, List.append_nil]⟩
  | c :: r, acc, f, o, h => by
    cases hp : TL.pre [s] (c :: r) with
    | true =>
      rw [TL.spl_hit hp] at h
      injection h with h1 h2
      have e : (c :: r).take 1 = [s] := eq_of_beq hp
      have ec : c = s := by simpa using e
      exact .inr ⟨[], r, by rw [h1, List.append_nil], by rw [ec]; rfl, h2.symm⟩
    | false =>
      rw [TL.spl_miss hp] at h
      rcases spl_head h with ⟨h1, h2⟩ | ⟨x, rest, h1, h2, h3⟩
      · exact .inl ⟨h1, by rw [h2]; simp⟩
      · exact .inr ⟨c :: x, rest, by rw [h1]; simp, by rw [h2]; rfl, h3⟩
theorem spl_two {s : Nat} {w f t : List Nat} {o : List (List Nat)} (h : TL.spl [s] 0 [] w = f :: t :: o) : ∃ b, w = f ++ s :: (t ++ b) := by
  rcases spl_head h with ⟨h1, _⟩ | ⟨x, rest, h1, h2, h3⟩
  · cases h1
  · rw [List.nil_append] at h1
    subst h1
    rcases spl_head h3.symm with ⟨_, h4⟩ | ⟨y, r2, h4, h5, _⟩
    · exact ⟨[], by rw [h2, h4]; simp⟩
    · rw [List.nil_append] at h4
      subst h4
      exact ⟨s :: r2, by rw [h2, h5]⟩
theorem spl_ne (s : Nat) (w : List Nat) : ∃ f o, TL.spl [s] 0 [] w = f :: o := by
  have : ∀ (l acc : List Nat), ∃ f o, TL.spl [s] 0 acc l = f :: o := by
    intro l
    induction l with
    | nil => exact fun acc => ⟨acc, [], TL.spl_nil _ _ _⟩
    | cons c r ih =>
      intro acc
      cases hp : TL.pre [s] (c :: r) with
      | true => exact ⟨_, _, TL.spl_hit hp⟩
      | false =>
        rw [TL.spl_miss hp]
        exact ih _
  exact this w []
/-! ### bounds -/
theorem val_lt : ∀ (cs : List Nat) (a : Nat), cs.all dig = true → cs.foldl (fun acc c => acc * 10 + (c - 48)) a < (a + 1) * 10 ^ cs.length
  | [], a, _ => by simp
  | c :: r, a, h => by
    rw [List.all_cons, Bool.and_eq_true] at h
    have ih := val_lt r (a * 10 + (c - 48)) h.2
    have hc : c - 48 ≤ 9 := by
      have := h.1
      unfold dig at this
      rw [Bool.and_eq_true, decide_eq_true_eq, decide_eq_true_eq] at this
      omega
    rw [List.foldl_cons, List.length_cons, Nat.pow_succ]
    have m : (a * 10 + (c - 48) + 1) * 10 ^ r.length ≤ ((a + 1) * 10) * 10 ^ r.length := Nat.mul_le_mul_right _ (by omega)
    have e : (a + 1) * 10 * 10 ^ r.length = (a + 1) * (10 ^ r.length * 10) := by rw [Nat.mul_assoc, Nat.mul_comm 10]
    omega
theorem digitsVal_lt {cs : List Nat} (h : cs.all dig = true) : NumText.digitsVal cs < 10 ^ cs.length := by
  have := val_lt cs 0 h
  rw [Nat.zero_add, Nat.one_mul] at this
  exact this
theorem numIn_some {w : List Nat} {n : Nat} (h : numIn w = some n) : (1 ≤ w.length ∧ w.length ≤ 200 ∧ w.all dig = true) ∧ n = NumText.digitsVal w := by
  unfold numIn at h
  split at h
  · rename_i c
    exact ⟨c, (Option.some.inj h).symm⟩
  · cases h
theorem numIn_lt {w : List Nat} {n : Nat} (h : numIn w = some n) : (n : Int) < 10 ^ 200 := by
  obtain ⟨⟨_, h1, h2⟩, rfl⟩ := numIn_some h
  have a := digitsVal_lt h2
  have b : 10 ^ w.length ≤ 10 ^ 200 := Nat.pow_le_pow_right (by decide) h1
  have e : ((10 : Int) ^ 200) = ((10 ^ 200 : Nat) : Int) := by norm_cast
  rw [e]
  omega
theorem take_all {b t r : List Nat} (h : t.all dig = true) (e : b = t ++ r) : t.length ≤ (b.takeWhile dig).length := by
  subst e
  induction t with
  | nil => exact Nat.zero_le _
  | cons c t ih =>
    rw [List.all_cons, Bool.and_eq_true] at h
    rw [List.cons_append, List.takeWhile_cons, if_pos h.1, List.length_cons, List.length_cons]
    exact Nat.succ_le_succ (ih h.2)
/-- texts that are read here: behind each power sign stand at most three digits -/
def RdOk (u : List Nat) : Prop := u.length ≤ 4100 ∧ (∀ c ∈ u, c < 0x110000) ∧ ∀ a b, u = a ++ 94 :: b → (b.takeWhile dig).length ≤ 3
theorem nums_of {u w : List Nat} {ns : List Int} (h : RdOk u) (hw : ∃ a b, u = a ++ w ++ b) (e : numsIn w = some ns) : ∃ (n : Int) (t : Nat), ns = List.replicate t n ∧ t ≤ 999 ∧ 2 ≤ n ∧ n < 10 ^ 200 := by
  obtain ⟨f, o, es⟩ := spl_ne 94 w
  unfold numsIn at e
  rw [es] at e
  simp only at e
  cases hf : numIn f with
  | none =>
    rw [hf] at e
    cases e
  | some n =>
    rw [hf] at e
    have nl := numIn_lt hf
    cases o with
    | nil =>
      simp only at e
      split at e
      · cases e
      · rename_i c
        exact ⟨n, 1, (Option.some.inj e).symm, by decide, by simp at c; omega, nl⟩
    | cons t o =>
      simp only at e
      cases ht : numIn t with
      | none =>
        rw [ht] at e
        cases e
      | some m =>
        rw [ht] at e
        simp only at e
        split at e
        · cases e
        · rename_i c
          refine ⟨n, m, (Option.some.inj e).symm, ?_, by omega, nl⟩
          obtain ⟨⟨_, _, td⟩, rfl⟩ := numIn_some ht
          obtain ⟨a, b, eu⟩ := hw
          obtain ⟨x, ew⟩ := spl_two es
          have z := h.2.2 (a ++ f) (t ++ (x ++ b)) (by rw [eu, ew]; simp)
          have y := take_all (b := t ++ (x ++ b)) td rfl
          have v := digitsVal_lt td
          have p : 10 ^ t.length ≤ 10 ^ 3 := Nat.pow_le_pow_right (by decide) (by omega)
          omega
theorem grpS_last (g : List (Int × Nat)) (k : Int) : ∃ gs t, grpS g k = gs ++ [(k, t)] ∧ gs.length ≤ g.length := by
  unfold grpS
  cases e : g.getLast? with
  | none => exact ⟨[], 1, rfl, Nat.zero_le _⟩
  | some q =>
    obtain ⟨a, c⟩ := q
    simp only
    split
    · rename_i z
      exact ⟨g.dropLast, c + 1, by rw [z], by rw [List.length_dropLast]; omega⟩
    · exact ⟨g, 1, rfl, Nat.le_refl _⟩
theorem grp_more (ns : List Int) (t : Nat) (n : Int) : (grp (ns ++ List.replicate t n)).length ≤ (grp ns).length + 1 := by
  unfold grp
  rw [List.foldl_append]
  generalize ns.foldl grpS [] = g
  cases t with
  | zero => simp
  | succ t =>
    obtain ⟨gs, m, e, l⟩ := grpS_last g n
    rw [List.replicate_succ, List.foldl_cons, e, fold_rep, List.length_append, List.length_singleton]
    omega
theorem nums_pre {w : List Nat} : ∀ {l : List (List Nat)} {a : List Int}, numsAll (l ++ [w]) = some a → ∃ b c, numsAll l = some b ∧ numsIn w = some c ∧ a = b ++ c
  | [], a, h => by
    have h : numsAll [w] = some a := h
    unfold numsAll at h
    cases e : numsIn w with
    | none =>
      rw [e] at h
      cases h
    | some c =>
      rw [e] at h
      have h : some (c ++ []) = some a := h
      exact ⟨[], c, rfl, rfl, by rw [← Option.some.inj h]; simp⟩
  | v :: r, a, h => by
    have h : numsAll (v :: (r ++ [w])) = some a := h
    unfold numsAll at h
    cases hv : numsIn v with
    | none =>
      rw [hv] at h
      cases h
    | some x =>
      rw [hv] at h
      simp only at h
      cases hr : numsAll (r ++ [w]) with
      | none =>
        rw [hr] at h
        cases h
      | some y =>
        rw [hr] at h
        have e : x ++ y = a := Option.some.inj h
        obtain ⟨b, c, h1, h2, h3⟩ := nums_pre hr
        refine ⟨x ++ b, c, ?_, h2, by rw [← e, h3, List.append_assoc]⟩
        unfold numsAll
        rw [hv, h1]
/-- the numbers of some words -/
theorem nums_nice {u : List Nat} (h : RdOk u) {ws : List (List Nat)} (hw : ∀ w ∈ ws, ∃ x y, u = x ++ w ++ y) : ∀ (i : Nat) (a : List Int), i ≤ ws.length → numsAll (ws.take i) = some a → (∀ k ∈ a, 2 ≤ k ∧ k < 10 ^ 200) ∧ a.length ≤ i * 999 ∧ (grp a).length ≤ i := by
  intro i
  induction i with
  | zero =>
    intro a _ e
    have : a = [] := (Option.some.inj e).symm
    subst this
    exact ⟨(fun k hk => nomatch hk), Nat.zero_le _, Nat.zero_le _⟩
  | succ i ih =>
    intro a hi e
    have ei : ws[i]? = some ws[i] := List.getElem?_eq_getElem (by omega)
    rw [List.take_add_one, ei] at e
    obtain ⟨b, c, e1, e2, rfl⟩ := nums_pre e
    obtain ⟨h1, h2, h3⟩ := ih b (by omega) e1
    obtain ⟨n, t, rfl, t9, n2, n200⟩ := nums_of h (hw _ (List.getElem_mem _)) e2
    have g := grp_more b t n
    refine ⟨fun k hk => ?_, ?_, by omega⟩
    · rcases List.mem_append.mp hk with z | z
      · exact h1 k z
      · rw [List.eq_of_mem_replicate z]
        exact ⟨n2, n200⟩
    · rw [List.length_append, List.length_replicate, Nat.add_mul]
      omega
theorem words_in {u w : List Nat} (h : w ∈ wordsOf u) : ∃ a b, u = a ++ w ++ b := by
  unfold wordsOf at h
  split at h
  · cases h
  · exact spl_in h
theorem words_count (u : List Nat) : (wordsOf u).length ≤ u.length + 1 := by
  unfold wordsOf
  split
  · exact Nat.zero_le _
  · exact spl_count _ _ _ _
theorem nums_niceW {u : List Nat} (h : RdOk u) {i : Nat} {a : List Int} (hi : i ≤ (wordsOf u).length) (e : numsAll ((wordsOf u).take i) = some a) : NiceW a ∧ a.length ≤ i * 999 := by
  obtain ⟨h1, h2, h3⟩ := nums_nice h (fun w hw => words_in hw) i a hi e
  have c := words_count u
  have l := h.1
  have m := Nat.mul_le_mul_right 999 (show i ≤ 4101 by omega)
  exact ⟨⟨h1, by omega, by omega⟩, h2⟩
theorem readR_nice {u : List Nat} (h : RdOk u) {a : List Int} (e : readR u = some a) : NiceW a ∧ showL a = u := by
  unfold readR at e
  cases en : numsAll (wordsOf u) with
  | none =>
    rw [en] at e
    cases e
  | some b =>
    rw [en] at e
    simp only at e
    split at e
    · rename_i c
      have : b = a := Option.some.inj e
      subst this
      refine ⟨(nums_niceW h (Nat.le_refl _) ?_).1, c⟩
      rw [List.take_length]
      exact en
    · cases e
end Sq


set_option Elab.async false
set_option maxRecDepth 100000
set_option maxHeartbeats 4000000
namespace Sq
open PySem PySem.Spec PyProof.Rows L2
/-! ## texts with one sign put in or left out -/
/-- behind each power sign stand at most n signs before the next separator -/
def PowD (n : Nat) (u : List Nat) : Prop := ∀ a b, u = a ++ 94 :: b → ∃ ds tl, b = ds ++ tl ∧ ds.length ≤ n ∧ (tl = [] ∨ ∃ r, tl = 44 :: 32 :: r)
theorem app_94 {a b x y : List Nat} (h : x ++ y = a ++ 94 :: b) : (∃ c, x = a ++ 94 :: c ∧ b = c ++ y) ∨ ∃ c, a = x ++ c ∧ y = c ++ 94 :: b := by
  rcases List.append_eq_append_iff.mp h with ⟨c, h1, h2⟩ | ⟨c, h1, h2⟩
  · exact .inr ⟨c, h1, h2⟩
  · cases c with
    | nil =>
      rw [List.append_nil] at h1
      exact .inr ⟨[], by rw [h1, List.append_nil], by rw [List.nil_append] at h2 ⊢; exact h2.symm⟩
    | cons d c =>
      rw [List.cons_append] at h2
      injection h2 with h3 h4
      exact .inl ⟨c, by rw [h1, h3], h4⟩
theorem pow_num {n k : Nat} {t : Nat} (ht : (TL.numL t).length ≤ k) : PowD k (wrd n t) := fun a b e => by
  unfold wrd at e
  split at e
  · rcases app_94 e with ⟨c, h1, _⟩ | ⟨c, h1, h2⟩
    · exact absurd (show 94 ∈ TL.numL n by rw [h1]; simp) (free94 n)
    · cases c with
      | nil =>
        injection h2 with _ h3
        exact ⟨b, [], by rw [List.append_nil], by rw [← h3]; exact ht, .inl rfl⟩
      | cons d c =>
        rw [List.cons_append] at h2
        injection h2 with _ h3
        exact absurd (show 94 ∈ TL.numL t by rw [h3]; simp) (free94 t)
  · exact absurd (show 94 ∈ TL.numL n by rw [e]; simp) (free94 n)
theorem pow_join {k : Nat} : ∀ {ws : List (List Nat)}, (∀ w ∈ ws, PowD k w) → PowD k (TL.joinL [44, 32] ws)
  | [], _ => fun a b e => by
    have := congrArg List.length e
    simp [TL.joinL] at this
  | [w], h => h w (List.mem_cons_self ..)
  | w :: v :: r, h => fun a b e => by
    have ih := pow_join (ws := v :: r) fun x hx => h x (List.mem_cons_of_mem _ hx)
    have e : w ++ (44 :: 32 :: TL.joinL [44, 32] (v :: r)) = a ++ 94 :: b := e
    rcases app_94 e with ⟨c, h1, h2⟩ | ⟨c, h1, h2⟩
    · obtain ⟨ds, tl, e1, e2, e3⟩ := h w (List.mem_cons_self ..) a c h1
      rcases e3 with rfl | ⟨r', rfl⟩
      · exact ⟨ds, _, by rw [h2, e1, List.append_nil], e2, .inr ⟨_, rfl⟩⟩
      · exact ⟨ds, _, by rw [h2, e1, List.append_assoc]; rfl, e2, .inr ⟨_, rfl⟩⟩
    · cases c with
      | nil => cases h2
      | cons d c =>
        rw [List.cons_append] at h2
        injection h2 with _ h3
        cases c with
        | nil => cases h3
        | cons d2 c =>
          rw [List.cons_append] at h3
          injection h3 with _ h4
          exact ih c b h4
theorem pow_show {ns : List Int} {k : Nat} (h : ∀ p ∈ grp ns, (TL.numL p.2).length ≤ k) : PowD k (showL ns) := by
  unfold showL
  split
  · intro a b e
    have : 94 ∈ noneL := by rw [e]; simp
    exact absurd this (by decide)
  · refine pow_join fun w hw => ?_
    obtain ⟨p, hp, rfl⟩ := List.mem_map.mp hw
    exact pow_num (h p hp)
/-- what begins no digit -/
def stops (l : List Nat) : Prop := l = [] ∨ ∃ c r, l = c :: r ∧ dig c = false
theorem tw_len {ds tl : List Nat} (h : stops tl) : ((ds ++ tl).takeWhile dig).length ≤ ds.length := by
  induction ds with
  | nil =>
    rcases h with rfl | ⟨c, r, rfl, hc⟩
    · exact Nat.le_refl _
    · rw [List.nil_append, List.takeWhile_cons, hc]
      exact Nat.le_refl _
  | cons d ds ih =>
    rw [List.cons_append, List.takeWhile_cons]
    split
    · rw [List.length_cons, List.length_cons]
      exact Nat.succ_le_succ ih
    · exact Nat.zero_le _
theorem stops_drop {tl : List Nat} {d : Nat} (h : tl = [] ∨ ∃ r, tl = 44 :: 32 :: r) (hd : d ≤ 1) : stops (tl.drop d) := by
  rcases h with rfl | ⟨r, rfl⟩
  · exact .inl (by simp)
  · rcases (show d = 0 ∨ d = 1 by omega) with rfl | rfl
    · exact .inr ⟨44, 32 :: r, rfl, by decide⟩
    · exact .inr ⟨32, r, rfl, by decide⟩
theorem PowD.all {u : List Nat} {k : Nat} (h : PowD k u) : ∀ a b, u = a ++ 94 :: b → (b.takeWhile dig).length ≤ k := fun a b e => by
  obtain ⟨ds, tl, e1, e2, e3⟩ := h a b e
  rw [e1]
  have z := stops_drop e3 (show 0 ≤ 1 by decide)
  rw [List.drop_zero] at z
  exact Nat.le_trans (tw_len z) e2
theorem pow_bent {w sg : List Nat} {cut d : Nat} (h : PowD 2 w) (hs : sg = [] ∨ ∃ c, sg = [c] ∧ c ≠ 94) (hd : d ≤ 1) : ∀ a b, w.take cut ++ sg ++ w.drop (cut + d) = a ++ 94 :: b → (b.takeWhile dig).length ≤ 3 := by
  intro a b e
  have ls : sg.length ≤ 1 := by
    rcases hs with rfl | ⟨c, rfl, _⟩ <;> simp
  rw [List.append_assoc] at e
  have edr : w.drop (cut + d) = (w.drop cut).drop d := by rw [List.drop_drop]
  have ew : w = w.take cut ++ w.drop cut := (List.take_append_drop cut w).symm
  rw [edr] at e
  generalize w.take cut = P at e ew
  generalize w.drop cut = R at e ew
  rcases app_94 e with ⟨c, h1, h2⟩ | ⟨c, h1, h2⟩
  · obtain ⟨ds, tl, e1, e2, e3⟩ := h a (c ++ R) (by rw [ew, h1]; simp)
    have one : ∀ x : List Nat, ds = c ++ x → R = x ++ tl → (b.takeWhile dig).length ≤ 3 := fun x hx hR => by
      rw [hx, List.length_append] at e2
      rw [h2, hR]
      cases x with
      | nil =>
        rw [List.nil_append, ← List.append_assoc]
        refine Nat.le_trans (tw_len (stops_drop e3 hd)) ?_
        rw [List.length_append]
        simp at e2
        omega
      | cons y x =>
        have z := stops_drop e3 (show 0 ≤ 1 by decide)
        rw [List.drop_zero] at z
        have ed : (y :: x ++ tl).drop d = (y :: x).drop d ++ tl := by
          rcases (show d = 0 ∨ d = 1 by omega) with rfl | rfl <;> rfl
        rw [ed, ← List.append_assoc, ← List.append_assoc]
        refine Nat.le_trans (tw_len z) ?_
        rw [List.length_append, List.length_append, List.length_drop]
        omega
    rcases List.append_eq_append_iff.mp e1 with ⟨x, h3, h4⟩ | ⟨x, h3, h4⟩
    · exact one x h3 h4
    · cases x with
      | nil =>
        rw [List.append_nil] at h3
        rw [List.nil_append] at h4
        exact one [] (by rw [List.append_nil, h3]) (by rw [List.nil_append, h4])
      | cons y x =>
        have yt : dig y = false := by
          rcases e3 with rfl | ⟨r, rfl⟩
          · cases h4
          · injection h4 with h5 _
            rw [← h5]
            decide
        rw [h2, h3, List.append_assoc]
        refine Nat.le_trans (tw_len (.inr ⟨y, _, rfl, yt⟩)) (by omega)
  · have key : ∀ c' : List Nat, R.drop d = c' ++ 94 :: b → (b.takeWhile dig).length ≤ 3 := fun c' hc => by
      refine Nat.le_trans (h.all (P ++ (R.take d ++ c')) b ?_) (by decide)
      have er : R = R.take d ++ (c' ++ 94 :: b) := by
        rw [← hc]
        exact (List.take_append_drop d R).symm
      rw [ew, show P ++ R = P ++ (R.take d ++ (c' ++ 94 :: b)) from congrArg (P ++ ·) er]
      simp
    rcases hs with rfl | ⟨x, rfl, nx⟩
    · exact key c h2
    · cases c with
      | nil =>
        injection h2 with h3 _
        exact absurd h3 nx
      | cons y c =>
        injection h2 with _ h3
        exact key c h3
theorem show_chr {ns : List Int} : ∀ c ∈ showL ns, c < 256 := by
  have num : ∀ {n c : Nat}, c ∈ TL.numL n → c < 256 := fun {n c} h => by
    have := TL.numL_digits n c h
    omega
  have jl : ∀ (ws : List (List Nat)), (∀ w ∈ ws, ∀ c ∈ w, c < 256) → ∀ c ∈ TL.joinL [44, 32] ws, c < 256 := by
    intro ws
    induction ws with
    | nil => intro _ c hc; cases hc
    | cons w r ih =>
      intro h c hc
      cases r with
      | nil => exact h w (List.mem_cons_self ..) c hc
      | cons q r =>
        simp only [TL.joinL, List.mem_append, List.mem_cons, List.mem_nil_iff, or_false] at hc
        rcases hc with z | (z | z) | z
        · exact h w (List.mem_cons_self ..) c z
        · omega
        · omega
        · exact ih (fun w hw => h w (List.mem_cons_of_mem _ hw)) c z
  unfold showL
  split
  · intro c hc
    simp only [noneL, List.mem_cons, List.mem_nil_iff, or_false] at hc
    omega
  · refine jl _ fun w hw c hc => ?_
    obtain ⟨p, _, rfl⟩ := List.mem_map.mp hw
    unfold wrd at hc
    split at hc
    · simp only [List.mem_append, List.mem_cons] at hc
      rcases hc with z | z | z
      · exact num z
      · omega
      · exact num z
    · exact num hc
theorem rd_show {ns : List Int} {k : Nat} (h : ∀ p ∈ grp ns, (TL.numL p.2).length ≤ k) (hk : k ≤ 3) (hl : (showL ns).length ≤ 4100) : RdOk (showL ns) :=
  ⟨hl, fun c hc => Nat.lt_trans (show_chr c hc) (by decide), fun a b e => Nat.le_trans ((pow_show h).all a b e) hk⟩
theorem rd_bent {ns : List Int} {sg : List Nat} {cut d : Nat} (h : ∀ p ∈ grp ns, (TL.numL p.2).length ≤ 2) (hl : (showL ns).length ≤ 4000) (hs : sg = [] ∨ ∃ c, sg = [c] ∧ c ≠ 94 ∧ c < 256) (hd : d ≤ 1) : RdOk ((showL ns).take cut ++ sg ++ (showL ns).drop (cut + d)) := by
  refine ⟨?_, fun c hc => ?_, pow_bent (pow_show h) (hs.imp id fun ⟨c, z, n, _⟩ => ⟨c, z, n⟩) hd⟩
  · rw [List.length_append, List.length_append, List.length_take, List.length_drop]
    have : sg.length ≤ 1 := by
      rcases hs with rfl | ⟨c, rfl, _⟩ <;> simp
    omega
  · rcases List.mem_append.mp hc with z | z
    · rcases List.mem_append.mp z with z | z
      · exact Nat.lt_trans (show_chr c (List.mem_of_mem_take z)) (by decide)
      · rcases hs with rfl | ⟨x, rfl, _, x2⟩
        · cases z
        · rw [List.mem_singleton.mp z]
          omega
    · exact Nat.lt_trans (show_chr c (List.mem_of_mem_drop z)) (by decide)
end Sq


set_option Elab.async false
set_option maxRecDepth 100000
set_option maxHeartbeats 4000000
namespace Sq
open PySem PySem.Spec PyProof.Rows L2
/-! ## a text times an int -/
def repL (k : Nat) (a : List Nat) : List Nat := (List.replicate k a).flatten
theorem repL_one (k c : Nat) : repL k [c] = List.replicate k c := by
  induction k with
  | zero => rfl
  | succ k ih =>
    unfold repL at ih ⊢
    rw [List.replicate_succ, List.flatten_cons, ih]
    rfl
theorem fold_cps (a : Array Nat) : ∀ (k : Nat) (b : Array Nat), ((List.replicate k a).foldl (· ++ ·) b).toList = b.toList ++ repL k a.toList
  | 0, b => by simp [repL]
  | k + 1, b => by
    rw [List.replicate_succ, List.foldl_cons, fold_cps a k, Array.toList_append]
    unfold repL
    rw [List.replicate_succ, List.flatten_cons, List.append_assoc]
def rRepSL : R2 := fun x y H Q => ∃ (a : List Nat) (k : Int), x = .str (SX.S a) ∧ y = .int k ∧ -(2 ^ 62) < k ∧ k < 2 ^ 62 ∧ a.length * k.toNat ≤ 10000000 ∧ Q (.str (SX.S (repL k.toNat a))) H
theorem op_rep_strL {X : Cx} : OpR X (binaryOp .Mult) rRepSL := by
  intro pins s σ H x y v u Q I rx ry h
  obtain ⟨a, k, rfl, rfl, h1, h2, hz, q⟩ := h
  obtain ⟨t, rfl⟩ := rx
  obtain ⟨t', rfl⟩ := ry
  have el : (SX.S a).length = a.length := SX.S_len a
  refine PySem.P.mul_str ?_ (fun p e => ?_) (fun p e => ?_) ?_
  · rw [decide_eq_false (by omega), decide_eq_false (by omega)]
    rfl
  · rw [el]
    have kp : 0 < k := by omega
    refine Int.not_lt.mpr ((Int.le_ediv_iff_mul_le kp).mpr ?_)
    have ek : ((k.toNat : Nat) : Int) = k := Int.toNat_of_nonneg (by omega)
    have hz2 : ((a.length * k.toNat : Nat) : Int) ≤ 10000000 := by omega
    rw [Int.natCast_mul, ek] at hz2
    omega
  · rw [el]
    unfold Builtin.Str.tooLong
    refine decide_eq_false ?_
    have := sizeLine_eq
    omega
  · by_cases c : k < 1
    · rw [if_pos c]
      refine ⟨by decide, .str _, H, I.tok _, ⟨_, rfl⟩, ?_⟩
      have e : k.toNat = 0 := by omega
      rw [e] at q
      exact q
    · rw [if_neg c]
      split
      · rename_i z
        refine ⟨.str (SX.S a), H, I, ⟨_, rfl⟩, ?_⟩
        have e : repL k.toNat a = a := by
          rw [Bool.or_eq_true] at z
          rcases z with z | z
          · have : k = 1 := eq_of_beq z
            rw [this]
            simp [repL]
          · have : a.length = 0 := by
              rw [el] at z
              exact eq_of_beq z
            rw [List.eq_nil_of_length_eq_zero this]
            simp [repL]
        rw [e] at q
        exact q
      · have e : (⟨(List.replicate k.toNat (SX.S a).cps).foldl (· ++ ·) #[]⟩ : Str) = SX.S (repL k.toNat a) := by
          refine TL.ext_tl ?_
          show ((List.replicate k.toNat a.toArray).foldl (· ++ ·) #[]).toList = _
          rw [fold_cps]
          rfl
        rw [e]
        refine ⟨?_, .str _, H, I.tok _, ⟨_, rfl⟩, q⟩
        have : (repL k.toNat a).length = k.toNat * a.length := by simp [repL]
        rw [SX.S_len, this, Nat.mul_comm]
        have := sizeLine_eq
        omega
end Sq


set_option Elab.async false
set_option maxRecDepth 100000
set_option maxHeartbeats 2000000
namespace Sq
open PySem PySem.Spec PyProof.Rows L2
/-! ## pieces of a text -/
abbrev Pc := List Nat × Bool
def pcS (c : Nat) (acc : List Pc) (x : Nat) : List Pc :=
  match acc.getLast? with
  | some (w, b) => if b = decide (x = c) then acc.dropLast ++ [(w ++ [x], b)] else acc ++ [([x], decide (x = c))]
  | none => [([x], decide (x = c))]
def pcs (c : Nat) (u : List Nat) : List Pc := u.foldl (pcS c) []
theorem pcs_snoc (c : Nat) (u : List Nat) (x : Nat) : pcs c (u ++ [x]) = pcS c (pcs c u) x := by simp [pcs]
theorem pcs_take {c : Nat} {u : List Nat} {i x : Nat} (h : u[i]? = some x) : pcs c (u.take (i + 1)) = pcS c (pcs c (u.take i)) x := by
  rw [List.take_add_one, h]
  exact pcs_snoc c _ x
theorem pcS_snoc (c : Nat) (acc : List Pc) (w : List Nat) (b : Bool) (x : Nat) : pcS c (acc ++ [(w, b)]) x = if b = decide (x = c) then acc ++ [(w ++ [x], b)] else acc ++ [(w, b)] ++ [([x], decide (x = c))] := by
  unfold pcS
  rw [List.getLast?_concat]
  simp only [List.dropLast_concat]
/-- run by run -/
def goR (f : Nat → Nat) (c : Nat) : Nat → List Nat → List Nat
  | n, [] => List.replicate (f n) c
  | n, x :: r => if x = c then goR f c (n + 1) r else List.replicate (f n) c ++ x :: goR f c 0 r
def outP (f : Nat → Nat) (c : Nat) (ps : List Pc) : List Nat := ps.flatMap fun p => if p.2 = true then List.replicate (f p.1.length) c else p.1
theorem outP_app (f : Nat → Nat) (c : Nat) (a b : List Pc) : outP f c (a ++ b) = outP f c a ++ outP f c b := by simp [outP]
theorem out_both {f : Nat → Nat} (h0 : f 0 = 0) (c : Nat) : ∀ (u : List Nat) (acc : List Pc) (w : List Nat),
    outP f c (u.foldl (pcS c) (acc ++ [(w, true)])) = outP f c acc ++ goR f c w.length u ∧ outP f c (u.foldl (pcS c) (acc ++ [(w, false)])) = outP f c acc ++ (w ++ goR f c 0 u)
  | [], acc, w => by
    constructor
    · rw [List.foldl_nil, outP_app]
      simp [outP, goR]
    · rw [List.foldl_nil, outP_app]
      simp [outP, goR, h0]
  | x :: r, acc, w => by
    have ih := out_both h0 c r
    constructor
    · rw [List.foldl_cons, pcS_snoc]
      by_cases e : x = c
      · rw [if_pos (by simp [e]), (ih _ _).1]
        simp [goR, e]
      · rw [if_neg (by simp [e]), decide_eq_false e, (ih _ _).2, outP_app]
        simp [outP, goR, e]
    · rw [List.foldl_cons, pcS_snoc]
      by_cases e : x = c
      · rw [if_neg (by simp [e]), decide_eq_true e, (ih _ _).1, outP_app]
        simp [outP, goR, e]
      · rw [if_pos (by simp [e]), (ih _ _).2]
        simp [goR, e, h0]
theorem out_pcs {f : Nat → Nat} (h0 : f 0 = 0) (c : Nat) (u : List Nat) : outP f c (pcs c u) = goR f c 0 u := by
  unfold pcs
  cases u with
  | nil => simp [outP, goR, h0]
  | cons x r =>
    have e : pcS c [] x = [] ++ [([x], decide (x = c))] := rfl
    rw [List.foldl_cons, e]
    by_cases h : x = c
    · rw [decide_eq_true h, (out_both h0 c r [] [x]).1]
      simp [outP, goR, h]
    · rw [decide_eq_false h, (out_both h0 c r [] [x]).2]
      simp [outP, goR, h, h0]
/-- a text squeezed -/
def sqT (c : Nat) (ks : List Int) (u : List Nat) : List Nat := goR (fun n => (sqz (n : Int) ks).toNat) c 0 u
theorem sqz0 {ks : List Int} (h : Two ks) : sqz 0 ks = 0 := by
  have a := sqz_nn (n := 0) (Int.le_refl _) h
  have b := sqz_le (n := 0) (Int.le_refl _) h
  omega
theorem goR_len {f : Nat → Nat} (hf : ∀ n, f n ≤ n) (c : Nat) : ∀ (u : List Nat) (n : Nat), (goR f c n u).length ≤ n + u.length
  | [], n => by
    have := hf n
    simp [goR]
    omega
  | x :: r, n => by
    unfold goR
    split
    · have := goR_len hf c r (n + 1)
      simp only [List.length_cons]
      omega
    · have a := goR_len hf c r 0
      have b := hf n
      simp only [List.length_append, List.length_replicate, List.length_cons]
      omega
theorem sqT_len {c : Nat} {ks : List Int} (h : Two ks) (u : List Nat) : (sqT c ks u).length ≤ u.length := by
  have z := goR_len (f := fun n => (sqz (n : Int) ks).toNat) (fun n => by
    have := sqz_le (n := (n : Int)) (by omega) h
    show (sqz (n : Int) ks).toNat ≤ n
    omega) c u 0
  unfold sqT
  omega
theorem goR_mem {f : Nat → Nat} (c : Nat) {p : Nat → Prop} (hc : p c) : ∀ (u : List Nat) (n : Nat), (∀ x ∈ u, p x) → ∀ x ∈ goR f c n u, p x
  | [], n, _, x, hx => by
    rw [List.eq_of_mem_replicate hx]
    exact hc
  | y :: r, n, h, x, hx => by
    unfold goR at hx
    have hr : ∀ z ∈ r, p z := fun z hz => h z (List.mem_cons_of_mem _ hz)
    split at hx
    · exact goR_mem c hc r (n + 1) hr x hx
    · rcases List.mem_append.mp hx with z | z
      · rw [List.eq_of_mem_replicate z]
        exact hc
      · rcases List.mem_cons.mp z with z | z
        · rw [z]
          exact h y (List.mem_cons_self ..)
        · exact goR_mem c hc r 0 hr x z
theorem sqT_mem {c : Nat} {ks : List Int} {u : List Nat} {p : Nat → Prop} (hc : p c) (h : ∀ x ∈ u, p x) : ∀ x ∈ sqT c ks u, p x := goR_mem c hc u 0 h
/-- how long the pieces are -/
theorem pcs_sum (c : Nat) (u : List Nat) : ((pcs c u).map (·.1.length)).sum = u.length := by
  have key : ∀ (u : List Nat) (acc : List Pc), ((u.foldl (pcS c) acc).map (·.1.length)).sum = (acc.map (·.1.length)).sum + u.length := fun u => by
    induction u with
    | nil => intro acc; simp
    | cons x r ih =>
      intro acc
      rw [List.foldl_cons, ih]
      have e : ((pcS c acc x).map (·.1.length)).sum = (acc.map (·.1.length)).sum + 1 := by
        cases eg : acc.getLast? with
        | none =>
          have : acc = [] := List.getLast?_eq_none_iff.mp eg
          subst this
          rfl
        | some p =>
          obtain ⟨w, b⟩ := p
          obtain ⟨a, rfl⟩ := List.getLast?_eq_some_iff.mp eg
          rw [pcS_snoc]
          split <;> simp <;> omega
      rw [e, List.length_cons]
      omega
  have z := key u []
  simpa [pcs] using z
theorem pcs_one {c : Nat} {u : List Nat} : ∀ p ∈ pcs c u, 1 ≤ p.1.length := by
  have key : ∀ (u : List Nat) (acc : List Pc), (∀ p ∈ acc, 1 ≤ p.1.length) → ∀ p ∈ u.foldl (pcS c) acc, 1 ≤ p.1.length := fun u => by
    induction u with
    | nil => exact fun acc h => h
    | cons x r ih =>
      intro acc h
      rw [List.foldl_cons]
      refine ih _ fun p hp => ?_
      cases eg : acc.getLast? with
      | none =>
        have : acc = [] := List.getLast?_eq_none_iff.mp eg
        subst this
        have : p = ([x], decide (x = c)) := by simpa [pcS] using hp
        rw [this]
        exact Nat.le_refl _
      | some q =>
        obtain ⟨w, b⟩ := q
        obtain ⟨a, rfl⟩ := List.getLast?_eq_some_iff.mp eg
        rw [pcS_snoc] at hp
        split at hp
        · rcases List.mem_append.mp hp with z | z
          · exact h p (List.mem_append_left _ z)
          · rw [List.mem_singleton.mp z]
            simp
        · rcases List.mem_append.mp hp with z | z
          · exact h p z
          · rw [List.mem_singleton.mp z]
            exact Nat.le_refl _
  exact key u [] fun p hp => nomatch hp
theorem pcs_count (c : Nat) (u : List Nat) : (pcs c u).length ≤ u.length := by
  have key : ∀ ps : List Pc, (∀ p ∈ ps, 1 ≤ p.1.length) → ps.length ≤ (ps.map (·.1.length)).sum := fun ps => by
    induction ps with
    | nil => exact fun _ => Nat.le_refl _
    | cons p r ih =>
      intro h
      have a := ih fun q hq => h q (List.mem_cons_of_mem _ hq)
      have b := h p (List.mem_cons_self ..)
      rw [List.map_cons, List.sum_cons, List.length_cons]
      omega
  have z := key _ (pcs_one (c := c) (u := u))
  rw [pcs_sum] at z
  exact z
theorem pcs_le {c : Nat} {u : List Nat} : ∀ p ∈ pcs c u, p.1.length ≤ u.length := fun p hp => by
  have key : ∀ ps : List Pc, p ∈ ps → p.1.length ≤ (ps.map (·.1.length)).sum := fun ps => by
    induction ps with
    | nil => intro h; cases h
    | cons q r ih =>
      intro h
      rw [List.map_cons, List.sum_cons]
      rcases List.mem_cons.mp h with z | z
      · rw [z]
        omega
      · have := ih z
        omega
  have z := key _ hp
  rw [pcs_sum] at z
  exact z
theorem pcs_mem {c : Nat} {u : List Nat} {P : Nat → Prop} (h : ∀ x ∈ u, P x) : ∀ p ∈ pcs c u, ∀ x ∈ p.1, P x := by
  have key : ∀ (u : List Nat) (acc : List Pc), (∀ x ∈ u, P x) → (∀ p ∈ acc, ∀ x ∈ p.1, P x) → ∀ p ∈ u.foldl (pcS c) acc, ∀ x ∈ p.1, P x := fun u => by
    induction u with
    | nil => exact fun acc _ h => h
    | cons y r ih =>
      intro acc hu h
      rw [List.foldl_cons]
      have hy := hu y (List.mem_cons_self ..)
      refine ih _ (fun x hx => hu x (List.mem_cons_of_mem _ hx)) fun p hp => ?_
      cases eg : acc.getLast? with
      | none =>
        have : acc = [] := List.getLast?_eq_none_iff.mp eg
        subst this
        have : p = ([y], decide (y = c)) := by simpa [pcS] using hp
        rw [this]
        intro x hx
        rw [List.mem_singleton.mp hx]
        exact hy
      | some q =>
        obtain ⟨w, b⟩ := q
        obtain ⟨a, rfl⟩ := List.getLast?_eq_some_iff.mp eg
        rw [pcS_snoc] at hp
        split at hp
        · rcases List.mem_append.mp hp with z | z
          · exact h p (List.mem_append_left _ z)
          · rw [List.mem_singleton.mp z]
            intro x hx
            rcases List.mem_append.mp hx with v | v
            · exact h (w, b) (List.mem_append_right _ (List.mem_singleton.mpr rfl)) x v
            · rw [List.mem_singleton.mp v]
              exact hy
        · rcases List.mem_append.mp hp with z | z
          · exact h p z
          · rw [List.mem_singleton.mp z]
            intro x hx
            rw [List.mem_singleton.mp hx]
            exact hy
  exact key u [] h fun p hp => nomatch hp
/-! ## a list of tuples (piece, is a run) -/
def PcH (H : Hp) (l : Addr) (ps : List Pc) : Prop := ∃ ts : List Addr, H l = some (.lst (ts.map V.ref)) ∧ ts.length = ps.length ∧ ∀ (i : Nat) (t : Addr) (p : Pc), ts[i]? = some t → ps[i]? = some p → H t = some (.tup [.str (SX.S p.1), .bl p.2])
theorem PcH.same {H H' : Hp} {l : Addr} {ps : List Pc} (h : PcH H l ps) (s : Same H H') : PcH H' l ps := by
  obtain ⟨ts, a, b, c⟩ := h
  exact ⟨ts, s _ _ a, b, fun i t p h1 h2 => s _ _ (c i t p h1 h2)⟩
def dPc (ps : List Pc) : PyData := .list (ps.map fun p => .tuple [.str (SX.S p.1), .bool p.2])
theorem dpall_pc {K : PySem.W.Frag} {H : Hp} : ∀ (ts : List Addr) (ps : List Pc), ts.length = ps.length → (∀ (i : Nat) (t : Addr) (p : Pc), ts[i]? = some t → ps[i]? = some p → H t = some (.tup [.str (SX.S p.1), .bl p.2])) →
    DpAll K H (ts.map V.ref) (ps.map fun p => .tuple [.str (SX.S p.1), .bool p.2])
  | [], [], _, _ => .nil
  | [], _ :: _, h, _ => by simp at h
  | _ :: _, [], h, _ => by simp at h
  | t :: ts, p :: ps, h, c => .cons (.tup (SqT.of (c 0 t p rfl rfl)) (.cons (.str _) (.cons (.bl _) .nil))) (dpall_pc ts ps (by simpa using h) fun i t' p' h1 h2 => c (i + 1) t' p' (by simpa using h1) (by simpa using h2))
theorem can_pc : ∀ ps : List Pc, (∀ p ∈ ps, PyData.strOk (SX.S p.1) = true) → PyData.canLayAll0 (ps.map fun p => .tuple [.str (SX.S p.1), .bool p.2]) = true
  | [], _ => by simp [PyData.canLayAll0]
  | p :: r, h => by simp [PyData.canLayAll0, PyData.canLay0, h p (List.mem_cons_self ..), can_pc r fun q hq => h q (List.mem_cons_of_mem _ hq)]
theorem dep_pc : ∀ ps : List Pc, PyData.depthAll (ps.map fun p => .tuple [.str (SX.S p.1), .bool p.2]) ≤ 1
  | [] => by simp [PyData.depthAll]
  | p :: r => by
    have := dep_pc r
    simp only [List.map_cons, PyData.depthAll, PyData.depth]
    omega
theorem r_nePc {K : PySem.W.Frag} {H : Hp} {l b : Addr} {ps : List Pc} {Q : VK} (h1 : PcH H l ps) (hk : ∀ p ∈ ps, PyData.strOk (SX.S p.1) = true) (h2 : H b = some (.lst [])) (q : Q (.bl (!decide (ps = []))) H) : rNeQ K (.ref l) (.ref b) H Q := by
  obtain ⟨ts, a, c, d⟩ := h1
  refine rNeQ_of ⟨dPc ps, dI [], .lst (seqL_of a) (dpall_pc ts ps c d), dp_iv (seqL_of h2), ?_, shaped_dI [], ?_⟩
  · have z := dep_pc ps
    unfold SeqAt.shaped dPc
    rw [Bool.and_eq_true, decide_eq_true_eq]
    refine ⟨by simp only [PyData.canLay0, can_pc ps hk], ?_⟩
    show PyData.depth _ ≤ 64
    rw [PyData.depth]
    omega
  · have e : PyData.eqv (dPc ps) (dI []) = decide (ps = []) := by
      unfold dPc dI
      cases ps with
      | nil => simp [PyData.eqv, PyData.eqvAll]
      | cons a r => simp [PyData.eqv, PyData.eqvAll]
    rw [e]
    exact q
theorem PcH.last {H : Hp} {l : Addr} {ps : List Pc} {p : Pc} (h : PcH H l ps) (e : ps.getLast? = some p) :
    ∃ (ts : List Addr) (t : Addr) (j : Nat), H l = some (.lst (ts.map V.ref)) ∧ ixN (ts.map V.ref).length (-1) = some j ∧ atI (ts.map V.ref) (-1) = some (.ref t) ∧ H t = some (.tup [.str (SX.S p.1), .bl p.2]) ∧
      ∀ (T : Addr) (q : Pc) (H' : Hp), (∀ b o, b ≠ l → H b = some o → H' b = some o) → H' T = some (.tup [.str (SX.S q.1), .bl q.2]) → H' l = some (.lst ((ts.map V.ref).set j (.ref T))) → PcH H' l (ps.dropLast ++ [q]) := by
  obtain ⟨ts, h1, h2, h3⟩ := h
  obtain ⟨a, rfl⟩ := List.getLast?_eq_some_iff.mp e
  have lp : ts.length = a.length + 1 := by rw [h2]; simp
  have ix : ixN (ts.map V.ref).length (-1) = some a.length := by
    rw [List.length_map, lp]
    unfold ixN
    rw [if_neg (by omega), if_pos (by omega)]
    congr 1
    omega
  have lt : a.length < ts.length := by omega
  refine ⟨ts, ts[a.length], a.length, h1, ix, ?_, h3 _ _ _ (List.getElem?_eq_getElem lt) (by simp), fun T q H' keep hT hl => ?_⟩
  · unfold atI
    rw [ix]
    show (ts.map V.ref)[a.length]? = _
    rw [List.getElem?_map, List.getElem?_eq_getElem lt]
    rfl
  · rw [List.dropLast_concat]
    refine ⟨ts.set a.length T, by rw [hl, List.map_set], by rw [List.length_set, List.length_append, List.length_singleton, lp], fun i t p' ht hp => ?_⟩
    have li : i < ts.length := by
      have := (List.getElem?_eq_some_iff.mp ht).1
      rwa [List.length_set] at this
    by_cases z : i = a.length
    · subst z
      rw [List.getElem?_set_self lt] at ht
      have et : T = t := Option.some.inj ht
      have ep : q = p' := by simpa using hp
      rw [← et, ← ep]
      exact hT
    · rw [List.getElem?_set_ne (by omega)] at ht
      rw [List.getElem?_append_left (by omega)] at hp
      have old := h3 i t p' ht (by rw [List.getElem?_append_left (by omega)]; exact hp)
      refine keep t _ (fun e => ?_) old
      rw [e, h1] at old
      cases old
theorem PcH.snoc {H : Hp} {l : Addr} {ps : List Pc} (h : PcH H l ps) : ∃ ts : List Addr, H l = some (.lst (ts.map V.ref)) ∧ ts.length = ps.length ∧
    ∀ (T : Addr) (q : Pc) (H' : Hp), (∀ b o, b ≠ l → H b = some o → H' b = some o) → H' T = some (.tup [.str (SX.S q.1), .bl q.2]) → H' l = some (.lst (ts.map V.ref ++ [.ref T])) → PcH H' l (ps ++ [q]) := by
  obtain ⟨ts, h1, h2, h3⟩ := h
  refine ⟨ts, h1, h2, fun T q H' keep hT hl => ⟨ts ++ [T], by rw [hl]; simp, by simp [h2], fun i t p ht hp => ?_⟩⟩
  by_cases z : i < ts.length
  · rw [List.getElem?_append_left z] at ht
    rw [List.getElem?_append_left (by omega)] at hp
    have old := h3 i t p ht hp
    refine keep t _ (fun e => ?_) old
    rw [e, h1] at old
    cases old
  · have li : i = ts.length := by
      have := (List.getElem?_eq_some_iff.mp ht).1
      simp at this
      omega
    subst li
    have et : T = t := by simpa using ht
    have ep : q = p := by
      rw [h2, List.getElem?_append_right (Nat.le_refl _), Nat.sub_self] at hp
      simpa using hp
    rw [← et, ← ep]
    exact hT
/-- for x in a text -/
theorem for_str {u : List Nat} {g : TG} {tb : TS} {D : Ends} {σ : L2.St} {H : Hp} (Pv : Nat → L2.St → Hp → Prop) (h0 : Pv 0 σ H)
    (hs : ∀ (i : Nat) (x : Nat) (σ : L2.St) (H : Hp), u[i]? = some x → Pv i σ H → g (.str (SX.S [x])) σ H fun σ2 H2 => tb { D with nx := Pv (i + 1), ct := Pv (i + 1), bk := D.nx } σ2 H2) (hd : ∀ σ H, Pv u.length σ H → D.nx σ H) :
    ∃ W : Nat → Nat → L2.St → Hp → Prop, (∃ m, W 0 m σ H) ∧ ∀ i m σ H, W i m σ H → ((Its (SX.S u)).stop i H ∧ D.nx σ H) ∨
      ((Its (SX.S u)).go i H ∧ ∃ N : L2.St → Hp → Prop, (∀ σ' H', N σ' H' → ∃ m', m' < m ∧ W (i + 1) m' σ' H') ∧ ∀ v H', (Its (SX.S u)).yld i H v H' → g v σ H' fun σ2 H2 => tb { D with nx := N, ct := N, bk := D.nx } σ2 H2) := by
  have sz : (SX.S u).cps.size = u.length := SX.S_len u
  refine ⟨fun i m σ H => m + i = u.length ∧ Pv i σ H, ⟨u.length, rfl, h0⟩, fun i m σ H hW => ?_⟩
  obtain ⟨em, p⟩ := hW
  by_cases lt : i < u.length
  · refine .inr ⟨by show i < (SX.S u).cps.size; omega, Pv (i + 1), fun σ' H' p' => ⟨m - 1, by omega, by omega, p'⟩, fun v H' hy => ?_⟩
    obtain ⟨rfl, c, ec, rfl⟩ := hy
    refine hs i c σ H' ?_ p
    have e : (SX.S u).cps[i]? = u[i]? := by
      show (u.toArray)[i]? = _
      simp
    rw [← e]
    exact ec
  · have ei : i = u.length := by omega
    subst ei
    exact .inl ⟨by show (SX.S u).cps.size ≤ _; omega, hd σ H p⟩
theorem strOkS {a : List Nat} (h : ∀ c ∈ a, c < 0x110000) : PyData.strOk (SX.S a) = true := by
  unfold PyData.strOk
  rw [Array.all_eq_true_iff_forall_mem]
  intro c hc
  exact decide_eq_true (h c (by simpa using hc))
theorem same_atP {G H : Hp} {o : Addr} {u : HO} (s : Same G H) (n : G o = none) : Same G (upd H o u) := fun b x e => upd_off (fun z => by
  rw [z, n] at e
  cases e) (s b x e)
theorem joinL_nil : ∀ ws : List (List Nat), TL.joinL [] ws = ws.flatten
  | [] => rfl
  | [a] => by simp [TL.joinL]
  | a :: b :: r => by
    have ih := joinL_nil (b :: r)
    simp only [TL.joinL, List.nil_append, List.flatten_cons] at ih ⊢
    rw [ih]
end Sq


set_option Elab.async false
set_option maxRecDepth 100000
set_option maxHeartbeats 4000000
namespace Sq
open PySem PySem.Spec L2
/-! ## groups replaced one after the other are runs squeezed -/
/-- what stands behind a part of a text: what is done, and how many of the character are pending -/
def stS (f : Nat → Nat) (c : Nat) (s : List Nat × Nat) (x : Nat) : List Nat × Nat := if x = c then (s.1, s.2 + 1) else (s.1 ++ List.replicate (f s.2) c ++ [x], 0)
theorem goR_st (f : Nat → Nat) (c : Nat) : ∀ (u : List Nat) (s : List Nat × Nat), s.1 ++ goR f c s.2 u = (u.foldl (stS f c) s).1 ++ List.replicate (f (u.foldl (stS f c) s).2) c
  | [], s => rfl
  | x :: r, s => by
    show _ = (r.foldl (stS f c) (stS f c s x)).1 ++ _
    rw [List.foldl_cons, ← goR_st f c r (stS f c s x)]
    unfold stS
    by_cases h : x = c
    · rw [if_pos h, goR, if_pos h]
    · rw [if_neg h, goR, if_neg h]
      simp
def rpS (c k : Nat) (s : List Nat × Nat) (x : Nat) : List Nat × Nat :=
  let g := if x = c then s.2 + 1 else 0
  let f := s.1 ++ [x]
  if g = k then (f.take (f.length - k) ++ [c], 0) else (f, g)
def rp (c k : Nat) (u : List Nat) : List Nat × Nat := u.foldl (rpS c k) ([], 0)
theorem rp_take {c k : Nat} {u : List Nat} {i x : Nat} (h : u[i]? = some x) : rp c k (u.take (i + 1)) = rpS c k (rp c k (u.take i)) x := by
  unfold rp
  rw [List.take_add_one, h]
  simp
def onceN (k n : Nat) : Nat := n / k + n % k
theorem rp_step {c k : Nat} (hk : 2 ≤ k) (d : List Nat) (n x : Nat) : rpS c k (d ++ List.replicate (onceN k n) c, n % k) x = ((stS (onceN k) c (d, n) x).1 ++ List.replicate (onceN k (stS (onceN k) c (d, n) x).2) c, (stS (onceN k) c (d, n) x).2 % k) := by
  unfold rpS stS
  by_cases h : x = c
  · subst h
    simp only [if_true]
    have e := Nat.div_add_mod n k
    have lt := Nat.mod_lt n (show 0 < k by omega)
    by_cases z : n % k + 1 = k
    · have e1 : n + 1 = k * (n / k + 1) := by rw [Nat.mul_add]; omega
      have d1 : (n + 1) / k = n / k + 1 := by rw [e1, Nat.mul_div_cancel_left _ (by omega)]
      have m1 : (n + 1) % k = 0 := by rw [e1, Nat.mul_mod_right]
      rw [if_pos z]
      unfold onceN
      rw [d1, m1]
      refine Prod.ext ?_ rfl
      show List.take _ _ ++ [x] = _
      have e2 : d ++ List.replicate (n / k + n % k) x ++ [x] = (d ++ List.replicate (n / k) x) ++ List.replicate k x := by
        rw [List.append_assoc, List.append_assoc, ← List.replicate_succ', List.replicate_append_replicate]
        congr 2
        omega
      rw [e2, List.length_append, List.length_replicate, Nat.add_sub_cancel, List.take_left' rfl, List.append_assoc, ← List.replicate_succ']
    · have e1 : n + 1 = n % k + 1 + k * (n / k) := by omega
      have d1 : (n + 1) / k = n / k := by rw [e1, Nat.add_mul_div_left _ _ (by omega), Nat.div_eq_of_lt (by omega)]; omega
      have m1 : (n + 1) % k = n % k + 1 := by
        have : (n % k + 1 + k * (n / k)) % k = n % k + 1 := by rw [Nat.add_mul_mod_self_left, Nat.mod_eq_of_lt (by omega)]
        rw [← e1] at this
        exact this
      rw [if_neg z]
      unfold onceN
      rw [d1, m1]
      refine Prod.ext ?_ rfl
      show _ ++ [x] = _
      rw [List.append_assoc, ← List.replicate_succ']
      rfl
  · simp only [if_neg h]
    rw [if_neg (by omega)]
    simp [onceN]
theorem rp_st {c k : Nat} (hk : 2 ≤ k) : ∀ (u : List Nat) (d : List Nat) (n : Nat), u.foldl (rpS c k) (d ++ List.replicate (onceN k n) c, n % k) = ((u.foldl (stS (onceN k) c) (d, n)).1 ++ List.replicate (onceN k (u.foldl (stS (onceN k) c) (d, n)).2) c, (u.foldl (stS (onceN k) c) (d, n)).2 % k)
  | [], d, n => rfl
  | x :: r, d, n => by
    rw [List.foldl_cons, rp_step hk, List.foldl_cons]
    exact rp_st hk r _ _
theorem once_nat {k n : Nat} (hk : 2 ≤ k) : (sqz (n : Int) [(k : Int)]).toNat = onceN k n := by
  show (once (n : Int) (k : Int)).toNat = _
  have : once (n : Int) (k : Int) = ((n / k + n % k : Nat) : Int) := by
    unfold once
    first
      | rfl
      | (rw [Int.fdiv_eq_ediv_of_nonneg _ (by omega), Int.fmod_eq_emod_of_nonneg _ (by omega)]; rfl)
  rw [this]
  rfl
theorem rp_sq {c k : Nat} (hk : 2 ≤ k) (u : List Nat) : (rp c k u).1 = sqT c [(k : Int)] u := by
  have h := rp_st (c := c) hk u [] 0
  have z : onceN k 0 = 0 := by simp [onceN]
  rw [z, Nat.zero_mod] at h
  unfold rp
  rw [show (([], 0) : List Nat × Nat) = ([] ++ List.replicate 0 c, 0) from rfl, h]
  unfold sqT
  rw [show (fun n : Nat => (sqz (n : Int) [(k : Int)]).toNat) = onceN k from funext fun n => once_nat hk]
  exact (goR_st (onceN k) c u ([], 0)).symm
theorem goR_rep (f : Nat → Nat) (c : Nat) : ∀ (j m : Nat) (r : List Nat), goR f c m (List.replicate j c ++ r) = goR f c (m + j) r
  | 0, m, r => rfl
  | j + 1, m, r => by
    rw [List.replicate_succ, List.cons_append, goR, if_pos rfl, goR_rep f c j (m + 1) r]
    congr 1
    omega
theorem goR_comp (f1 f2 : Nat → Nat) (c : Nat) : ∀ (u : List Nat) (n : Nat), goR f2 c 0 (goR f1 c n u) = goR (fun m => f2 (f1 m)) c n u
  | [], n => by
    have := goR_rep f2 c (f1 n) 0 []
    rw [List.append_nil, Nat.zero_add] at this
    exact this
  | x :: r, n => by
    by_cases h : x = c
    · rw [goR, if_pos h, goR, if_pos h]
      exact goR_comp f1 f2 c r (n + 1)
    · rw [goR, if_neg h, goR_rep, Nat.zero_add, goR, if_neg h, goR, if_neg h, goR_comp f1 f2 c r 0]
theorem sqz_nat {n : Nat} {ks : List Int} (h : Two ks) : ((sqz (n : Int) ks).toNat : Int) = sqz (n : Int) ks := Int.toNat_of_nonneg (sqz_nn (Int.natCast_nonneg _) h)
theorem sqT_comp {c : Nat} {a b : List Int} (ha : Two a) (u : List Nat) : sqT c b (sqT c a u) = sqT c (a ++ b) u := by
  unfold sqT
  rw [goR_comp]
  congr 1
  funext n
  rw [sqz_nat ha, sqz_app]
theorem sqT_nil {c : Nat} (u : List Nat) : sqT c [] u = u := by
  have : ∀ (u : List Nat) (n : Nat), goR (fun n : Nat => (sqz (n : Int) []).toNat) c n u = List.replicate n c ++ u := fun u => by
    induction u with
    | nil =>
      intro n
      show List.replicate n c = _
      simp
    | cons x r ih =>
      intro n
      rw [goR]
      by_cases h : x = c
      · rw [if_pos h, ih, List.replicate_succ', h]
        simp
      · rw [if_neg h, ih]
        rfl
  exact this u 0
theorem sqT_no {c : Nat} {ks : List Int} (h2 : Two ks) {u : List Nat} (h : ∀ x ∈ u, x ≠ c) : sqT c ks u = u := by
  have z : (sqz ((0 : Nat) : Int) ks).toNat = 0 := by
    rw [show ((0 : Nat) : Int) = 0 from rfl, sqz0 h2]
    rfl
  unfold sqT
  induction u with
  | nil => rw [goR, z]; rfl
  | cons x r ih =>
    rw [goR, if_neg (h x (List.mem_cons_self ..)), ih fun y hy => h y (List.mem_cons_of_mem _ hy), z]
    rfl
theorem goR_rest (f : Nat → Nat) (c : Nat) : ∀ (u : List Nat) (n : Nat), (goR f c n u).filter (fun x => decide (x ≠ c)) = u.filter (fun x => decide (x ≠ c))
  | [], n => by
    show (List.replicate (f n) c).filter _ = _
    rw [List.filter_replicate]
    simp
  | x :: r, n => by
    by_cases h : x = c
    · rw [goR, if_pos h, goR_rest f c r, List.filter_cons_of_neg (by simpa using h)]
    · rw [goR, if_neg h, List.filter_append, List.filter_replicate, List.filter_cons_of_pos (by simpa using h), List.filter_cons_of_pos (by simpa using h), goR_rest f c r]
      simp
theorem sqT_rest (c : Nat) (ks : List Int) (u : List Nat) : (sqT c ks u).filter (fun x => decide (x ≠ c)) = u.filter (fun x => decide (x ≠ c)) := goR_rest _ c u 0
/-- the lengths of the runs of a character, some of it before the text -/
def rn (c : Nat) : Nat → List Nat → List Nat
  | n, [] => if n = 0 then [] else [n]
  | n, x :: r => if x = c then rn c (n + 1) r else (if n = 0 then [] else [n]) ++ rn c 0 r
theorem rn_rep (c : Nat) : ∀ (j m : Nat) (r : List Nat), rn c m (List.replicate j c ++ r) = rn c (m + j) r
  | 0, m, r => rfl
  | j + 1, m, r => by
    rw [List.replicate_succ, List.cons_append, rn, if_pos rfl, rn_rep c j (m + 1) r]
    congr 1
    omega
theorem rn_goR {f : Nat → Nat} (hf : ∀ n, f n = 0 ↔ n = 0) (c : Nat) : ∀ (u : List Nat) (n : Nat), rn c 0 (goR f c n u) = (rn c n u).map f
  | [], n => by
    have := rn_rep c (f n) 0 []
    rw [List.append_nil, Nat.zero_add] at this
    show rn c 0 (List.replicate (f n) c) = _
    rw [this, rn, rn]
    by_cases h : n = 0
    · rw [if_pos h, if_pos ((hf n).mpr h)]
      rfl
    · rw [if_neg h, if_neg fun z => h ((hf n).mp z)]
      rfl
  | x :: r, n => by
    by_cases h : x = c
    · rw [goR, if_pos h, rn, if_pos h]
      exact rn_goR hf c r (n + 1)
    · rw [goR, if_neg h, rn_rep, Nat.zero_add, rn, if_neg h, rn, if_neg h, rn_goR hf c r 0, List.map_append]
      by_cases z : n = 0
      · rw [if_pos z, if_pos ((hf n).mpr z)]
        rfl
      · rw [if_neg z, if_neg fun y => z ((hf n).mp y)]
        rfl
theorem rn_far (c : Nat) {x : Nat} (hx : x ≠ c) : ∀ (u : List Nat) (n : Nat), rn c n (u ++ [x]) = rn c n u
  | [], n => by
    simp [rn, hx]
  | y :: r, n => by
    show rn c n (y :: (r ++ [x])) = _
    rw [rn, rn]
    by_cases h : y = c
    · rw [if_pos h, if_pos h, rn_far c hx r]
    · rw [if_neg h, if_neg h, rn_far c hx r]
theorem rn_more (c : Nat) : ∀ (u : List Nat) (n : Nat), ((u = [] ∧ n ≠ 0) ∨ u.getLast? = some c) → ∃ rs m, rn c n u = rs ++ [m] ∧ rn c n (u ++ [c]) = rs ++ [m + 1]
  | [], n, h => by
    rcases h with ⟨_, h⟩ | h
    · exact ⟨[], n, by rw [rn, if_neg h]; rfl, by show rn c n [c] = _; rw [rn, if_pos rfl, rn, if_neg (by omega)]; rfl⟩
    · cases h
  | y :: r, n, h => by
    have hl : (y :: r).getLast? = some c := h.resolve_left fun z => nomatch z.1
    show ∃ rs m, rn c n (y :: r) = _ ∧ rn c n (y :: (r ++ [c])) = _
    rw [rn, rn]
    by_cases e : y = c
    · rw [if_pos e, if_pos e]
      refine rn_more c r (n + 1) ?_
      cases r with
      | nil => exact .inl ⟨rfl, by omega⟩
      | cons z q => exact .inr (by simpa using hl)
    · rw [if_neg e, if_neg e]
      cases r with
      | nil => exact absurd (by simpa using hl) e
      | cons z q =>
        obtain ⟨rs, m, e1, e2⟩ := rn_more c (z :: q) 0 (.inr (by simpa using hl))
        exact ⟨(if n = 0 then [] else [n]) ++ rs, m, by rw [e1]; simp, by rw [e2]; simp⟩
theorem rn_new (c : Nat) : ∀ (u : List Nat) (n : Nat), ¬ ((u = [] ∧ n ≠ 0) ∨ u.getLast? = some c) → rn c n (u ++ [c]) = rn c n u ++ [1]
  | [], n, h => by
    have z : n = 0 := Classical.byContradiction fun z => h (.inl ⟨rfl, z⟩)
    subst z
    simp [rn]
  | y :: r, n, h => by
    show rn c n (y :: (r ++ [c])) = _
    rw [rn, rn]
    by_cases e : y = c
    · rw [if_pos e, if_pos e]
      refine rn_new c r (n + 1) fun z => ?_
      rcases z with ⟨rfl, _⟩ | z
      · exact h (.inr (by rw [e]; rfl))
      · cases r with
        | nil => cases z
        | cons q t => exact h (.inr (by simpa using z))
    · rw [if_neg e, if_neg e, rn_new c r 0 fun z => ?_, List.append_assoc]
      rcases z with ⟨_, z⟩ | z
      · exact z rfl
      · cases r with
        | nil => cases z
        | cons q t => exact h (.inr (by simpa using z))
theorem rn_len (c : Nat) : ∀ (u : List Nat) (n : Nat), (rn c n u).length ≤ u.length + 1
  | [], n => by
    rw [rn]
    split <;> simp
  | x :: r, n => by
    rw [rn]
    have := rn_len c r (n + 1)
    have := rn_len c r 0
    split
    · rw [List.length_cons]; omega
    · rw [List.length_append, List.length_cons]
      split <;> simp <;> omega
theorem sqz_zero {ks : List Int} (h : Two ks) {n : Int} (hn : 0 ≤ n) : sqz n ks = 0 ↔ n = 0 := by
  constructor
  · intro e
    have := fun z : 1 ≤ n => sqz_pos z h
    omega
  · rintro rfl
    exact sqz0 h
theorem rn_sqT {c : Nat} {ks : List Int} (h : Two ks) (u : List Nat) : rn c 0 (sqT c ks u) = (rn c 0 u).map fun n : Nat => (sqz (n : Int) ks).toNat := by
  refine rn_goR (fun n => ?_) c u 0
  have := sqz_zero h (n := (n : Int)) (by omega)
  have e := sqz_nat (n := n) h
  omega
end Sq


set_option Elab.async false
set_option maxRecDepth 100000
set_option maxHeartbeats 4000000
namespace PySem
/-! ## enumerate(text): each character in a new pair -/
section
variable {prog : Program} {w : World} {A : Around} {E : Value → Shared → Prop} {s : Shared}
theorem enumS_next {e it : Addr} {i : Nat} {x old : Value} {W : Heap → Prop} {Q : Value → Shared → Prop} (he : IsEnum s.heap e it i old) (hne : e ≠ it) (hw : ∀ h h', W h → (∀ o, h.get? it = some o → h'.get? it = some o) → W h')
    (hnx : ∀ R : Value → Shared → Prop, (∀ h', W h' → Heap.SameBut it s.heap h' → R x { s with heap := h', toks := s.toks + 1 }) → wpAny (model prog w) A (Builtin.SmallTypes.nextOf (.ref it)) R E s)
    (hQ : ∀ h', IsEnumOut h' e it ((i : Int) + 1) x s.heap.objs.size → W h' → h'.get? s.heap.objs.size = some { cls := .type "tuple", data := .seq #[.int i (s.toks + 1), x] } →
      h'.objs.size = s.heap.objs.size + 1 → (∀ b o, b ≠ e → b ≠ it → s.heap.get? b = some o → h'.get? b = some o) → Q (.ref s.heap.objs.size) { s with heap := h', toks := s.toks + 2 }) :
    wpAny (model prog w) A (Builtin.«enumerate.__next__» ⟨[.ref e], []⟩) (fun fin s' => ∃ v, fin = .done (.ret v) ∧ Q v s') E s := by
  obtain ⟨H0, g, d, tk, os⟩ := s
  show wpAny _ _ (field (.ref e) 2 >>= _) _ _ ⟨H0, g, d, tk, os⟩
  refine wpAny_bind (wpAny_field he rfl (x := .ref it) rfl (wpAny_bind (hnx _ fun m1 w1 b1 => ?_)))
  replace b1 : Heap.SameBut it H0 m1 := b1
  have n1 : IsEnum m1 e it i old := (b1.2 e hne).trans he
  show wpAny _ _ (field (.ref e) 3 >>= _) _ _ ⟨m1, g, d, tk + 1, os⟩
  refine wpAny_bind (wpAny_field n1 rfl (x := rawInt i) rfl ?_)
  show wpAny _ _ (field (.ref e) 4 >>= _) _ _ ⟨m1, g, d, tk + 1, os⟩
  refine wpAny_bind (wpAny_field n1 rfl (x := .none) rfl ?_)
  show wpAny _ _ (mkInt i >>= _) _ _ ⟨m1, g, d, tk + 1, os⟩
  refine wpAny_bind (wpAny_mkInt ?_)
  show wpAny _ _ (setField (.ref e) 3 (rawInt ((i : Int) + 1)) >>= _) _ _ ⟨m1, g, d, tk + 2, os⟩
  refine wpAny_bind (wpAny_setField_rec n1 (by simp) fun m2 n2 b2 => ?_)
  replace b2 : Heap.SameBut e m1 m2 := b2
  replace n2 : IsEnum m2 e it ((i : Int) + 1) old := n2
  show wpAny _ _ (setField (.ref e) 4 .none >>= _) _ _ ⟨m2, g, d, tk + 2, os⟩
  refine wpAny_bind (wpAny_setField_rec n2 (by simp) fun m3 n3 b3 => ?_)
  replace b3 : Heap.SameBut e m2 m3 := b3
  replace n3 : IsEnum m3 e it ((i : Int) + 1) old := n3
  show wpAny _ _ (newTuple [.int i (tk + 1), x] >>= _) _ _ ⟨m3, g, d, tk + 2, os⟩
  refine wpAny_bind (wpAny_newTuple ?_)
  have n4 : IsEnum (m3.push { cls := .type "tuple", data := .seq #[.int i (tk + 1), x] }) e it ((i : Int) + 1) old := Heap.get?_push_of_some _ n3
  generalize q4 : m3.push { cls := .type "tuple", data := .seq #[.int i (tk + 1), x] } = m4 at n4
  have z3 : m3.objs.size = H0.objs.size := by rw [b3.1, b2.1, b1.1]
  have le : e < H0.objs.size := Heap.lt_size he
  have t4 : m4.get? H0.objs.size = some { cls := .type "tuple", data := .seq #[.int i (tk + 1), x] } := by rw [← q4, ← z3]; exact Heap.get?_push_size _ rfl
  have z4 : m4.objs.size = H0.objs.size + 1 := by rw [← q4, Heap.size_push, z3]
  have k4 : ∀ b o, b ≠ e → b ≠ it → H0.get? b = some o → m4.get? b = some o := fun b o hbe hbi hb => by
    rw [← q4]
    exact Heap.get?_push_of_some _ (b3.extBut b o hbe (b2.extBut b o hbe (b1.extBut b o hbi hb)))
  have w4 : W m4 := hw _ _ w1 fun o ho => by
    rw [← q4]
    exact Heap.get?_push_of_some _ (b3.extBut _ _ (Ne.symm hne) (b2.extBut _ _ (Ne.symm hne) ho))
  show wpAny _ _ (Builtin.SmallTypes.ownedTupleIsFree (.ref e) >>= _) _ _ ⟨m4, g, d, tk + 2, os⟩
  rw [z3]
  clear q4 n3 b3 n2 b2 n1 b1 w1 z3 m3 m2 m1
  refine wpAny_bind ?_
  unfold Builtin.SmallTypes.ownedTupleIsFree
  refine wpAny_bind (wpAny_field n4 rfl (x := .none) rfl (wpAny_pure ?_))
  simp only [if_true]
  refine wpAny_bind (wpAny_rule (wpAny_bind (wpAny_field n4 rfl (x := old) rfl (wpAny_bind (wpAny_setField_rec n4 (by simp) fun m5 n5 b5 => ?_)))))
  replace b5 : Heap.SameBut e m4 m5 := b5
  replace n5 : IsEnum m5 e it ((i : Int) + 1) x := n5
  show wpAny _ _ (Builtin.SmallTypes.ownedTupleHandOut (.ref e) (.ref H0.objs.size) >>= _) _ _ ⟨m5, g, d, tk + 2, os⟩
  refine wpAny_bind ?_
  unfold Builtin.SmallTypes.ownedTupleHandOut
  refine wpAny_bind (wpAny_setField_rec n5 (by simp) fun m6 n6 b6 => ?_)
  replace b6 : Heap.SameBut e m5 m6 := b6
  replace n6 : IsEnumOut m6 e it ((i : Int) + 1) x H0.objs.size := n6
  refine wpAny_setField_rec n6 (by simp) fun m7 n7 b7 => ?_
  replace b7 : Heap.SameBut e m6 m7 := b7
  replace n7 : IsEnumOut m7 e it ((i : Int) + 1) x H0.objs.size := n7
  have far : ∀ b o, b ≠ e → m4.get? b = some o → m7.get? b = some o := fun b o z y => b7.extBut _ _ z (b6.extBut _ _ z (b5.extBut _ _ z y))
  exact wpAny_bind (wpAny_letGo (wpAny_pure ⟨_, rfl, hQ m7 n7 (hw _ _ w4 fun o ho => far _ _ (Ne.symm hne) ho) (far _ _ (Nat.ne_of_gt le) t4) (by rw [b7.1, b6.1, b5.1, z4]) fun b o z1 z2 y => far b o z1 (k4 b o z1 z2 y)⟩))
theorem enumS_item {e it : Addr} {i : Nat} {x old : Value} {W : Heap → Prop} {Q : Option Value → Shared → Prop} (he : IsEnum s.heap e it i old) (hne : e ≠ it) (hw : ∀ h h', W h → (∀ o, h.get? it = some o → h'.get? it = some o) → W h')
    (hnx : ∀ (R : Value → Shared → Prop) (F : Value → Shared → Prop), (∀ h', W h' → Heap.SameBut it s.heap h' → R x { s with heap := h', toks := s.toks + 1 }) → wpAny (model prog w) A.in1 (Builtin.SmallTypes.nextOf (.ref it)) R F s)
    (hQ : ∀ h', IsEnumOut h' e it ((i : Int) + 1) x s.heap.objs.size → W h' → h'.get? s.heap.objs.size = some { cls := .type "tuple", data := .seq #[.int i (s.toks + 1), x] } →
      h'.objs.size = s.heap.objs.size + 1 → (∀ b o, b ≠ e → b ≠ it → s.heap.get? b = some o → h'.get? b = some o) → Q (some (.ref s.heap.objs.size)) { s with heap := h', toks := s.toks + 2 }) :
    wpAny (model prog w) A (pyNext (.ref e)) Q E s := by
  have tE : s.TypeIs (.ref e) "enumerate" := ⟨_, he, rfl⟩
  unfold pyNext
  refine wpAny_bind (wpAny_attempt (wpAny_callSpecial?_slot (name := Str.ofString "__next__") tE F.slot_enumerate_next (wpAny_call_entry F.slot_enumerate_next tE F.entry_enumerate_next ?_ (F.args_enumerate_next_1 _))))
  exact enumS_next he hne hw (fun R hR => hnx R _ hR) fun h' a b c d k => wpAny_pure (hQ h' a b c d k)
theorem enumS_end {e it : Addr} {i : Nat} {old : Value} {Q : Option Value → Shared → Prop} (he : IsEnum s.heap e it i old)
    (hnx : ∀ (R F : Value → Shared → Prop), (∀ h' a, Heap.ExtBut it s.heap h' → (∃ o, h'.get? a = some o ∧ o.cls = .type "StopIteration") → F (.ref a) { s with heap := h' }) → wpAny (model prog w) A.in1 (Builtin.SmallTypes.nextOf (.ref it)) R F s)
    (hQ : ∀ h', Heap.ExtBut it s.heap h' → Q none { s with heap := h' }) : wpAny (model prog w) A (pyNext (.ref e)) Q E s := by
  have tE : s.TypeIs (.ref e) "enumerate" := ⟨_, he, rfl⟩
  unfold pyNext
  refine wpAny_bind (wpAny_attempt (wpAny_callSpecial?_slot (name := Str.ofString "__next__") tE F.slot_enumerate_next (wpAny_call_entry F.slot_enumerate_next tE F.entry_enumerate_next ?_ (F.args_enumerate_next_1 _))))
  show wpAny _ _ (field (.ref e) 2 >>= _) _ _ s
  refine wpAny_bind (wpAny_field he rfl (x := .ref it) rfl (wpAny_bind (hnx _ _ fun h' a k1 k2 => ?_)))
  obtain ⟨o, ho, hc⟩ := k2
  exact wpAny_bind (wpAny_isInstance (T := "StopIteration") (b := true) ⟨o, ho, hc⟩ isSubtype_stop (wpAny_pure (hQ _ k1)))
end
end PySem
namespace L2
open PySem PySem.Spec PyProof.Rows
/-- each character of a text with its index, in a new pair -/
def Ites (x : Str) : It := ⟨fun i _ => i < x.cps.size, fun i H v H' => ∃ T c, v = .ref T ∧ H T = none ∧ H' = upd H T (.tup [.int (i : Nat), .str ⟨#[c]⟩]) ∧ x.cps[i]? = some c, fun i _ => x.cps.size ≤ i⟩
theorem stN {ty x t i} {h h' : Heap} {it : Addr} (st : h.IsStrIter it ty x t i) (k : ∀ o, h.get? it = some o → h'.get? it = some o) : h'.IsStrIter it ty x t i := let ⟨o, ho, r⟩ := st; ⟨o, k o ho, r⟩
theorem strIter_two (x : Str) : strIterType x = "str_ascii_iterator" ∨ strIterType x = "str_iterator" := by
  unfold strIterType
  cases x.cps.all (· < 128)
  · exact .inr rfl
  · exact .inl rfl
theorem turn_enumS {P : Program} {w : World} {K : PySem.W.Frag} {elts : List Expr} {kk : Nat} {tpos : Pos} (e it : Addr) (x : Str) (t : Tok) (ty : String) (hty : ty = "str_ascii_iterator" ∨ ty = "str_iterator") :
    Turn P w K (.Tuple elts kk tpos) (Ites x) [e, it] e (fun i h => (∃ old, IsEnum h e it ((i : Nat) : Int) old) ∧ h.IsStrIter it ty x t i ∧ e ≠ it) where
  mem := by simp
  obj := fun i h st b hb => by
    obtain ⟨⟨old, he⟩, ⟨o, ho, hc, hd⟩, _⟩ := st
    have e' : b = e ∨ b = it := by simpa using hb
    rcases e' with rfl | rfl
    · exact ⟨_, he, fun v q => nomatch q⟩
    · exact ⟨o, ho, fun v q => by rw [hd] at q; cases q⟩
  keep := fun i h h' st k => let ⟨⟨old, he⟩, hi, hne⟩ := st; ⟨⟨old, k e (by simp) _ he⟩, stN hi fun o q => k it (by simp) o q, hne⟩
  item := by
    intro X hP hw hK hc i pins s σ H E I hf st hg
    subst hP hw hK
    obtain ⟨⟨old, he⟩, hit, hne⟩ := st
    obtain ⟨c, hx⟩ : ∃ c, x.cps[i]? = some c := ⟨_, Array.getElem?_eq_getElem hg⟩
    have hel : e < s.heap.objs.size := Heap.lt_size he
    have hil : it < s.heap.objs.size := by obtain ⟨_, q, _⟩ := hit; exact Heap.lt_size q
    refine enumS_item (x := .str ⟨#[c]⟩ s.toks) (W := fun h => h.IsStrIter it ty x t (i + 1)) he hne (fun h h' st k => stN st k) (fun R F hR => ?_) fun h' ho hit' hT hsz hk => ?_
    · rcases hty with rfl | rfl
      · exact wpAny_nextOf_ascii_item hit hx hR
      · exact wpAny_nextOf_wide_item hit hx hR
    refine ⟨_, rfl, wpAny_letOwnedTupleGo_enum (s := { s with heap := h', toks := s.toks + 2 }) ho fun h2 he2 sb => ?_⟩
    have hT2 : h2.get? s.heap.objs.size = some { cls := .type "tuple", data := .seq #[.int i (s.toks + 1), .str ⟨#[c]⟩ s.toks] } := (sb.2 _ (Nat.ne_of_gt hel)).trans hT
    have new : ObjOk X.prog X.w (upd H s.heap.objs.size (.tup [.int (i : Nat), .str ⟨#[c]⟩])) h2 s.heap.objs.size (.tup [.int (i : Nat), .str ⟨#[c]⟩]) :=
      ⟨by show 2 ≤ sizeLine; decide, [.int i (s.toks + 1), .str ⟨#[c]⟩ s.toks], .cons ⟨_, rfl⟩ (.cons ⟨_, rfl⟩ .nil), ⟨_, hT2, rfl, _, rfl⟩⟩
    have I1 : Inv X pins σ (upd H s.heap.objs.size (.tup [.int (i : Nat), .str ⟨#[c]⟩])) { s with heap := h2, toks := s.toks + 2 } :=
      I.turnedNew (ch := [e, it]) (fun b ob hb q => (sb.2 b fun z => hb (by simp [z])).trans (hk b ob (fun z => hb (by simp [z])) (fun z => hb (by simp [z])) q)) hf (Nat.le_refl _) new
    refine ⟨.ref s.heap.objs.size, _, I1, rfl, ⟨_, c, rfl, I.hok.fresh (Nat.le_refl _), rfl, hx⟩, ⟨⟨.str ⟨#[c]⟩ s.toks, by rw [show ((i + 1 : Nat) : Int) = (i : Int) + 1 by omega]; exact he2⟩, stN hit' fun o q => (sb.2 it (Ne.symm hne)).trans q, hne⟩, fun b hb => ?_⟩
    have hb' : b < s.heap.objs.size := by
      have e' : b = e ∨ b = it := by simpa using hb
      rcases e' with rfl | rfl
      · exact hel
      · exact hil
    rw [upd_ne (Nat.ne_of_lt hb')]
    exact (hf b hb).1
  done := by
    intro X hP hw hK hc i pins s σ H E I hf st hg
    subst hP hw hK
    obtain ⟨⟨old, he⟩, hit, hne⟩ := st
    obtain ⟨f0, f1, f2, f3, f4, f5⟩ := hf it (by simp)
    have hx : x.cps[i]? = none := Array.getElem?_eq_none hg
    refine enumS_end he (fun R F hR => ?_) fun h' eb => ⟨rfl, I.turned (t' := s.toks) (fun b o hb q => eb b o hb q) f0 f1 f3 f4 f5⟩
    rcases hty with rfl | rfl
    · exact wpAny_nextOf_ascii_end (I.ok.hd hc) hit hx hR
    · exact wpAny_nextOf_wide_end (I.ok.hd hc) hit hx hR
  self := fun A i s Q E st h => let ⟨⟨_, he⟩, _⟩ := st; wpAny_pyIter_enum he h
def iEnumS (ta : TA) : TI := fun σ H R => ta σ H fun vs H1 => ∃ x, vs = [.str x] ∧ R (Ites x) H1
theorem pi_enumS {X : Cx} {e : Expr} {ta : TA} {p pos tpos : Pos} {elts : List Expr} {kk : Nat} (hg : Gl X "enumerate") (hm : X.mg "enumerate" = none) (ha : PA X [e] ta) (hs : starEach [e] X.env = [(false, eval e X.env)] := by rfl) :
    PI X (.Tuple elts kk tpos) (.Call (.Name "enumerate" p) [e] [] pos) (iEnumS ta) := by
  refine ⟨fun pins s σ H R I h => ?_⟩
  refine Call_ (ld_blt I hg hm boot_enumerate (PyProof.Rows.callWith_type1 (thn (ha.run pos pins s σ H _ I h) fun us s1 ⟨vs, H1, I1, r1, x, ex, q⟩ => ?_) hs rfl))
  subst ex
  cases r1 with
  | cons r rr =>
    cases rr
    obtain ⟨t, rfl⟩ := r
    refine call_enumerate_str fun h' he hit hsz hk => wpAny_pyIter_enum he ?_
    have I2 : Inv X pins σ H1 { s1 with heap := h' } := I1.kept (t' := s1.toks) hk
    refine ⟨s1.heap.objs.size + 1, [s1.heap.objs.size + 1, s1.heap.objs.size], _, _, H1, rfl, I2, turn_enumS (s1.heap.objs.size + 1) s1.heap.objs.size x t _ (strIter_two x), ⟨⟨.none, he⟩, hit, Nat.succ_ne_self _⟩, fun b hb => ?_, q⟩
    have hle : s1.heap.objs.size ≤ b := by
      rcases (show b = s1.heap.objs.size + 1 ∨ b = s1.heap.objs.size by simpa using hb) with rfl | rfl
      · exact Nat.le_succ _
      · exact Nat.le_refl _
    exact I1.fpOk hle (I1.hok.fresh hle)
end L2
namespace Sq
open PySem PySem.Spec PyProof.Rows L2
/-- a loop over the characters of a text and their indices -/
theorem for_enumS {u : List Nat} {g : TG} {tb : TS} {D : Ends} {σ : L2.St} {H : Hp} (Pv : Nat → L2.St → Hp → Prop) (h0 : Pv 0 σ H)
    (hs : ∀ (i : Nat) (x : Nat) (T : Addr) (σ : L2.St) (H : Hp), u[i]? = some x → Pv i σ H → H T = none → g (.ref T) σ (upd H T (.tup [.int (i : Nat), .str (SX.S [x])])) fun σ2 H2 => tb { D with nx := Pv (i + 1), ct := Pv (i + 1), bk := D.nx } σ2 H2) (hd : ∀ σ H, Pv u.length σ H → D.nx σ H) :
    ∃ W : Nat → Nat → L2.St → Hp → Prop, (∃ m, W 0 m σ H) ∧ ∀ i m σ H, W i m σ H → ((Ites (SX.S u)).stop i H ∧ D.nx σ H) ∨
      ((Ites (SX.S u)).go i H ∧ ∃ N : L2.St → Hp → Prop, (∀ σ' H', N σ' H' → ∃ m', m' < m ∧ W (i + 1) m' σ' H') ∧ ∀ v H', (Ites (SX.S u)).yld i H v H' → g v σ H' fun σ2 H2 => tb { D with nx := N, ct := N, bk := D.nx } σ2 H2) := by
  have sz : (SX.S u).cps.size = u.length := SX.S_len u
  refine ⟨fun i m σ H => m + i = u.length ∧ Pv i σ H, ⟨u.length, rfl, h0⟩, fun i m σ H ⟨em, p⟩ => ?_⟩
  by_cases lt : i < u.length
  · refine .inr ⟨by show i < (SX.S u).cps.size; omega, Pv (i + 1), fun σ' H' p' => ⟨m - 1, by omega, by omega, p'⟩, fun v H' hy => ?_⟩
    obtain ⟨T, c, rfl, nT, rfl, ec⟩ := hy
    refine hs i c T σ H ?_ p nT
    rw [← show (SX.S u).cps[i]? = u[i]? by show (u.toArray)[i]? = _; simp]
    exact ec
  · have ei : i = u.length := by omega
    subst ei
    exact .inl ⟨by show (SX.S u).cps.size ≤ _; omega, hd σ H p⟩
/-- a list made of the characters of a text -/
theorem lc_str {u : List Nat} {g : TG} {tt : TT} {te : TE} {vs : List Nat} {σ : L2.St} {H1 : Hp} {D : Addr} {Qd : Hp → Prop} (Pv : Nat → Hp → Prop) (h0 : Pv 0 (upd H1 D (.lst [])))
    (hs : ∀ (i x : Nat) (H : Hp), u[i]? = some x → Pv i H → g (.str (SX.S [x])) (wipe σ vs) H fun σ2 H2 => wipe σ2 vs = wipe σ vs ∧ tt σ2 H2 fun b H3 =>
      if b = true then te σ2 H3 fun y H4 => ∃ acc, H4 D = some (.lst acc) ∧ acc.length < sizeLine ∧ Pv (i + 1) (upd H4 D (.lst (acc ++ [y]))) else Pv (i + 1) H3) (hd : ∀ H, Pv u.length H → Qd H) :
    ∃ W : Nat → Nat → Hp → Prop, (∃ m, W 0 m (upd H1 D (.lst []))) ∧ ∀ i m H, W i m H →
      ((Its (SX.S u)).stop i H ∧ Qd H) ∨ ((Its (SX.S u)).go i H ∧ ∃ Nx : Hp → Prop, (∀ H', Nx H' → ∃ m', m' < m ∧ W (i + 1) m' H') ∧ ∀ x H', (Its (SX.S u)).yld i H x H' → g x (wipe σ vs) H' fun σ2 H2 => wipe σ2 vs = wipe σ vs ∧ tt σ2 H2 fun b H3 =>
        if b = true then te σ2 H3 fun y H4 => ∃ acc, H4 D = some (.lst acc) ∧ acc.length < sizeLine ∧ Nx (upd H4 D (.lst (acc ++ [y]))) else Nx H3) := by
  have sz : (SX.S u).cps.size = u.length := SX.S_len u
  refine ⟨fun i m H => m + i = u.length ∧ Pv i H, ⟨u.length, rfl, h0⟩, fun i m H ⟨em, p⟩ => ?_⟩
  by_cases lt : i < u.length
  · refine .inr ⟨by show i < (SX.S u).cps.size; omega, Pv (i + 1), fun H' p' => ⟨m - 1, by omega, by omega, p'⟩, fun v H' hy => ?_⟩
    obtain ⟨rfl, c, ec, rfl⟩ := hy
    refine hs i c H' ?_ p
    rw [← show (SX.S u).cps[i]? = u[i]? by show (u.toArray)[i]? = _; simp]
    exact ec
  · have ei : i = u.length := by omega
    subst ei
    exact .inl ⟨by show (SX.S u).cps.size ≤ _; omega, hd H p⟩
end Sq


set_option Elab.async false
set_option maxRecDepth 100000
set_option maxHeartbeats 4000000
namespace PySem.HandSPX
open PySem PySem.Spec PySem.W PySem.Calls PyProof.Rows
/-! ## an own exception made by a keyword: C(k = u) -/
section
variable {M : Model} {A : Around} {E : Value → Shared → Prop} {h : Heap} {g : Array GenState} {d : Drawn} {t : Nat} {os : OsState}
variable {nm q : Str} {C N : Addr} {bs bm bmB : List Value} {hdct : Bool} {sn : List Str} {sub : List Value} {ab : Bool} {col : Option Bool} {dd : Option Addr} {k0 k1 k2 k3 k5 : Option Value} {B newId initId : String}
theorem check_newK (F : ExcBaseFacts B newId initId bmB) (hT : ∀ X : String, bm.contains (.type X) = bmB.contains (.type X)) {ky : Str} {u : Value} {Q : Unit → Shared → Prop}
    (hC : h.get? C = some (excClassObj nm q C N bs bm hdct sn sub ab col dd k0 k1 k2 k3 k5 newId)) (hq : Q () ⟨h, g, d, t, os⟩) : wpAny M A (checkBuiltinCall newId ⟨[.ref C], [(ky, u)]⟩) Q E ⟨h, g, d, t, os⟩ := by
  have hcont : (Value.ref C :: bm).contains (.type B) = true := by rw [List.contains_cons, hT, F.hasB, Bool.or_true]
  have hstar := F.noStar
  simp only [checkBuiltinCall, F.newKind, F.newSplit, F.newRow]
  repeat (first | refine wpAny_loadPart_at hC ?_ | (refine wpAny_isSubtype_exc hC ?_; rw [hcont]) | refine wpAny_staticBase_exc hC ?_ | refine wpAny_madeBy_exc hC ?_ | simp only [bne_self_eq_false, Bool.false_eq_true, if_false] | wp_step)
  exact hq
end
section
variable {prog : Program} {w : World} {A : Around} {E : Value → Shared → Prop} {R : Result → Shared → Prop} {h : Heap} {g : Array GenState} {d : Drawn} {t : Nat} {os : OsState}
variable {nm q : Str} {C N : Addr} {bs bm bmB : List Value} {hdct : Bool} {sn : List Str} {sub : List Value} {ab : Bool} {col : Option Bool} {dd : Option Addr} {k0 k1 k2 k3 k5 : Option Value} {B newId initId : String}
theorem newK (F : ExcBaseFacts B newId initId bmB) (hT : ∀ X : String, bm.contains (.type X) = bmB.contains (.type X)) {ky : Str} {u : Value}
    (hC : h.get? C = some (excClassObj nm q C N bs bm hdct sn sub ab col dd k0 k1 k2 k3 k5 newId))
    (hq : R (.ok (.ret (.ref (h.objs.size + 1)))) ⟨(h.push { cls := .type "tuple", data := .seq ([] : List Value).toArray }).push
      { cls := .ref C, data := .fields #[.ref h.objs.size, .none, .none, .none, .bool false, .none] }, g, d, t, os⟩) :
    codeAny (model prog w) A (.builtin newId ⟨[.ref C], [(ky, u)]⟩) R ⟨h, g, d, t, os⟩ := by
  have hends := F.ends
  have hcB : (Value.ref C :: bm).contains (.type B) = true := by rw [List.contains_cons, hT, F.hasB, Bool.or_true]
  have hcA : (Value.ref C :: bm).contains (.type "AttributeError") = false := by rw [List.contains_cons, hT, F.noAttr]; rfl
  have hcN : (Value.ref C :: bm).contains (.type "NameError") = false := by rw [List.contains_cons, hT, F.noName]; rfl
  refine codeAny_builtinAt F.entry ?_
  unfold Builtin.«BaseException.__new__»
  refine wpAt_bind ?_
  show wpAt _ _ _ (stack >>= _) _ _ _
  refine wpAt_bind (wpAt_stack fun p below => wpAt_of_wpAny ?_)
  wp_walk
  refine wpAt_of_wpAny ?_
  rw [F.owner]
  repeat (first | with_reducible refine wpAny_madeHere_exc F.canon hC ?_ | with_reducible refine wpAny_loadPart_at hC ?_ | (with_reducible refine wpAny_isSubtype_exc hC ?_; first | rw [hcB] | rw [hcA] | rw [hcN]) | wp_step)
  show R _ _
  rw [Heap.size_push]
  exact hq
theorem type_callK (F : ExcBaseFacts B newId initId bmB) (hT : ∀ X : String, bm.contains (.type X) = bmB.contains (.type X)) {ky : Str} {u : Value} {fI : Addr} {Q : Fin → Shared → Prop}
    (hC : h.get? C = some (excClassObj nm q C N bs bm hdct sn sub ab col dd k0 k1 k2 k3 k5 newId))
    (hi : W.Looks (model prog w) h (typeLookup (.ref C) "__init__") (some (.ref fI))) (hb : ∀ self, W.Looks (model prog w) h (bindSpecial (.ref fI) self) (.ref fI, [self]))
    (hq : codeAny (model prog w) A (.call (.ref fI) ⟨[.ref (h.objs.size + 1)], [(ky, u)]⟩)
      (fun r s' => match r with | .ok (.ret v) => v = .none ∧ Q (.done (.ret (.ref (h.objs.size + 1)))) s' | .ok _ => False | .error e => E e s')
      ⟨(h.push (W.kdv_tup [])).push (excO C h.objs.size), g, d, t, os⟩) :
    wpAny (model prog w) A (Builtin.«type.__call__» ⟨[.ref C], [(ky, u)]⟩) Q E ⟨h, g, d, t, os⟩ := by
  repeat (first | with_reducible refine wpAny_loadPart_at hC ?_ | with_reducible refine wpAny_madeBy_exc hC ?_ | wp_step)
  refine codeAny_call_builtin_code (Code.quiet_builtin _ F.quiet) (check_newK F hT hC ?_)
  refine newK F hT hC ?_
  show wpAny _ _ _ _ _ _
  have k : ∀ b o, h.get? b = some o → ((h.push (W.kdv_tup [])).push (excO C h.objs.size)).get? b = some o := fun b o e => Heap.get?_push_of_some _ (Heap.get?_push_of_some _ e)
  have hC₁ := k _ _ hC
  have hget : ((h.push (W.kdv_tup [])).push (excO C h.objs.size)).get? (h.objs.size + 1) = some (excO C h.objs.size) := by heap_get
  have hcC : (Value.ref C :: bm).contains (.ref C) = true := by simp
  have i1 := hi.keeps k
  have b1 := (hb (.ref (h.objs.size + 1))).keeps k
  unfold isInstance
  repeat (first | with_reducible refine wpAny_loadPart_at hget ?_ | (with_reducible refine wpAny_isSubtype_exc hC₁ ?_; rw [hcC]) | wp_step)
  show wpAny _ _ (typeLookup (.ref C) _) _ _ _
  refine i1.at ?_
  refine wpAny_holding (wpAny_bind (b1.at ?_))
  refine wpAny_bind (wpAny_call (codeAny_mono hq fun r s' z => ?_))
  rcases r with e | (v | _ | _ | _) <;> first | exact z | exact z.elim | skip
  obtain ⟨rfl, z⟩ := z
  first
    | exact wpAny_pure (wpAny_pure z)
    | (wp_walk; exact z)
theorem call_ownK (F : ExcBaseFacts B newId initId bmB) (hT : ∀ X : String, bm.contains (.type X) = bmB.contains (.type X)) {ky : Str} {u : Value} {fI : Addr}
    (hC : h.get? C = some (excClassObj nm q C N bs bm hdct sn sub ab col dd k0 k1 k2 k3 k5 newId))
    (hi : W.Looks (model prog w) h (typeLookup (.ref C) "__init__") (some (.ref fI))) (hb : ∀ self, W.Looks (model prog w) h (bindSpecial (.ref fI) self) (.ref fI, [self]))
    (hq : codeAny (model prog w) (A.under (.builtin "type.__call__" ⟨[.ref C], [(ky, u)]⟩)) (.call (.ref fI) ⟨[.ref (h.objs.size + 1)], [(ky, u)]⟩) (W.InitBack (h.objs.size + 1) R)
      ⟨(h.push (W.kdv_tup [])).push (excO C h.objs.size), g, d, t, os⟩) :
    codeAny (model prog w) A (.call (.ref C) ⟨[], [(ky, u)]⟩) R ⟨h, g, d, t, os⟩ := by
  have f1 := tc_lookup
  have f2 := tc_bind (.ref C)
  have hTy : (⟨h, g, d, t, os⟩ : Shared).TypeIs (.ref C) "type" := ⟨_, hC, rfl⟩
  refine codeAny_of_tree ?_
  show wpAny _ _ (callAny (.ref C) _) _ _ _
  repeat (any_goals (first | assumption | with_reducible refine wpAny_loadPart_at hC ?_ | wp_step))
  refine ⟨rfl, ?_⟩
  refine codeAny_call_builtin_at (Code.quiet_builtin _ (by decide +kernel)) entry_typeCall (wpAny_check_type_call_sub hC (type_callK F hT hC hi hb ?_))
  refine codeAny_mono hq fun r s' z => ?_
  rcases r with e | (v | _ | _ | _) <;> exact z
end
end PySem.HandSPX

namespace Sq
open PySem PySem.Spec PyProof.Rows L2
/-! ## an own exception as a value: C(e), C(value = e) -/
structure OwnX (P : Program) (w : World) (K : PySem.W.Frag) (mg : Str → Option Value) (base : Heap) (k : Nat) (x : Str) (C : Addr) : Prop where
  ex : ∃ (f : Addr) (fd : FuncData), OexC K C ∧ PySem.W.findIn K (.ref C) "__init__" = some (some (.ref f)) ∧ PySem.W.typeIn K (.ref f) = some (.type "function") ∧ FnOk P w K mg base CX0 k f fd ["self", "value"] (spXI C) ∧ mg x = some (.ref C) ∧ L2.Binds K fd ["self", "value"] [] ∧
    ∀ (s : Shared) (u v : Value), BindsTo s fd ⟨[u], [("value", v)]⟩ ((["self", "value"] : List Str).zip [u, v])
def tOex (C : Addr) (te : TE) : TE := fun σ H Q => te σ H fun v H1 => ∀ a d, H1 a = none → H1 d = none → d ≠ a → Q (.ref a) (upd (upd H1 d (exd d [("value", v)])) a (exo a C (some d)))
theorem xi_sp {C a : Addr} {v : V} {H : Hp} {Q : VK} {E : XK} (na : H a = none) (q : ∀ a d, H a = none → H d = none → d ≠ a → Q (.ref a) (upd (upd H d (exd d [("value", v)])) a (exo a C (some d)))) :
    spXI C [.ref a, v] (upd H a (exo a C none)) (fun x H2 => x = .non ∧ Q (.ref a) H2) E := by
  refine ⟨a, v, rfl, upd_same, fun dx nd ne => ⟨rfl, ?_⟩⟩
  rw [upd_ne ne] at nd
  have e : upd (upd (upd H a (exo a C none)) dx (exd dx [("value", v)])) a (exo a C (some dx)) = upd (upd H dx (exd dx [("value", v)])) a (exo a C (some dx)) := by
    funext b
    by_cases h1 : b = a
    · rw [h1, upd_same, upd_same]
    · rw [upd_ne h1, upd_ne h1]
      by_cases h2 : b = dx
      · rw [h2, upd_same, upd_same]
      · rw [upd_ne h2, upd_ne h2, upd_ne h1]
  rw [e]
  exact q a dx na nd ne
section
variable {X : Cx} {k j : Nat} {C : Addr} {x : Str} {p pos : Pos} {e : Expr} {te : TE} {kws : List Keyword} {t : TA}
theorem pe_oex (c : OwnX X.prog X.w X.K X.mg X.base k x C) (hr : Room j X.A) (hk : k + 1 ≤ j) (hg : Gl X x) (ha : PE X e te)
    (hdb : (x == ("__debug__" : Str)) = false := by decide) (he : starEach [e] X.env = (false, eval e X.env) :: starEach [] X.env := by rfl) (hpl : (backTo pos (starEach [] X.env)).any (·.1) = false := by rfl) : PE X (.Call (.Name x p) [e] [] pos) (tOex C te) := by
  obtain ⟨f, fd, T, iC, tI, FO, hm, b, bk⟩ := c.ex
  obtain ⟨nm, q, N, bs, bm, sn, sub, ab, col, dd, k0, k1, k2, k3, k5, hC, hbm⟩ := T.cls
  refine ⟨fun pins s σ H Q I h => wpAny_Call_Name_kw (ld_glob I hg hm ?_ hdb)⟩
  have pa : PA X [e] (tCons (tWk te) tNil) := pa_cons (pe_wk ha) pa_nil he
  refine PySem.W.callWith_K (h₀ := X.base) I.ok.mod.kin T.kC (thn (pa.run pos pins s σ H (fun vs H1 => ∃ v, vs = [v] ∧ ∀ a d, H1 a = none → H1 d = none → d ≠ a → Q (.ref a) (upd (upd H1 d (exd d [("value", v)])) a (exo a C (some d)))) I ⟨_, h, fun v G q => ⟨v, rfl, q⟩⟩) fun us s1 hh => ?_) he hpl
  obtain ⟨vs, H1, I1, r1, v, rfl, q1⟩ := hh
  obtain ⟨u, rfl, ru⟩ := r1.one
  refine ⟨I1.kIn, ?_⟩
  show wpAny _ _ (call (.ref C) [u]) _ _ _
  obtain ⟨hp, g, dr, tk, os⟩ := s1
  have hsz : hp.objs.size ≤ hp.objs.size + 1 := Nat.le_succ _
  have hn : H1 (hp.objs.size + 1) = none := I1.hok.fresh hsz
  have kk : ∀ b o, hp.get? b = some o → ((hp.push (PySem.W.kdv_tup [u])).push (PySem.HandSPX.excO C hp.objs.size)).get? b = some o := fun b o e => Heap.get?_push_of_some _ (Heap.get?_push_of_some _ e)
  have hget : ((hp.push (PySem.W.kdv_tup [u])).push (PySem.HandSPX.excO C hp.objs.size)).get? (hp.objs.size + 1) = some (PySem.HandSPX.excO C hp.objs.size) := by heap_get
  have I2 : Inv X pins σ (upd H1 (hp.objs.size + 1) (exo (hp.objs.size + 1) C none)) ⟨(hp.push (PySem.W.kdv_tup [u])).push (PySem.HandSPX.excO C hp.objs.size), g, dr, tk, os⟩ :=
    I1.laid (t' := tk) (a := hp.objs.size + 1) (o := exo (hp.objs.size + 1) C none) (h' := (hp.push (PySem.W.kdv_tup [u])).push (PySem.HandSPX.excO C hp.objs.size)) kk hsz (exo_ok hget)
  have r2 : Vals [V.ref (hp.objs.size + 1), v] [Value.ref (hp.objs.size + 1), u] := .cons rfl (.cons ru .nil)
  have hq := xi_sp (E := E0) hn q1
  have bb := b _ [Value.ref (hp.objs.size + 1), u] I2.kIn rfl
  refine wpAny_call (PySem.HandSPX.call_own F.excBase_ValueError (fun Y => PySem.HandSPX.refsVE_contains Y bm hbm) (I1.kIn _ _ hC) (PySem.W.looks_findIn I1.kIn iC) (fun self => PySem.W.bind_fn I1.kIn self tI) (lit_len (Nat.le_of_ble_eq_true rfl))
    (codeAny_mono (FO.run _ X.stack _ _ ⟨[Value.ref (hp.objs.size + 1), u], []⟩ [Value.ref (hp.objs.size + 1), u] _ _ E0 ((hr.mono hk).make C [u] []) (I2.env0.make C [u] []) bb r2 hq) fun r s' hq' => ?_))
  cases r with
  | error er => exact False.elim hq'
  | ok fl =>
    cases fl with
    | ret u =>
      obtain ⟨v, H', I3, rv, ev, q3⟩ := I2.after hq'
      subst ev
      exact ⟨rv, ⟨V.ref (hp.objs.size + 1), H', I3, rfl, q3⟩⟩
    | next => exact False.elim hq'
    | brk => exact False.elim hq'
    | cont => exact False.elim hq'
theorem pe_oexK {kpos : Pos} (c : OwnX X.prog X.w X.K X.mg X.base k x C) (hr : Room j X.A) (hk : k + 1 ≤ j) (hg : Gl X x) (ha : PE X e te)
    (hall : (backToKw pos (keywordEach [⟨some "value", e, kpos⟩] X.env)).all (·.1.isSome) = true := by rfl) (hks : (backToKw pos (keywordEach [⟨some "value", e, kpos⟩] X.env)).filterMap (·.1) = (["value"] : List Str) := by rfl) (hdb : (x == ("__debug__" : Str)) = false := by decide)
    (hpl : ((backTo pos (starEach [] X.env)).any (·.1) || (backToKw pos (keywordEach [⟨some "value", e, kpos⟩] X.env)).any (·.1.isNone)) = false := by rfl) : PE X (.Call (.Name x p) [] [⟨some "value", e, kpos⟩] pos) (tOex C te) := by
  obtain ⟨f, fd, T, iC, tI, FO, hm, b, bk⟩ := c.ex
  obtain ⟨nm, q, N, bs, bm, sn, sub, ab, col, dd, k0, k1, k2, k3, k5, hC, hbm⟩ := T.cls
  have pk : PK X [⟨some "value", e, kpos⟩] (tCons (tWk te) tNil) := pk_cons (pe_wk ha) pk_nil
  refine ⟨fun pins s σ H Q I h => wpAny_Call_Name_kw (ld_glob I hg hm (PySem.W.callWith_KW0 (h₀ := X.base) I.ok.mod.kin T.kC hall (thn (pk.run pos pins s σ H (fun vs H1 => ∃ v, vs = [v] ∧ ∀ a d, H1 a = none → H1 d = none → d ≠ a → Q (.ref a) (upd (upd H1 d (exd d [("value", v)])) a (exo a C (some d)))) I ⟨_, h, fun v G q => ⟨v, rfl, q⟩⟩) fun us s1 hh => ?_) hpl) hdb)⟩
  obtain ⟨vs, H1, I1, r1, v, rfl, q1⟩ := hh
  obtain ⟨u, rfl, ru⟩ := r1.one
  refine ⟨I1.kIn, ?_⟩
  rw [hks]
  show wpAny _ _ (call (.ref C) [] [("value", u)]) _ _ _
  obtain ⟨hp, g, dr, tk, os⟩ := s1
  have hsz : hp.objs.size ≤ hp.objs.size + 1 := Nat.le_succ _
  have hn : H1 (hp.objs.size + 1) = none := I1.hok.fresh hsz
  have kk : ∀ b o, hp.get? b = some o → ((hp.push (PySem.W.kdv_tup [])).push (PySem.HandSPX.excO C hp.objs.size)).get? b = some o := fun b o e => Heap.get?_push_of_some _ (Heap.get?_push_of_some _ e)
  have hget : ((hp.push (PySem.W.kdv_tup [])).push (PySem.HandSPX.excO C hp.objs.size)).get? (hp.objs.size + 1) = some (PySem.HandSPX.excO C hp.objs.size) := by heap_get
  have I2 : Inv X pins σ (upd H1 (hp.objs.size + 1) (exo (hp.objs.size + 1) C none)) ⟨(hp.push (PySem.W.kdv_tup [])).push (PySem.HandSPX.excO C hp.objs.size), g, dr, tk, os⟩ :=
    I1.laid (t' := tk) (a := hp.objs.size + 1) (o := exo (hp.objs.size + 1) C none) (h' := (hp.push (PySem.W.kdv_tup [])).push (PySem.HandSPX.excO C hp.objs.size)) kk hsz (exo_ok hget)
  have r2 : Vals [V.ref (hp.objs.size + 1), v] [Value.ref (hp.objs.size + 1), u] := .cons rfl (.cons ru .nil)
  have hq := xi_sp (E := E0) hn q1
  refine wpAny_call (PySem.HandSPX.call_ownK F.excBase_ValueError (fun Y => PySem.HandSPX.refsVE_contains Y bm hbm) (I1.kIn _ _ hC) (PySem.W.looks_findIn I1.kIn iC) (fun self => PySem.W.bind_fn I1.kIn self tI)
    (codeAny_mono (FO.run _ X.stack _ _ ⟨[Value.ref (hp.objs.size + 1)], [("value", u)]⟩ [Value.ref (hp.objs.size + 1), u] _ _ E0 ((hr.mono hk).make C [] [("value", u)]) (I2.env0.make C [] [("value", u)]) (bk _ _ _) r2 hq) fun r s' hq' => ?_))
  cases r with
  | error er => exact False.elim hq'
  | ok fl =>
    cases fl with
    | ret u =>
      obtain ⟨v, H', I3, rv, ev, q3⟩ := I2.after hq'
      subst ev
      exact ⟨rv, ⟨V.ref (hp.objs.size + 1), H', I3, rfl, q3⟩⟩
    | next => exact False.elim hq'
    | brk => exact False.elim hq'
    | cont => exact False.elim hq'
end
theorem kept_own {H : Hp} {a C d : Addr} {v : V} (na : H a = none) (nd : H d = none) (ne : d ≠ a) : Kept (upd (upd H d (exd d [("value", v)])) a (exo a C (some d))) a C [("value", v)] := ⟨d, .inr ⟨upd_same, upd_off ne upd_same⟩⟩
theorem own_mk {P : Program} {w : World} {K : PySem.W.Frag} {h base : Heap} {mg : Str → Option Value} {x : Str} {C f cc cda N : Addr} {nm q qual m file : Str} {bs bm sub : List Value} {sn : List Str} {ab : Bool} {col : Option Bool} {dd cld cdd od an : Option Addr} {k0 k1 k2 k3 k5 : Option Value}
    {cl ccl oc kV doc pm ct : Value} {csl ccs osl : Array (Option Value)} {cvs : Array Value} {tf : Tok} {p0 p1 p2 p3 p4 p5 p6 p7 p8 p9 q0 q1 : Pos} (X : K.In h) (G : h.Ns mainGlobals mg) (hm : mg x = some (.ref C))
    (lC : K.lookup C = some (excClassObj nm q C N bs bm true sn sub ab col dd k0 k1 k2 k3 k5 "ValueError.__new__")) (rC : PySem.HandSPX.refsVE bm = true) (sa : PySem.W.findIn K (.ref C) "__setattr__" = some (some (.builtin "object.__setattr__")))
    (ex : PySem.W.subIn K (.ref C) (.type "BaseException") = some true) (ty : PySem.W.typeIn K (.ref C) = some (.type "type")) (kc : PySem.W.keepIn K (.ref C) = true)
    (ini : PySem.W.findIn K (.ref C) "__init__" = some (some (.ref f))) (tyf : PySem.W.typeIn K (.ref f) = some (.type "function"))
    (l : K.lookup f = some ⟨oc, od, .func (PySem.W.ksFn "__init__" qual (xiArgs q0 q1) (xiBody m p0 p1 p2 p3 p4 p5 p6 p7 p8 p9) xiScope .none kV doc pm an (.ref cda) ct cc), osl⟩)
    (co : PySem.W.codeIn K (.ref cda) qual = true) (cell : K.lookup cc = some ⟨cl, cld, .cell (some (.ref C)), csl⟩) (rec_ : K.lookup cda = some ⟨ccl, cdd, .fields cvs, ccs⟩) (v2 : cvs[2]? = some (.str file tf)) (fl : ((P.main.file : Str) == file) = true)
    (top : (P.main.scope.names.lookup ("super" : Str)).isSome = false) (opq : PySem.W.nsIn K PySem.cStatics "thirdparty.any" = some none) (sup : PySem.W.ks_superIn K C C "__init__" = some (some (.builtin "ValueError.__init__"))) (veb : PySem.W.subIn K (.ref C) (.type "ValueError") = some true)
    (slf : PySem.W.mroIn K C (.ref C) = some true) (val : PySem.W.findIn K (.ref C) "value" = some none) (ms : PySem.W.nsIn K mainGlobals "super" = some none) (he : XiCall qual f cc cda m p0 p1 p2 p3 p4)
    (hb : ∀ us : List Value, us.length = 2 → bindArgs (PySem.W.ksFn "__init__" qual (xiArgs q0 q1) (xiBody m p0 p1 p2 p3 p4 p5 p6 p7 p8 p9) xiScope .none kV doc pm an (.ref cda) ct cc) ⟨us, []⟩ = pure ((["self", "value"] : List Str).zip us))
    (hbk : ∀ u v : Value, bindArgs (PySem.W.ksFn "__init__" qual (xiArgs q0 q1) (xiBody m p0 p1 p2 p3 p4 p5 p6 p7 p8 p9) xiScope .none kV doc pm an (.ref cda) ct cc) ⟨[u], [("value", v)]⟩ = pure ((["self", "value"] : List Str).zip [u, v])) : OwnX P w K mg base 1 x C :=
  ⟨f, _, ⟨⟨nm, q, N, bs, bm, sn, sub, ab, col, dd, k0, k1, k2, k3, k5, lC, rC⟩, sa, ex, ty, kc⟩, ini, tyf,
    ok_xi ⟨⟨nm, q, N, bs, bm, sn, sub, ab, col, dd, k0, k1, k2, k3, k5, lC, rC⟩, sa, ex, ty, kc⟩ ⟨co, ⟨cl, cld, csl, cell⟩, ⟨ccl, cdd, cvs, ccs, tf, rec_, v2⟩, fl, top, opq, sup, veb, slf, val⟩ l (PySem.W.mg_none_of X G ms) he, hm, L2.Binds.all hb, fun _ u v => .of_eq (hbk u v)⟩
/-! ## repr of any plain value -/
@[irreducible] def rReprV (K : PySem.W.Frag) : List V → Hp → VK → Prop := fun xs H Q => ∃ (x : V) (d : PyData), xs = [x] ∧ Dp K H x d ∧ d.showable = true ∧ d.hasDict = false ∧ d.depth ≤ 30 ∧ d.shown.length ≤ sizeLine ∧ Q (.str d.shown) H
theorem call_reprVK {X : Cx} {K : PySem.W.Frag} (hG : X.A.guards = some []) (hu : X.A.units + 64 < cLine) (h : X.K = K := by rfl) : CallR X (.builtin "repr") (rReprV K) := by
  subst h
  intro pins s σ H xs us Q I r h
  unfold rReprV at h
  obtain ⟨x, d, rfl, hd, hs, hn, hdp, hz, q⟩ := h
  obtain ⟨v, rfl, rv⟩ := vals1 r
  have ref : ∀ a : Addr, x = .ref a → wpAny (model X.prog X.w) X.A (call (.builtin "repr") [v]) (EP X pins σ Q) X.xe s := fun a e => by
    subst e
    cases rv
    obtain ⟨as, rd⟩ := Dp.reads I d _ _ hd rfl
    refine repr_of_reads' rd hs (PyData.noDict_hsm hn) hG (by omega) (fun b o e => e) (fun h' t tk hk => ?_) hz
    exact ⟨.str d.shown, H, I.kept hk, ⟨_, rfl⟩, q⟩
  cases hd with
  | non =>
    cases rv
    simp only [PyData.shown] at q
    exact PySem.P.repr_of_none ⟨.str _, H, I.tok _, ⟨_, rfl⟩, q⟩
  | bl b =>
    cases rv
    simp only [PyData.shown] at q
    exact PySem.P.repr_of_bool ⟨.str _, H, I.tok _, ⟨_, rfl⟩, q⟩
  | int i =>
    obtain ⟨t, rfl⟩ := rv
    simp only [PyData.shown] at q
    exact PySem.P.repr_of_int (by simpa [PyData.showable] using hs) ⟨.str _, H, I.tok _, ⟨_, rfl⟩, q⟩
  | str a =>
    obtain ⟨t, rfl⟩ := rv
    simp only [PyData.shown] at q hz
    exact PySem.P.repr_of_str ⟨.str _, H, I.tok _, ⟨_, rfl⟩, q⟩ hz
  | lst h1 h2 => exact ref _ rfl
  | tup h1 h2 => exact ref _ rfl
theorem rReprV_of {K : PySem.W.Frag} {H : Hp} {x : V} {d : PyData} {Q : VK} (hd : Dp K H x d) (h1 : d.showable = true) (h2 : d.hasDict = false) (h3 : d.depth ≤ 30) (h4 : d.shown.length ≤ sizeLine) (q : Q (.str d.shown) H) : rReprV K [x] H Q := by
  unfold rReprV
  exact ⟨x, d, rfl, hd, h1, h2, h3, h4, q⟩
/-! ## text * number -/
def rRepS : R2 := fun x y H Q => ∃ (a : Str) (n : Int), x = .str a ∧ y = .int n ∧ MulOk a n ∧ Q (.str (Txt.mul a n)) H
theorem op_rep_str {X : Cx} : OpR X (binaryOp .Mult) rRepS := by
  intro pins s σ H x y v u Q I r1 r2 h
  obtain ⟨a, n, rfl, rfl, hm, q⟩ := h
  obtain ⟨t, rfl⟩ := r1
  obtain ⟨t', rfl⟩ := r2
  exact SB.mul hm fun t2 k => ⟨.str _, H, I.tok _, ⟨_, rfl⟩, q⟩
/-- a list of ints shown -/
theorem r_reprVI {K : PySem.W.Frag} {H : Hp} {a : Addr} {ns : List Int} {Q : VK} (h1 : SqL K H a (iv ns)) (hl : ns.length ≤ 5000) (hz : ∀ n ∈ ns, n.natAbs.log2 < 1920) (q : Q (.str (dI ns).shown) H) : rReprV K [.ref a] H Q := by
  refine rReprV_of (dp_iv h1) ?_ ?_ ?_ ?_ q
  · simp only [dI, PyData.showable]
    exact show_ints ns hz
  · simp only [dI, PyData.hasDict]
    exact nod_ints ns
  · simp only [dI, PyData.depth, dep_ints]
    decide
  · obtain ⟨e1, e2⟩ := shown_ints_len ns hz
    have e3 := listText_len_le (PyData.shownAll (ns.map .int))
    simp only [dI, PyData.shown]
    rw [sizeLine_eq]
    omega
theorem short_of {d : PyData} (h1 : d.leavesShort 2000 = true) (h2 : d.bulk ≤ 8000) : d.shown.length ≤ sizeLine := by
  have := PyData.shown_le_bulk 2000 (by decide) d h1
  have : (2000 + 2) * d.bulk ≤ (2000 + 2) * 8000 := Nat.mul_le_mul_left _ h2
  rw [sizeLine_eq]
  omega
/-- two texts -/
def dT2 (a b : List Nat) : PyData := .list [.str (SX.S a), .str (SX.S b)]
theorem short_str {a : List Nat} (h : ∀ c ∈ a, c < 16 ^ 8) : (PyData.str (SX.S a)).leavesShort 2000 = true := by
  simp only [PyData.leavesShort, List.all_eq_true, decide_eq_true_eq]
  exact h
theorem r_reprT2 {K : PySem.W.Frag} {H : Hp} {p : Addr} {a b : List Nat} {Q : VK} (h1 : H p = some (.lst [.str (SX.S a), .str (SX.S b)])) (ha : ∀ c ∈ a, c < 16 ^ 8) (hb : ∀ c ∈ b, c < 16 ^ 8) (la : a.length ≤ 3000) (lb : b.length ≤ 3000) (q : Q (.str (dT2 a b).shown) H) : rReprV K [.ref p] H Q := by
  refine rReprV_of (.lst (seqL_of h1) (.cons (.str _) (.cons (.str _) .nil))) ?_ ?_ ?_ ?_ q
  · simp [PyData.showable, PyData.showableAll]
  · simp [PyData.hasDict, PyData.hasDictAll]
  · simp [PyData.depth, PyData.depthAll]
  · refine short_of ?_ ?_
    · simp only [PyData.leavesShort, PyData.leavesShortAll, Bool.and_true, Bool.and_eq_true]
      exact ⟨by simpa [PyData.leavesShort] using short_str ha, by simpa [PyData.leavesShort] using short_str hb⟩
    · simp only [PyData.bulk, PyData.bulkAll]
      have e1 : a.toArray.size = a.length := SX.S_len a
      have e2 : b.toArray.size = b.length := SX.S_len b
      omega
end Sq


set_option Elab.async false
set_option maxRecDepth 100000
set_option maxHeartbeats 4000000
namespace Sq
open PySem PySem.Spec L2
/-! ### values that are shown by repr, their size bounded -/
structure DOk (k b : Nat) (d : PyData) : Prop where
  sh : d.showable = true
  nd : d.hasDict = false
  dp : d.depth ≤ k
  ls : d.leavesShort 2000 = true
  bk : d.bulk ≤ b
theorem DOk.mono {k b k' b' : Nat} {d : PyData} (h : DOk k b d) (hk : k ≤ k') (hb : b ≤ b') : DOk k' b' d := ⟨h.sh, h.nd, Nat.le_trans h.dp hk, h.ls, Nat.le_trans h.bk hb⟩
theorem dok_non : DOk 0 0 .none := ⟨by simp [PyData.showable], by simp [PyData.hasDict], by simp [PyData.depth], by simp [PyData.leavesShort], by simp [PyData.bulk]⟩
theorem dok_bl (b : Bool) : DOk 0 0 (.bool b) := ⟨by simp [PyData.showable], by simp [PyData.hasDict], by simp [PyData.depth], by simp [PyData.leavesShort], by simp [PyData.bulk]⟩
theorem dok_int {i : Int} (h : i.natAbs.log2 < 1920) : DOk 0 0 (.int i) := ⟨by simpa [PyData.showable] using h, by simp [PyData.hasDict], by simp [PyData.depth], by
  have e := int_text_length_le (k := 1920) (by decide) h
  have z : (PyData.shown (.int i)).length ≤ 2000 := by
    show (Str.ofString (toString i)).length ≤ 2000
    rw [PySem.ofString_length]
    omega
  simpa [PyData.leavesShort] using z, by simp [PyData.bulk]⟩
theorem dok_str {x : Str} {b : Nat} (h1 : (PyData.str x).leavesShort 2000 = true) (h2 : x.cps.size ≤ b) : DOk 0 b (.str x) := ⟨by simp [PyData.showable], by simp [PyData.hasDict], by simp [PyData.depth], h1, by simpa [PyData.bulk] using h2⟩
theorem dok_strS {a : List Nat} {b : Nat} (h : ∀ c ∈ a, c < 16 ^ 8) (l : a.length ≤ b) : DOk 0 b (.str (SX.S a)) := dok_str (short_str h) (by simpa [SX.S] using l)
theorem dok_all {k b : Nat} : ∀ {ds : List PyData}, (∀ d ∈ ds, DOk k b d) → PyData.showableAll ds = true ∧ PyData.hasDictAll ds = false ∧ PyData.depthAll ds ≤ k ∧ PyData.leavesShortAll 2000 ds = true ∧ PyData.bulkAll ds ≤ ds.length * (b + 1)
  | [], _ => by simp [PyData.showableAll, PyData.hasDictAll, PyData.depthAll, PyData.leavesShortAll, PyData.bulkAll]
  | d :: r, h => by
    obtain ⟨a1, a2, a3, a4, a5⟩ := dok_all (ds := r) fun x hx => h x (List.mem_cons_of_mem _ hx)
    obtain ⟨b1, b2, b3, b4, b5⟩ := h d (List.mem_cons_self ..)
    refine ⟨by simp [PyData.showableAll, a1, b1], by simp [PyData.hasDictAll, a2, b2], ?_, by simp [PyData.leavesShortAll, a4, b4], ?_⟩
    · simp only [PyData.depthAll]
      omega
    · simp only [PyData.bulkAll, List.length_cons, Nat.add_mul]
      omega
theorem dok_list {k b m : Nat} {ds : List PyData} (h : ∀ d ∈ ds, DOk k b d) (hm : ds.length * (b + 1) ≤ m) : DOk (k + 1) m (.list ds) := by
  obtain ⟨a1, a2, a3, a4, a5⟩ := dok_all h
  exact ⟨by simpa [PyData.showable] using a1, by simpa [PyData.hasDict] using a2, by simpa [PyData.depth] using a3, by simpa [PyData.leavesShort] using a4, Nat.le_trans (by simpa [PyData.bulk] using a5) hm⟩
theorem dok_tup {k b m : Nat} {ds : List PyData} (h : ∀ d ∈ ds, DOk k b d) (hm : ds.length * (b + 1) ≤ m) : DOk (k + 1) m (.tuple ds) := by
  obtain ⟨a1, a2, a3, a4, a5⟩ := dok_all h
  exact ⟨by simpa [PyData.showable] using a1, by simpa [PyData.hasDict] using a2, by simpa [PyData.depth] using a3, by simpa [PyData.leavesShort] using a4, Nat.le_trans (by simpa [PyData.bulk] using a5) hm⟩
theorem dok_dI {ns : List Int} {m : Nat} (h : ∀ n ∈ ns, n.natAbs.log2 < 1920) (hm : ns.length ≤ m) : DOk 1 m (dI ns) := by
  refine dok_list (k := 0) (b := 0) (fun d hd => ?_) (by simpa using hm)
  obtain ⟨n, hn, rfl⟩ := List.mem_map.mp hd
  exact dok_int (h n hn)
theorem rRepr_ok {K : PySem.W.Frag} {H : Hp} {x : V} {d : PyData} {k b : Nat} {Q : VK} (h : DOk k b d) (hd : Dp K H x d) (hk : k ≤ 30) (hb : b ≤ 8000) (q : Q (.str d.shown) H) : rReprV K [x] H Q :=
  rReprV_of hd h.sh h.nd (Nat.le_trans h.dp hk) (short_of h.ls (Nat.le_trans h.bk hb)) q
theorem dpall_app {K : PySem.W.Frag} {H : Hp} {x : V} {d : PyData} : ∀ {xs : List V} {ds : List PyData}, DpAll K H xs ds → Dp K H x d → DpAll K H (xs ++ [x]) (ds ++ [d])
  | [], _, h, hx => by
    cases h
    exact .cons hx .nil
  | _ :: _, _, h, hx => by
    cases h with
    | cons a b => exact .cons a (dpall_app b hx)
theorem dpall_rep {K : PySem.W.Frag} {H : Hp} {x : V} {d : PyData} (hx : Dp K H x d) : ∀ n : Nat, DpAll K H (List.replicate n x) (List.replicate n d)
  | 0 => .nil
  | n + 1 => .cons hx (dpall_rep hx n)
theorem dpall_cat {K : PySem.W.Frag} {H : Hp} : ∀ {xs ys : List V} {ds es : List PyData}, DpAll K H xs ds → DpAll K H ys es → DpAll K H (xs ++ ys) (ds ++ es)
  | [], _, _, _, h, g => by
    cases h
    exact g
  | _ :: _, _, _, _, h, g => by
    cases h with
    | cons a b => exact .cons a (dpall_cat b g)
theorem kit_list {K : PySem.W.Frag} : PySem.W.kitOne K (.type "list") (.type "str") = some false := rfl
theorem kit_tup {K : PySem.W.Frag} : PySem.W.kitOne K (.type "tuple") (.type "str") = some false := rfl
theorem kit_int {K : PySem.W.Frag} : PySem.W.kitOne K (.type "int") (.type "str") = some false := rfl
theorem kit_bl {K : PySem.W.Frag} : PySem.W.kitOne K (.type "bool") (.type "str") = some false := rfl
theorem kit_non {K : PySem.W.Frag} : PySem.W.kitOne K (.type "NoneType") (.type "str") = some false := rfl
end Sq


set_option Elab.async false
set_option maxRecDepth 100000
set_option maxHeartbeats 4000000
namespace Sq
open PySem PySem.Spec PyProof.Rows L2
/-! ## isinstance of a kept exception, with a tuple of classes -/
def rIsXT (K : PySem.W.Frag) : List V → Hp → VK → Prop := fun xs H Q => ∃ (a C : Addr) (fs : List (Str × V)) (tp : Addr) (cs : List V) (ws : List Value) (b : Bool), xs = [.ref a, .ref tp] ∧ Kept H a C fs ∧ ExcC K C ∧ H tp = some (.tup cs) ∧ Paired ClsV cs ws ∧ PySem.W.kitAny K (.ref C) ws = some b ∧ Q (.bl b) H
theorem call_isXT {X : Cx} {K : PySem.W.Frag} (h : X.K = K := by rfl) : CallR X (.builtin "isinstance") (rIsXT K) := by
  subst h
  intro pins s σ H xs us Q I r h
  obtain ⟨a, C, fs, tp, cs, ws, b, rfl, k, EC, hT, hc, e, q⟩ := h
  obtain ⟨oe, od, d, mA, J, _⟩ := kept_at I k
  obtain ⟨u0, u1, rfl, r0, r1⟩ := vals2 r
  obtain rfl : u0 = Value.ref a := r0
  obtain rfl : u1 = Value.ref tp := r1
  obtain ⟨_, its, rv, o, h1, h2, n, h3⟩ := (show ObjOk X.prog X.w H s.heap tp (.tup cs) from I.hok tp _ hT)
  have e3 := ClsV.all hc rv
  subst e3
  obtain ⟨oc, od2, dt, sl⟩ := o
  simp only at h2 h3
  subst h2 h3
  obtain ⟨cd, hcd, _⟩ := PySem.W.any_some EC.hd
  exact PySem.W.kia_tup (PySem.W.kitx_exc (by rw [hcd]; rfl) EC.hg EC.hk EC.hs EC.ha EC.hn EC.ht EC.hm) I.kIn J h1 e (fun z => nomatch z) fun tk => ⟨.bl b, H, I.kept (t' := tk) fun _ _ z => z, rfl, q⟩
/-! ## a def that may raise, called by place and by keywords -/
structure Def2X (P : Program) (w : World) (K : PySem.W.Frag) (mg : Str → Option Value) (base : Heap) (k : Nat) (x : Str) (st : Stmt) (ps : List Str) (sp : Sp) : Prop where
  ex : ∃ (f : Addr) (fd : FuncData), Fun K x x st f fd ∧ mg x = some (.ref f) ∧ Binds K fd ps [] ∧ FnOk P w K mg base (L2.CX P w) k f fd ps sp
section
variable {P : Program} {w : World} {K : PySem.W.Frag} {mg : Str → Option Value} {base : Heap} {x : Str} {st : Stmt} {ps N : List Str} {k : Nat} {sp sp' : Sp}
theorem DefAt.twoX (D : DefAt K mg x st ps) (S : FnScope N ps (defScope st)) (len : ∀ vs H Q E, sp vs H Q E → vs.length = ps.length)
    (hb : ∀ (f : Addr) (cdv : Value) (A : Around) (outer : List Env) (s : Shared) (H : Hp) (vs : List V) (Q : VK) (E : XK), Room k (A.deeper (envOfC x (defScope st) s.heap.objs.size f cdv)) → sp vs H Q E →
      (Takes (cxOf (L2.CX P w) P w K mg base N x (defScope st) f cdv A outer s H E) fun cls d _ G => E cls d G) →
      ∃ t, PSs (cxOf (L2.CX P w) P w K mg base N x (defScope st) f cdv A outer s H E) (defBody st) t ∧ t { nx := fun _ H' => Q .non H', rt := Q } (start N vs) H) : Def2X P w K mg base (k + 1) x st ps sp := by
  obtain ⟨f, fd, F, hm, b⟩ := D.ex
  exact ⟨f, fd, F, hm, b, F.okX S len fun cdv A outer s H vs Q E hr hsp => hb f cdv A outer s H vs Q E hr hsp (takes_of rfl rfl rfl rfl)⟩
theorem Def2X.calX (D : Def2X P w K mg base k x st ps sp) : CalX P w K mg base k x sp := by
  obtain ⟨f, fd, F, hm, b, ok⟩ := D.ex
  exact ⟨f, fd, ps, ok, hm, F.kp, b⟩
theorem Def2X.calm (D : Def2X P w K mg base k x st ps sp) (h : ∀ vs H Q E, sp' vs H Q E → sp vs H Q E0) : Def2 P w K mg base k x st ps sp' := by
  obtain ⟨f, fd, F, hm, b, ok⟩ := D.ex
  exact ⟨f, fd, F, hm, b, fn_calm ok h⟩
end
end Sq


set_option Elab.async false
set_option maxRecDepth 100000
set_option maxHeartbeats 4000000
namespace Sq
open PySem PySem.Spec PyProof.Rows L2
/-! ## a def called by keywords alone that may raise -/
structure CalKX (P : Program) (w : World) (K : PySem.W.Frag) (mg : Str → Option Value) (base : Heap) (k : Nat) (x : Str) (ks : List Str) (sp : Sp) : Prop where
  ex : ∃ (f : Addr) (fd : FuncData) (ps : List Str) (spf : Sp) (g : List Value → List Value → List Value) (gV : List V → List V → List V),
    FnOk P w K mg base (L2.CX P w) k f fd ps spf ∧ mg x = some (.ref f) ∧ PySem.W.keepIn K (.ref f) = true ∧ KBn K fd ps 0 ks g gV ∧ ∀ zs H Q E, sp zs H Q E → zs.length = ks.length ∧ spf (gV [] zs) H Q E
def tCkX (sp : Sp) (E : L2.St → XK) (tk : TA) : TE := fun σ H Q => tk σ H fun zs H1 => sp zs H1 Q (E σ)
section
variable {X : Cx} {W : WX} {k j : Nat} {x : Str} {ks : List Str} {sp : Sp} {p pos : Pos} {kws : List Keyword} {t : TA}
theorem pe_ckx (c : CalKX X.prog X.w X.K X.mg X.base k x ks sp) (hr : Room j X.A) (hk : k ≤ j) (tk : Takes X W) (hg : Gl X x) (hkw : PK X kws t)
    (hall : (backToKw pos (keywordEach kws X.env)).all (·.1.isSome) = true := by rfl) (hks : (backToKw pos (keywordEach kws X.env)).filterMap (·.1) = ks := by rfl) (hdb : (x == ("__debug__" : Str)) = false := by decide)
    (hpl : ((backTo pos (starEach [] X.env)).any (·.1) || (backToKw pos (keywordEach kws X.env)).any (·.1.isNone)) = false := by rfl) : PE X (.Call (.Name x p) [] kws pos) (tCkX sp (WE W) t) := by
  obtain ⟨f, fd, ps, spf, g, gV, F, hm, kp, hb, hs⟩ := c.ex
  refine ⟨fun pins s σ H Q I h => wpAny_Call_Name_kw (ld_glob I hg hm ?_ hdb)⟩
  refine PySem.W.callWith_KW0 (first := []) (h₀ := X.base) I.ok.mod.kin kp hall (thn (hkw.run pos pins s σ H _ I h) fun ws s1 hx => ?_) hpl
  obtain ⟨zs, H1, I1, rz, q⟩ := hx
  obtain ⟨lz, q3⟩ := hs _ _ _ _ q
  refine ⟨I1.kIn, ?_⟩
  rw [hks]
  refine wpAny_call (codeAny_mono (F.run X.A X.stack s1 H1 ⟨[], ks.zip ws⟩ (g [] ws) (gV [] zs) Q (WE W σ) (hr.mono hk) I1.env0 (hb.to s1 [] ws I1.kIn rfl (rz.length.symm.trans lz)) (hb.rel .nil rz) q3) fun r s3 hq => ?_)
  cases r with
  | error er => exact passAt tk σ pins H1 s1 er s3 I1 hq
  | ok fl =>
    cases fl with
    | ret u => exact I1.after hq
    | next => exact False.elim hq
    | brk => exact False.elim hq
    | cont => exact False.elim hq
end
section
variable {P : Program} {w : World} {K : PySem.W.Frag} {mg : Str → Option Value} {base : Heap} {x : Str} {st : Stmt} {ps ks : List Str} {k : Nat} {sp sp' : Sp}
theorem Def2X.calKX (D : Def2X P w K mg base k x st ps sp) (g : {α : Type} → List α → List α) (hg : ∀ {vs : List V} {us : List Value}, Vals vs us → Vals (g vs) (g us))
    (h : ∀ (kV doc pm : Value) (an : Option Addr) (cdv ct : Value) (ws : List Value), ws.length = ks.length →
      bindArgs (PySem.W.fnOf x x (defArgs st) (defBody st) (defScope st) .none kV doc pm an cdv ct) ⟨[], ks.zip ws⟩ = pure (ps.zip (g ws))) (hs : ∀ zs H Q E, sp' zs H Q E → zs.length = ks.length ∧ sp (g zs) H Q E) : CalKX P w K mg base k x ks sp' := by
  obtain ⟨f, fd, F, hm, b, ok⟩ := D.ex
  exact ⟨f, fd, ps, sp, _, _, ok, hm, F.kp, kbn_plain F g hg h, hs⟩
end
end Sq

/-! ## own tactic words (local) -/
local macro_rules | `(tactic| walk_at "sq hp") => `(tactic| first
  | assumption
  | exact L2.upd_same
  | (refine Sq.Sep.get (by assumption) ?_; walk_at "sq hp")
  | (refine Sq.upd_keep (by assumption) ?_; walk_at "sq hp")
  | (refine Sq.Same.get (by assumption) ?_; walk_at "sq hp")
  | (refine Sq.upd_off (by assumption) ?_; walk_at "sq hp")
  | (refine Sq.upd_off (Ne.symm (by assumption)) ?_; walk_at "sq hp"))
local macro_rules | `(tactic| walk_at "sq sql") => `(tactic| first
  | assumption
  | exact Sq.seqL_of (by walk_at "sq hp")
  | exact L2.Same.seq (by assumption) (by assumption)
  | exact L2.Same.seq (Sq.Sep.same (by assumption)) (by assumption))
local macro_rules | `(tactic| walk_at "sq len") => `(tactic| (
  (try simp only [List.length_map, List.length_append, List.length_cons, List.length_nil, List.length_take, List.length_drop, List.length_reverse]); (try rw [PySem.sizeLine_eq]); omega))
local macro_rules | `(tactic| walk_at "sq side") => `(tactic| first
  | exact rfl
  | exact Nat.zero_le _
  | exact Sq.lit_len (Nat.le_of_ble_eq_true rfl)
  | ((with_reducible show L2.SqL _ _ _ _); walk_at "sq sql")
  | ((with_reducible show L2.SqT _ _ _ _); exact L2.SqT.of (by walk_at "sq hp"))
  | (apply Exists.intro; walk_at "sq sql")
  | ((with_reducible show _ = some _); walk_at "sq hp")
  | ((with_reducible show Sq.Sep _ _ _); assumption)
  | ((with_reducible show L2.ClsV _ _); first | exact .ty _ | exact .own _)
  | ((with_reducible show L2.TyX _ _ _ _); first | exact .base .non | exact .base (.bl _) | exact .base (.int _) | exact .base (.str _) | exact Sq.tyx_lst (by walk_at "sq sql") | exact Sq.tyx_tup (by exact L2.SqT.of (by walk_at "sq hp")) | assumption)
  | ((with_reducible show Sq.CPowW _ _); first | assumption | exact ⟨by decide, by decide, by decide⟩)
  | ((with_reducible show L2.CMulW _ _); first | assumption | exact (by decide +kernel))
  | ((with_reducible show L2.CDivW _ _); first | assumption | exact ⟨by decide, by decide⟩)
  | ((with_reducible show L2.tyV _ "list" _ _); exact Or.inl ⟨rfl, _, by walk_at "sq sql"⟩)
  | ((with_reducible show _ < PySem.sizeLine); walk_at "sq len")
  | ((with_reducible show _ ≤ PySem.sizeLine); walk_at "sq len")
  | ((with_reducible show (0 : Int) < _); first | assumption | decide | omega)
  | decide
  | omega)
local macro_rules | `(tactic| walk_at "sq go") => `(tactic| repeat (first
  | exact rfl
  | (fail_if_success (show ∃ W : Nat → Nat → L2.St → L2.Hp → Prop, _)
     fail_if_success (show ∃ W : Nat → Nat → L2.Hp → Prop, _)
     fail_if_success (show ∃ W : Nat → L2.St → L2.Hp → Prop, _)
     fail_if_success (show ∃ W : Nat → Nat → List L2.V → L2.St → L2.Hp → Prop, _)
     apply Exists.intro)
  | (apply And.intro; focus walk_at "sq side")
  | refine L2.iteT ?_
  | refine L2.iteF ?_))
namespace Sq
open PySem PySem.Spec PyProof.Rows L2
def topS (i : Nat) : Stmt := PySem.Challenge.pw_squeezelists_k03_whole_texts_squeezed.main.body.getD i (.Pass ⟨0, 0, 0, 0⟩)
structure Bt (mg : Str → Option Value) : Prop where
  «ValueError» : mg "ValueError" = none
  «abs» : mg "abs" = none
  «all» : mg "all" = none
  «enumerate» : mg "enumerate" = none
  «int» : mg "int" = none
  «isinstance» : mg "isinstance" = none
  «len» : mg "len" = none
  «max» : mg "max" = none
  «min» : mg "min" = none
  «range» : mg "range" = none
  «repr» : mg "repr" = none
  «str» : mg "str" = none
section
variable {P : Program} {w : World} {K : PySem.W.Frag} {mg : Str → Option Value} {base : Heap}

/-! ### the source of draws: a list of three ints -/
abbrev s_law_draw : Stmt := topS 30
theorem sc_law_draw : FnScope ["rng", "limit", "found", "mixed"] ["rng", "limit"] (defScope s_law_draw) := ⟨rfl, rfl, rfl, by decide +kernel, rfl, by decide +kernel, by decide +kernel⟩

/-- as spDraw3, of a wider range -/
def spDrawW : Sp := fun vs H Q _ => ∃ (r : Addr) (m N : Int) (G : Hp), vs = [.ref r, .int m] ∧ Sep (rg3 r N) G H ∧ Keep (0 < m ∧ m < 2 ^ 1000 ∧ N < 2 ^ 60) ∧ ∀ v H', 0 ≤ v → v < m → Sep (rg3 r (N + 1)) G H' → Q (.int v) H'
theorem drawW3 {k : Nat} (c : Cal P w K mg base k "_law_draw" spDrawW []) : Cal P w K mg base k "_law_draw" spDraw3 [] := c.imp (Nat.le_refl _) fun vs H Q E h => by
  obtain ⟨r, m, N, G, e, hS, ⟨hm, hmb, hN⟩, q⟩ := h
  exact ⟨r, m, N, G, e, hS, ⟨hm, Int.lt_trans hmb (by decide), hN⟩, q⟩
theorem cal_drawW (D : DefAt K mg "_law_draw" s_law_draw ["rng", "limit"]) (B : Bt mg) : Cal P w K mg base 1 "_law_draw" spDrawW [] := by
  refine D.cal sc_law_draw (fun vs H Q E h => ?_) (fun f cdv A outer s H vs Q E hr h => ?_)
  · obtain ⟨r, m, N, G, rfl, _⟩ := h
    rfl
  · obtain ⟨r, m, N, G, rfl, hS, ⟨hm, hmb, hN⟩, q⟩ := h
    obtain ⟨a, b, c, gr, a0, b0, b1, c0, c1⟩ := id hS.inv
    have cm : CDivW a m := ⟨hm, Nat.lt_trans ((show Sm 1000 m by unfold Sm; omega).lg (by decide)) (by decide)⟩
    refine ⟨_, (pss_cons (ps_if (pt_cmpR op_gt (pe_ix (ix_listK (K := K)) (pv 0) pe_int (fun _ _ => rfl)) pe_int (nomark _)) (pss_cons (ps_set (i := 2) sc_law_draw.nd rfl (Or.inl rfl) (pe_op op_mod (pe_ix (ix_listK (K := K)) (pv 0) pe_int (fun _ _ => rfl)) (pv 1)))
  (pss_cons (ps_asg (pe_op op_fdivW (pe_ix (ix_listK (K := K)) (pv 0) pe_int (fun _ _ => rfl)) (pv 1)) (pg_sub (pv 0) pe_int set_list))
  (pss_one (ps_ret (pv 2))))) pss_nil)
  (pss_cons (ps_asg (pe_op op_add (pe_ix (ix_listK (K := K)) (pv 0) pe_int (fun _ _ => rfl)) pe_int) (pg_sub (pv 0) pe_int set_list))
  (pss_cons (ps_set (i := 3) sc_law_draw.nd rfl (Or.inl rfl) (pe_op op_mod (pe_op op_powW (pe_op op_add (pe_ix (ix_listK (K := K)) (pv 0) pe_int (fun _ _ => rfl)) (pe_op op_mulW pe_int (pe_ix (ix_listK (K := K)) (pv 0) pe_int (fun _ _ => rfl)))) pe_int) pe_int))
  (pss_cons (ps_set (i := 3) sc_law_draw.nd rfl (Or.inl rfl) (pe_op op_mod (pe_op op_powW (pe_op op_add (pv 3) (pe_op op_mulW pe_int (pe_ix (ix_listK (K := K)) (pv 0) pe_int (fun _ _ => rfl)))) pe_int) pe_int))
  (pss_one (ps_ret (pe_op op_mod (pe_op op_fdivW (pv 3) pe_int) (pv 1)))))))), ?_⟩
    have k1 : Sm 62 (c + 1) := by unfold Sm; omega
    have k2 : Sm 30 (998244353) := by unfold Sm; decide
    have k3 : Sm 25 (32452843) := by unfold Sm; decide
    have w1 : CMulW (998244353) (c + 1) := k2.wide k1 (by decide) (by decide) (by decide)
    have w2 : CMulW (32452843) (c + 1) := k3.wide k1 (by decide) (by decide) (by decide)
    have s1 : Sm 101 (b + 998244353 * (c + 1)) := (show Sm 100 b by unfold Sm; omega).add ((k2.mul k1).mono (by decide))
    have p1 : CPowW (b + 998244353 * (c + 1)) 3 := pow_ok s1 (by decide) (by decide) (by decide) (by decide)
    have p2 : ∀ y : Int, CPowW (y % 162259276829213363391578010288127 + 32452843 * (c + 1)) 3 := fun y => by
      have y0 := Int.emod_nonneg y (show (162259276829213363391578010288127 : Int) ≠ 0 by decide)
      have y1 := Int.emod_lt_of_pos y (show (0 : Int) < 162259276829213363391578010288127 by decide)
      exact pow_ok ((show Sm 107 (y % 162259276829213363391578010288127) by unfold Sm; omega).add ((k3.mul k1).mono (by decide))) (by decide) (by decide) (by decide) (by decide)
    have p3 := p2 ((b + 998244353 * (c + 1)) ^ (3 : Int).toNat)
    have v0 : ∀ y : Int, 0 ≤ y % m := fun y => Int.emod_nonneg y (show m ≠ 0 by omega)
    have v1 : ∀ y : Int, y % m < m := fun y => Int.emod_lt_of_pos y hm
    walk_at "sq go"
    refine ifD (fun h => ?_) (fun h => ?_)
    · walk_at "sq go"
      exact q _ _ (v0 _) (v1 _) (Sep3.redo hS ⟨a / m, b, c, upd_same, Int.ediv_nonneg a0 (by omega), b0, b1, c0, by omega⟩)
    · walk_at "sq go"
      exact q _ _ (v0 _) (v1 _) (Sep3.redo hS ⟨a, b, c + 1, upd_same, a0, b0, b1, by omega, by omega⟩)

abbrev s_law_rng : Stmt := topS 29
theorem sc_law_rng : FnScope ["script", "digits", "seed", "cell", "far"] ["script"] (defScope s_law_rng) := ⟨rfl, rfl, rfl, by decide +kernel, rfl, by decide +kernel, by decide +kernel⟩

def spRng (K : PySem.W.Frag) : Sp := fun vs H Q _ => ∃ (p : Addr) (ns : List Int), vs = [.ref p] ∧ SqL K H p (iv ns) ∧ Keep True ∧ ∀ r H', Same H H' → Sep (rg3 r 0) H H' → Q (.ref r) H'
theorem cal_rng (D : DefAt K mg "_law_rng" s_law_rng ["script"]) (B : Bt mg) : Cal P w K mg base 1 "_law_rng" (spRng K) [] := by
  refine D.cal sc_law_rng (fun vs H Q E h => ?_) (fun f cdv A outer s H vs Q E hr h => ?_)
  · obtain ⟨p, ns, rfl, _⟩ := h
    rfl
  · obtain ⟨p, ns, rfl, hS, _, q⟩ := h
    refine ⟨_, (pss_cons (ps_asg (pe_tup (pa_cons pe_int (pa_cons pe_int pa_nil))) (pg_tupK (K := K) (n := 2) rfl (pgs_cons (pg_name (i := 1) sc_law_rng.nd rfl (Or.inl rfl)) (pgs_cons (pg_name (i := 2) sc_law_rng.nd rfl (Or.inl rfl)) pgs_nil))))
  (pss_cons (ps_for PassesOwn.never rfl (pi_listK (K := K) (pe_slice (sl_listK (K := K)) (pv 0) po_none (po_some pe_int))) (pg_name (i := 3) sc_law_rng.nd rfl (Or.inl rfl))
   (pss_cons (ps_set (i := 4) sc_law_rng.nd rfl (Or.inl rfl) (pe_callB call_abs (by rfl) B.abs (by decide +kernel) (pa_cons (pv 3) pa_nil)))
  (pss_cons (ps_if (pt_cmpR op_ge (pv 4) (pe_op op_powW pe_int pe_int) (nomark _)) (pss_one (ps_set (i := 1) sc_law_rng.nd rfl (Or.inl rfl) (pe_op op_add (pe_op op_mulW (pv 1) (pe_op op_powW pe_int pe_int)) (pe_op op_mod (pv 4) (pe_op op_powW pe_int pe_int))))) pss_nil)
  (pss_one (ps_set (i := 2) sc_law_rng.nd rfl (Or.inl rfl) (pe_op op_mod (pe_op op_add (pe_op op_add (pe_op op_mulW (pv 2) pe_int) (pe_op op_mod (pv 3) pe_int)) pe_int) pe_int))))))
  (pss_one (ps_ret (pe_lst (pa_cons (pv 1) (pa_cons (pv 2) (pa_cons pe_int pa_nil)))))))), ?_⟩
    walk_at "sq go"
    intro T nT
    have sT := same_new (o := .tup [.int 0, .int 88675123]) nT
    have hST := sT.seq hS
    generalize hHT : upd H T (.tup [.int 0, .int 88675123]) = HT at sT hST
    have hTT : HT T = some (.tup [.int 0, .int 88675123]) := by rw [← hHT, upd_same]
    clear hHT
    walk_at "sq go"
    intro l nl
    have e63 : cutV (iv ns) none (some 63) = iv (ns.take 63) := by
      rw [show (63 : Int) = ((63 : Nat) : Int) from rfl, cut_to, iv_take]
    rw [e63]
    have len : (ns.take 63).length ≤ 63 := by
      rw [List.length_take]
      omega
    generalize ns.take 63 = ms at len ⊢
    have sl := same_new (o := .lst (iv ms)) nl
    have hl4 : SqL K (upd HT l (.lst (iv ms))) l (iv ms) := seqL_of upd_same
    walk_at "sq go"
    refine for_list (K := K) (a := l) (xs := iv ms) (fun i σ H' => Keep (∃ d s x y, σ = [some (.ref p), some (.int d), some (.int s), x, y] ∧ H' = upd HT l (.lst (iv ms)) ∧ 0 ≤ d ∧ Sm (201 * i + 10) d ∧ 0 ≤ s ∧ s < 2 ^ 61)) ⟨0, 88675123, none, none, rfl, rfl, by decide, by unfold Sm; decide, by decide, by decide⟩ (fun i σ H' _ h => ?_) (fun i x σ H' hx h => ?_) (fun σ H' h => ?_)
    · obtain ⟨_, _, _, _, _, rfl, _⟩ := h.o
      exact hl4
    · obtain ⟨d, sd, x1, y1, rfl, rfl, d0, dS, s0, s1⟩ := h.o
      have lt := (List.getElem?_eq_some_iff.mp hx).1
      rw [iv_len] at lt
      obtain ⟨c, hk, rfl⟩ := iv_get hx
      have t60 : Sm 200 ((10 : Int) ^ (60 : Int).toNat) := by unfold Sm; decide
      have wm : CMulW d (10 ^ (60 : Int).toNat) := dS.wide t60 (by omega) (by decide) (by omega)
      have wd : ∀ z : Int, CDivW z (10 ^ (60 : Int).toNat) := fun z => div_ok (by decide) (by decide)
      walk_at "sq go"
      have ws : CMulW sd 1000003 := Sm.wide (a := 61) (b := 20) (by unfold Sm; omega) (by unfold Sm; decide) (by decide) (by decide) (by decide)
      have y0 := fun y : Int => Int.emod_nonneg y (show (2305843009213693951 : Int) ≠ 0 by decide)
      have y1 := fun y : Int => Int.emod_lt_of_pos y (show (0 : Int) < 2305843009213693951 by decide)
      have z0 := fun y : Int => Int.emod_nonneg y (show ((10 : Int) ^ (60 : Int).toNat) ≠ 0 by decide)
      have z1 := fun y : Int => Int.emod_lt_of_pos y (show (0 : Int) < (10 : Int) ^ (60 : Int).toNat by decide)
      have zS : ∀ y : Int, Sm 200 (y % (10 : Int) ^ (60 : Int).toNat) := fun y => Sm.le t60 (z0 y) (Int.le_of_lt (z1 y))
      refine ifD (fun cb => ?_) (fun cb => ?_)
      · walk_at "sq go"
        refine ⟨_, _, _, _, rfl, rfl, ?_, ?_, y0 _, Int.lt_of_lt_of_le (y1 _) (by decide)⟩
        · exact Int.add_nonneg (Int.mul_nonneg d0 (by decide)) (z0 _)
        · have a1 := (dS.mul t60).add ((zS (if c < 0 then -c else c)).mono (show 200 ≤ 201 * i + 10 + 200 by omega))
          refine Sm.mono ?_ (show 201 * i + 10 + 200 + 1 ≤ 201 * (i + 1) + 10 by omega)
          trace_state
          exact a1
      · walk_at "sq go"
        exact ⟨_, _, _, _, rfl, rfl, d0, dS.mono (by omega), y0 _, Int.lt_of_lt_of_le (y1 _) (by decide)⟩
    · obtain ⟨d, sd, x1, y1, rfl, rfl, d0, dS, s0, s1⟩ := h.o
      walk_at "sq go"
      intro r nr
      have s2 := sT.trans sl
      have nr2 := s2.free nr
      exact q r _ (s2.trans (same_new nr)) ⟨⟨_, _, _, upd_same, d0, s0, by omega, by decide, by decide⟩, s2.trans (same_new nr), fun x hx => by rw [show x = r from hx]; exact nr2⟩

abbrev s_law_list : Stmt := topS 31
theorem sc_law_list : FnScope ["rng", "most", "greatest", "found", "kind", "turn", "some"] ["rng", "most", "greatest"] (defScope s_law_list) := ⟨rfl, rfl, rfl, by decide +kernel, rfl, by decide +kernel, by decide +kernel⟩

/-- replacements from 2 to wide -/
def Row (ns : List Int) (wide : Int) : Prop := ∀ k ∈ ns, (2 : Int) ≤ k ∧ k ≤ wide
theorem Row.two {ns : List Int} {w : Int} (h : Row ns w) : Two ns := fun k hk => (h k hk).1
theorem Row.mid {ns : List Int} {w : Int} (h : Row ns w) (hw : w < 2 ^ 240) : Mid ns := fun k hk => ⟨(h k hk).1, Int.lt_of_le_of_lt (h k hk).2 hw⟩
theorem Row.cons {ns : List Int} {w v : Int} (h : Row ns w) (v2 : 2 ≤ v) (vw : v ≤ w) : Row (v :: ns) w := fun k hk => by
  rcases List.mem_cons.mp hk with rfl | z
  · exact ⟨v2, vw⟩
  · exact h k z
theorem pick2 {a b : V} {w : Int} (h0 : 0 ≤ w) (h1 : w < 2) : ∃ v, atI [a, b] w = some v ∧ (v = a ∨ v = b) := by
  rcases (show w = 0 ∨ w = 1 by omega) with z | z <;> rw [z]
  · exact ⟨a, atI_nat (j := 0) rfl, .inl rfl⟩
  · exact ⟨b, atI_nat (j := 1) rfl, .inr rfl⟩
theorem pick4 {a b c d : Int} {w : Int} {P : Int → Prop} (h0 : 0 ≤ w) (h1 : w < 4) (pa : P a) (pb : P b) (pc : P c) (pd : P d) : ∃ v, atI [V.int a, .int b, .int c, .int d] w = some (.int v) ∧ P v := by
  rcases (show w = 0 ∨ w = 1 ∨ w = 2 ∨ w = 3 by omega) with z | z | z | z <;> rw [z]
  · exact ⟨a, atI_nat (j := 0) rfl, pa⟩
  · exact ⟨b, atI_nat (j := 1) rfl, pb⟩
  · exact ⟨c, atI_nat (j := 2) rfl, pc⟩
  · exact ⟨d, atI_nat (j := 3) rfl, pd⟩
theorem same_upd {G G' : Hp} {p : Addr} {u : HO} (h : Same G G') : Same (upd G p u) (upd G' p u) := fun b x e => by
  by_cases hb : b = p
  · rw [hb, upd_same] at e ⊢
    exact e
  · rw [upd_ne hb] at e ⊢
    exact h b x e
def spList4 : Sp := fun vs H Q _ => ∃ (r : Addr) (most great N : Int) (G : Hp), vs = [.ref r, .int most, .int great] ∧ Sep (rg3 r N) G H ∧ Keep (0 ≤ most ∧ most ≤ 100 ∧ 2 ≤ great ∧ great < 2 ^ 100 ∧ N < 2 ^ 59) ∧
  ∀ p ns H', G p = none → ns.length ≤ most.toNat → Row ns (great + 5) → Sep (rg3 r (N + 10 * most + 10)) (upd G p (.lst (iv ns))) H' → Q (.ref p) H'
theorem cal_list4 (D : DefAt K mg "_law_list" s_law_list ["rng", "most", "greatest"]) (B : Bt mg) (c_law_draw : Cal P w K mg base 1 "_law_draw" spDraw3 []) : Cal P w K mg base 2 "_law_list" spList4 [] := by
  refine D.cal sc_law_list (fun vs H Q E h => ?_) (fun f cdv A outer s H vs Q E hr h => ?_)
  · obtain ⟨r, most, great, N, G, rfl, _⟩ := h
    rfl
  · obtain ⟨r, most, great, N, G, rfl, hS, ⟨m0, m1, f2, fb, hN⟩, q⟩ := h
    refine ⟨_, (pss_cons (ps_par (i := 3) (j := 4) rfl sc_law_list.nd rfl rfl (by decide) rfl rfl (pa_cons (pe_lst pa_nil) (pa_cons (pe_c c_law_draw hr (by first | decide | omega) (by rfl) (pa_cons (pv 0) (pa_cons pe_int pa_nil))) pa_nil)) (by rfl))
  (pss_cons (ps_for PassesOwn.never rfl (pi_range1 (by rfl) B.range (pa_cons (pe_c c_law_draw hr (by first | decide | omega) (by rfl) (pa_cons (pv 0) (pa_cons (pe_op op_add (pv 1) pe_int) pa_nil))) pa_nil)) (pg_name (i := 5) sc_law_list.nd rfl (Or.inl rfl))
   (pss_cons (ps_set (i := 6) sc_law_list.nd rfl (Or.inl rfl) (pe_lst (pa_cons (pe_op op_add pe_int (pe_c c_law_draw hr (by first | decide | omega) (by rfl) (pa_cons (pv 0) (pa_cons pe_int pa_nil)))) (pa_cons (pe_ix (ix_listK (K := K)) (pe_op op_cat (pv 3) (pe_lst (pa_cons pe_int pa_nil))) pe_int (fun _ _ => rfl)) (pa_cons (pe_callB (call_max2 rfl) (by rfl) B.max (by decide +kernel) (pa_cons pe_int (pa_cons (pe_op op_sub (pv 2) (pe_c c_law_draw hr (by first | decide | omega) (by rfl) (pa_cons (pv 0) (pa_cons pe_int pa_nil)))) pa_nil))) pa_nil)))))
  (pss_cons (ps_expr (pe_bm PySem.F.plainAttrs_list PySem.F.slot_list_append PySem.F.type_list_append mt_append (pv 6) (pa_cons (pe_op op_add pe_int (pe_c c_law_draw hr (by first | decide | omega) (by rfl) (pa_cons (pv 0) (pa_cons (pe_op op_sub (pv 2) pe_int) pa_nil)))) pa_nil)))
  (pss_one (ps_expr (pe_bm PySem.F.plainAttrs_list PySem.F.slot_list_insert PySem.F.type_list_insert mt_insert (pv 3) (pa_cons pe_int (pa_cons (pe_ix (ix_listK (K := K)) (pv 6) (pe_ix (ix_listK (K := K)) (pe_lst (pa_cons (pv 4) (pa_cons (pe_c c_law_draw hr (by first | decide | omega) (by rfl) (pa_cons (pv 0) (pa_cons pe_int pa_nil))) pa_nil))) (pe_c c_law_draw hr (by first | decide | omega) (by rfl) (pa_cons (pv 0) (pa_cons pe_int pa_nil))) (fun _ _ => rfl)) (fun _ _ => rfl)) pa_nil))))))))
  (pss_one (ps_ret (pv 3))))), ?_⟩
    walk_at "sq go"
    intro p np
    have gp := hS.free np
    have hS1 := hS.new np (.lst [])
    walk_at "sq go"
    refine ⟨⟨by omega, by omega, by omega⟩, fun kind H1 k0 k1 hS2 => ?_⟩
    walk_at "sq go"
    refine ⟨⟨by omega, by omega, by omega⟩, fun tn H2 t0 t1 hS3 => ?_⟩
    walk_at "sq go"
    refine for_range (lo := 0) (n := tn.toNat) (fun i σ H' => Keep (∃ ns x y, σ = [some (.ref r), some (.int most), some (.int great), some (.ref p), some (.int kind), x, y] ∧ Sep (rg3 r (N + 2 + 6 * i)) (upd G p (.lst (iv ns))) H' ∧ ns.length = i ∧ Row ns (great + 5)))
      ⟨[], none, none, rfl, Sep3.mono hS3 (by omega), rfl, fun k z => nomatch z⟩ (fun i σ H' hi h => ?_) (fun σ H' h => ?_)
    · obtain ⟨ns, x, y, rfl, hs, hl, hrow⟩ := h.o
      walk_at "sq go"
      refine ⟨⟨by decide, by decide, by omega⟩, fun a1 H3 a0 a4 hs1 => ?_⟩
      have hp1 := hs1.get upd_same
      walk_at "sq go"
      intro e1 ne1
      have hp2 := upd_keep (o := .lst [.int 2]) ne1 hp1
      have hs2 := hs1.on (same_new (o := .lst [.int 2]) ne1)
      obtain ⟨v0, ev0, v02, v0g⟩ : ∃ v, atI (iv ns ++ [.int 2]) 0 = some (.int v) ∧ 2 ≤ v ∧ v ≤ great + 5 := by
        cases ns with
        | nil => exact ⟨2, atI_nat (j := 0) rfl, by omega, by omega⟩
        | cons k r => exact ⟨k, atI_nat (j := 0) rfl, (hrow k (List.mem_cons_self ..)).1, (hrow k (List.mem_cons_self ..)).2⟩
      have lns : (iv ns).length = ns.length := iv_len _
      walk_at "sq go"
      intro e2 ne2
      have hs3 := hs2.on (same_new (o := .lst (iv ns ++ [.int 2])) ne2)
      have he2 : upd (upd H3 e1 (.lst [.int 2])) e2 (.lst (iv ns ++ [.int 2])) e2 = some (.lst (iv ns ++ [.int 2])) := upd_same
      walk_at "sq go"
      refine ⟨⟨by decide, by decide, by omega⟩, fun a2 H4 a20 a23 hs4 => ?_⟩
      walk_at "sq go"
      intro S nS
      have gS := hs4.free nS
      have npS : p ≠ S := fun z => by
        rw [← z, upd_same] at gS
        cases gS
      obtain ⟨v2, ev2, v22, v2g⟩ : ∃ v, (if great - a2 > 2 then great - a2 else 2) = v ∧ 2 ≤ v ∧ v ≤ great + 5 := ⟨_, rfl, by split <;> omega, by split <;> omega⟩
      rw [ev2]
      have hs5 := hs4.new nS (.lst [.int (2 + a1), .int v0, .int v2])
      have gSv : upd (upd G p (.lst (iv ns))) S (.lst [.int (2 + a1), .int v0, .int v2]) S = some (.lst [.int (2 + a1), .int v0, .int v2]) := upd_same
      have hSv := hs5.get gSv
      walk_at "sq go"
      refine ⟨⟨by omega, by omega, by omega⟩, fun a3 H5 a30 a3g hs6 => ?_⟩
      have hS6 := hs6.get gSv
      have hs7 := hs6.put gSv (.lst [.int (2 + a1), .int v0, .int v2, .int (2 + a3)])
      rw [upd_upd] at hs7
      have gS7 : upd (upd G p (.lst (iv ns))) S (.lst [.int (2 + a1), .int v0, .int v2, .int (2 + a3)]) S = some (.lst [.int (2 + a1), .int v0, .int v2, .int (2 + a3)]) := upd_same
      have hp7 := hs7.get (upd_off (o := .lst [.int (2 + a1), .int v0, .int v2, .int (2 + a3)]) npS upd_same)
      walk_at "sq go"
      refine ⟨⟨by decide, by decide, by omega⟩, fun a5 H6 a50 a54 hs8 => ?_⟩
      walk_at "sq go"
      intro e3 ne3
      have ge3 := hs8.free ne3
      have hs9 := hs8.new ne3 (.lst [.int kind, .int a5])
      walk_at "sq go"
      refine ⟨⟨by decide, by decide, by omega⟩, fun a6 H7 a60 a62 hs10 => ?_⟩
      have he3 : H7 e3 = some (.lst [.int kind, .int a5]) := hs10.get upd_same
      obtain ⟨ix, eix, ix0, ix4⟩ : ∃ v, atI [V.int kind, V.int a5] a6 = some (.int v) ∧ 0 ≤ v ∧ v < 4 := by
        obtain ⟨v, e, z⟩ := pick2 (a := V.int kind) (b := V.int a5) a60 a62
        rcases z with rfl | rfl
        · exact ⟨kind, e, k0, k1⟩
        · exact ⟨a5, e, a50, a54⟩
      have hs11 := hs10.weak (same_new (o := .lst [.int kind, .int a5]) ge3)
      have hS11 := hs11.get gS7
      have hp11 := hs11.get (upd_off (o := .lst [.int (2 + a1), .int v0, .int v2, .int (2 + a3)]) npS upd_same)
      obtain ⟨v, ev, v2', vg⟩ := pick4 (a := 2 + a1) (b := v0) (c := v2) (d := 2 + a3) (w := ix) (P := fun v => 2 ≤ v ∧ v ≤ great + 5) ix0 ix4 ⟨by omega, by omega⟩ ⟨v02, v0g⟩ ⟨v22, v2g⟩ ⟨by omega, by omega⟩
      walk_at "sq go"
      have hs12 := hs11.put (upd_off (o := .lst [.int (2 + a1), .int v0, .int v2, .int (2 + a3)]) npS upd_same) (.lst (iv (v :: ns)))
      have w1 : Same (upd G p (.lst (iv (v :: ns)))) (upd (upd (upd G p (.lst (iv ns))) S (.lst [.int (2 + a1), .int v0, .int v2, .int (2 + a3)])) p (.lst (iv (v :: ns)))) := by
        have z := same_upd (p := p) (u := .lst (iv (v :: ns))) (same_new (o := .lst [.int (2 + a1), .int v0, .int v2, .int (2 + a3)]) gS)
        rw [upd_upd] at z
        exact z
      exact ⟨v :: ns, _, _, rfl, Sep3.mono (hs12.weak w1) (by omega), by simp [hl], hrow.cons v2' vg⟩
    · obtain ⟨ns, x, y, rfl, hs, hl, hrow⟩ := h.o
      walk_at "sq go"
      exact q p ns H' gp (by omega) hrow (Sep3.mono hs (by omega))

/-! ### the checks, also where they raise -/
/-- the first number below 2 -/
def bad (ns : List Int) : Option Nat := ns.findIdx? fun k => decide (k < 2)
theorem bad_none {ns : List Int} : bad ns = none ↔ Two ns := by
  unfold bad Two
  rw [List.findIdx?_eq_none_iff]
  constructor
  · intro h k hk
    have := h k hk
    simpa using this
  · intro h k hk
    have := h k hk
    simp
    omega
theorem bad_at {ns : List Int} {i : Nat} {n : Int} (h : ns[i]? = some n) (c : n < 2) (le : ∀ j : Nat, j < i → ∀ k, ns[j]? = some k → 2 ≤ k) : bad ns = some i := by
  unfold bad
  rw [List.findIdx?_eq_some_iff_getElem]
  obtain ⟨lt, e⟩ := List.getElem?_eq_some_iff.mp h
  refine ⟨lt, by rw [e]; simpa using c, fun j hj => ?_⟩
  have := le j hj _ (List.getElem?_eq_getElem (by omega))
  simp
  omega
abbrev s_check_list : Stmt := topS 7
theorem sc_check_list : FnScope ["replacements", "index", "replacement"] ["replacements"] (defScope s_check_list) := ⟨rfl, rfl, rfl, by decide +kernel, rfl, by decide +kernel, by decide +kernel⟩

def spCheckX (K : PySem.W.Frag) (CL : Addr) : Sp := fun vs H Q E => ∃ (a : Addr) (ns : List Int), vs = [.ref a] ∧ SqL K H a (iv ns) ∧ Keep ((bad ns = none → ∀ H', Same H H' → Q .non H') ∧
  ∀ i : Nat, bad ns = some i → ∀ d H', Same H H' → H' d = some (.xd [("value", .int i)]) → E (.ref CL) (some d) H')
theorem cal_check_listX {CL : Addr} (D : DefAt K mg "check_list" s_check_list ["replacements"]) (B : Bt mg) (c_InvalidList : Rai P w K mg base 1 "InvalidList" CL) : CalX P w K mg base 3 "check_list" (spCheckX K CL) := by
  refine D.calX sc_check_list (fun vs H Q E h => ?_) (fun f cdv A outer s H vs Q E hr h tk => ?_)
  · obtain ⟨a, ns, rfl, _⟩ := h
    rfl
  · obtain ⟨a, ns, rfl, hS, ⟨q, qe⟩⟩ := h
    refine ⟨_, (pss_one (ps_for PassesOwn.leaving rfl (pi_enumK (K := K) (by rfl) B.enumerate (pa_cons (pv 0) pa_nil)) (pg_tupK (K := K) (n := 2) rfl (pgs_cons (pg_name (i := 1) sc_check_list.nd rfl (Or.inl rfl)) (pgs_cons (pg_name (i := 2) sc_check_list.nd rfl (Or.inl rfl)) pgs_nil)))
   (pss_one (ps_if (pt_cmpR op_lt (pv 2) pe_int (nomark _)) (pss_one (ps_rx c_InvalidList hr (by first | decide | omega) (by rfl) tk (pv 1))) pss_nil)))), ?_⟩
    walk_at "sq go"
    refine for_enum (K := K) (a := a) (xs := iv ns) (fun i σ H' => Keep (∃ x y, σ = [some (.ref a), x, y] ∧ Same H H' ∧ ∀ j : Nat, j < i → ∀ k, ns[j]? = some k → 2 ≤ k)) ⟨none, none, rfl, .refl H, fun j hj => absurd hj (by omega)⟩ (fun i σ H' h => ?_) (fun i x T σ H' hx h nT => ?_) (fun σ H' h => ?_)
    · obtain ⟨_, _, _, s, _⟩ := h.o
      exact s.seq hS
    · obtain ⟨y1, y2, rfl, s, le⟩ := h.o
      obtain ⟨n, hn, rfl⟩ := iv_get hx
      have s1 := s.trans (same_new (o := .tup [.int (i : Nat), .int n]) nT)
      walk_at "sq go"
      refine ifD (fun c => ?_) (fun c => ?_)
      · walk_at "sq go"
        intro d nd
        refine qe i (bad_at hn c le) d _ (s1.trans (same_new nd)) upd_same
      · refine ⟨_, _, rfl, s1, fun j hj k hk => ?_⟩
        rcases Nat.lt_succ_iff_lt_or_eq.mp hj with z | z
        · exact le j z k hk
        · rw [z, hn] at hk
          cases hk
          omega
    · obtain ⟨y1, y2, rfl, s, le⟩ := h.o
      refine q (bad_none.mpr fun k hk => ?_) H' s
      obtain ⟨j, hj⟩ := List.mem_iff_getElem?.mp hk
      have lt : j < ns.length := (List.getElem?_eq_some_iff.mp hj).1
      exact le j (by rw [iv_len]; exact lt) k hj
abbrev s_check_length : Stmt := topS 8
theorem sc_check_length : FnScope ["length"] ["length"] (defScope s_check_length) := ⟨rfl, rfl, rfl, by decide +kernel, rfl, by decide +kernel, by decide +kernel⟩

def spLenX (CN : Addr) : Sp := fun vs H Q E => ∃ n : Int, vs = [.int n] ∧ Keep ((0 ≤ n → Q .non H) ∧ (n < 0 → ∀ d H', Same H H' → H' d = some (.xd [("value", .int n)]) → E (.ref CN) (some d) H'))
theorem cal_check_lengthX {CN : Addr} (D : DefAt K mg "check_length" s_check_length ["length"]) (B : Bt mg) (c_InvalidNumber : Rai P w K mg base 1 "InvalidNumber" CN) : CalX P w K mg base 3 "check_length" (spLenX CN) := by
  refine D.calX sc_check_length (fun vs H Q E h => ?_) (fun f cdv A outer s H vs Q E hr h tk => ?_)
  · obtain ⟨n, rfl, _⟩ := h
    rfl
  · obtain ⟨n, rfl, ⟨q, qe⟩⟩ := h
    refine ⟨_, (pss_one (ps_if (pt_cmpR op_lt (pv 0) pe_int (nomark _)) (pss_one (ps_rx c_InvalidNumber hr (by first | decide | omega) (by rfl) tk (pv 0))) pss_nil)), ?_⟩
    walk_at "sq go"
    refine ifD (fun c => ?_) (fun c => ?_)
    · walk_at "sq go"
      intro d nd
      exact qe c d _ (same_new nd) upd_same
    · exact q (by omega)

/-! ### lengths of runs, of valid lists -/
abbrev s_squeezed_once : Stmt := topS 10
theorem sc_squeezed_once : FnScope ["length", "replacement"] ["length", "replacement"] (defScope s_squeezed_once) := ⟨rfl, rfl, rfl, by decide +kernel, rfl, by decide +kernel, by decide +kernel⟩

def spSqOnce : Sp := fun vs H Q _ => ∃ n k : Int, vs = [.int n, .int k] ∧ Keep (2 ≤ k ∧ k < 2 ^ 240) ∧ Q (.int (once n k)) H
theorem cal_squeezed_once (D : DefAt K mg "squeezed_once" s_squeezed_once ["length", "replacement"]) (B : Bt mg) : Cal P w K mg base 1 "squeezed_once" spSqOnce [] := by
  refine D.cal sc_squeezed_once (fun vs H Q E h => ?_) (fun f cdv A outer s H vs Q E hr h => ?_)
  · obtain ⟨n, k, rfl, _⟩ := h
    rfl
  · obtain ⟨n, k, rfl, ⟨h2, hb⟩, q⟩ := h
    refine ⟨_, (pss_one (ps_ret (pe_op op_add (pe_op op_fdivW (pv 0) (pv 1)) (pe_op op_mod (pv 0) (pv 1))))), ?_⟩
    have c : CDivW n k := div_ok (by omega) hb
    walk_at "sq go"
    exact q
abbrev s_squeezed_by : Stmt := topS 11
theorem sc_squeezed_by : FnScope ["length", "replacements", "replacement"] ["length", "replacements"] (defScope s_squeezed_by) := ⟨rfl, rfl, rfl, by decide +kernel, rfl, by decide +kernel, by decide +kernel⟩

def spSqBy (K : PySem.W.Frag) : Sp := fun vs H Q _ => ∃ (n : Int) (p : Addr) (ns : List Int), vs = [.int n, .ref p] ∧ SqL K H p (iv ns) ∧ Keep (Mid ns) ∧ Q (.int (sqz n ns)) H
theorem cal_squeezed_by (D : DefAt K mg "squeezed_by" s_squeezed_by ["length", "replacements"]) (B : Bt mg) (c_squeezed_once : Cal P w K mg base 1 "squeezed_once" spSqOnce []) : Cal P w K mg base 2 "squeezed_by" (spSqBy K) [] := by
  refine D.cal sc_squeezed_by (fun vs H Q E h => ?_) (fun f cdv A outer s H vs Q E hr h => ?_)
  · obtain ⟨n, p, ns, rfl, _⟩ := h
    rfl
  · obtain ⟨n, p, ns, rfl, hS, ⟨hm⟩, q⟩ := h
    refine ⟨_, (pss_cons (ps_for PassesOwn.never rfl (pi_listK (K := K) (pv 1)) (pg_name (i := 2) sc_squeezed_by.nd rfl (Or.inl rfl))
   (pss_one (ps_set (i := 0) sc_squeezed_by.nd rfl (Or.inl rfl) (pe_c c_squeezed_once hr (by first | decide | omega) (by rfl) (pa_cons (pv 0) (pa_cons (pv 2) pa_nil))))))
  (pss_one (ps_ret (pv 0)))), ?_⟩
    walk_at "sq go"
    refine for_list (K := K) (a := p) (xs := iv ns) (fun i σ H' => Keep (∃ x, σ = [some (.int (sqz n (ns.take i))), some (.ref p), x] ∧ H' = H)) ⟨none, rfl, rfl⟩ (fun i σ H' _ h => ?_) (fun i x σ H' hx h => ?_) (fun σ H' h => ?_)
    · obtain ⟨x, _, rfl⟩ := h.o
      exact hS
    · obtain ⟨x, rfl, rfl⟩ := h.o
      obtain ⟨k, hk, rfl⟩ := iv_get hx
      walk_at "sq go"
      refine ⟨⟨hm k (List.mem_of_getElem? hk)⟩, ?_⟩
      exact ⟨_, by rw [sqz_take hk]; rfl, rfl⟩
    · obtain ⟨x, rfl, rfl⟩ := h.o
      have e : (iv ns).length = ns.length := iv_len _
      rw [e, List.take_length]
      walk_at "sq go"
      exact q

/-! ### texts squeezed -/
local macro_rules | `(tactic| walk_at "sq side") => `(tactic| first
  | ((with_reducible show _ ≤ PySem.sizeLine); assumption))
theorem chr_S (x : Nat) (c : Nat) : decide (V.str (SX.S [x]) = V.str (SX.S [c])) = decide (x = c) := by
  by_cases e : x = c
  · rw [decide_eq_true e, e, decide_eq_true rfl]
  · rw [decide_eq_false e]
    exact decide_eq_false fun z => e (List.cons.inj (SX.S_inj (V.str.inj z))).1
abbrev s_pieces_of : Stmt := topS 13
theorem sc_pieces_of : FnScope ["text", "character", "found", "sign", "is_run"] ["text", "character"] (defScope s_pieces_of) := ⟨rfl, rfl, rfl, by decide +kernel, rfl, by decide +kernel, by decide +kernel⟩

def spPieces : Sp := fun vs H Q _ => ∃ (u : List Nat) (c : Nat), vs = [.str (SX.S u), .str (SX.S [c])] ∧ Keep (u.length ≤ 100000 ∧ ∀ x ∈ u, x < 0x110000) ∧ ∀ l H', Same H H' → H l = none → PcH H' l (pcs c u) → Q (.ref l) H'
theorem cal_pieces (D : DefAt K mg "pieces_of" s_pieces_of ["text", "character"]) (B : Bt mg) : Cal P w K mg base 1 "pieces_of" spPieces [] := by
  refine D.cal sc_pieces_of (fun vs H Q E h => ?_) (fun f cdv A outer s H vs Q E hr h => ?_)
  · obtain ⟨u, c, rfl, _⟩ := h
    rfl
  · obtain ⟨u, c, rfl, ⟨lu, cu⟩, q⟩ := h
    refine ⟨_, (pss_cons (ps_set (i := 2) sc_pieces_of.nd rfl (Or.inl rfl) (pe_lst pa_nil))
  (pss_cons (ps_for PassesOwn.never rfl (pi_str (pv 0)) (pg_name (i := 3) sc_pieces_of.nd rfl (Or.inl rfl))
   (pss_cons (ps_set (i := 4) sc_pieces_of.nd rfl (Or.inl rfl) (pe_cmpR op_eq (pv 3) (pv 1) (nomark _)))
  (pss_one (ps_if (PW.pt (pw_and (pt_cmpR (op_neDK (K := K) hr.units) (pv 2) (pe_lst pa_nil) (nomark _)) (pw_and1 (pt_cmpR op_eq (pe_ix (ix_tupK (K := K)) (pe_ix (ix_listK (K := K)) (pv 2) (pe_un un_neg pe_int) (fun _ _ => rfl)) pe_int (fun _ _ => rfl)) (pv 4) (nomark _))))) (pss_one (ps_asg (pe_tup (pa_cons (pe_op op_add_str (pe_ix (ix_tupK (K := K)) (pe_ix (ix_listK (K := K)) (pv 2) (pe_un un_neg pe_int) (fun _ _ => rfl)) pe_int (fun _ _ => rfl)) (pv 3)) (pa_cons (pv 4) pa_nil))) (pg_sub (pv 2) (pe_un un_neg pe_int) set_list))) (pss_one (ps_expr (pe_bm PySem.F.plainAttrs_list PySem.F.slot_list_append PySem.F.type_list_append mt_append (pv 2) (pa_cons (pe_tup (pa_cons (pv 3) (pa_cons (pv 4) pa_nil))) pa_nil))))))))
  (pss_one (ps_ret (pv 2))))), ?_⟩
    walk_at "sq go"
    intro l nl
    walk_at "sq go"
    refine for_str (u := u) (fun i σ H' => Keep (∃ x y, σ = [some (.str (SX.S u)), some (.str (SX.S [c])), some (.ref l), x, y] ∧ Same H H' ∧ PcH H' l (pcs c (u.take i)))) ⟨_, _, rfl, same_new nl, [], upd_same, rfl, fun i t p h => by simp at h⟩ (fun i x σ H' hx h => ?_) (fun σ H' h => ?_)
    · obtain ⟨x1, x2, rfl, s1, pr⟩ := h.o
      have li : i < u.length := (List.getElem?_eq_some_iff.mp hx).1
      have lu1 : (u.take i).length ≤ 100000 := by rw [List.length_take]; omega
      have lg : (pcs c (u.take i)).length ≤ 100000 := Nat.le_trans (pcs_count c _) lu1
      have hk : ∀ p ∈ pcs c (u.take i), PyData.strOk (SX.S p.1) = true := fun p hp => strOkS (pcs_mem (P := fun x => x < 0x110000) (fun x hx => cu x (List.mem_of_mem_take hx)) p hp)
      walk_at "sq go"
      rw [chr_S]
      intro e ne
      have pr1 := pr.same (same_new (o := .lst []) ne)
      refine r_nePc pr1 hk upd_same ?_
      have nn1 : ∀ {G : Hp} {a b : Addr} {u : HO}, G a = none → G b = some u → b ≠ a := fun h h2 z => by
        rw [z, h] at h2
        cases h2
      have sN : ∀ {H1 : Hp}, (∀ b o, b ≠ l → H' b = some o → H1 b = some o) → Same H H1 := fun kp b o e => kp b o (nn1 nl e) (s1 b o e)
      have lts : ∀ ts : List Addr, ts.length = (pcs c (u.take i)).length → (ts.map V.ref).length < sizeLine := fun ts h => by
        rw [List.length_map, h, sizeLine_eq]
        omega
      have eT := pcs_take (c := c) hx
      have wl : ∀ p ∈ pcs c (u.take i), p.1.length ≤ 100000 := fun p hp => Nat.le_trans (pcs_le p hp) lu1
      generalize pcs c (u.take i) = ps at *
      have addNew : ∀ {T : Addr} {ts : List Addr} (fin : ∀ (T : Addr) (q : Pc) (H'' : Hp), (∀ b o, b ≠ l → upd H' e (.lst []) b = some o → H'' b = some o) → H'' T = some (.tup [.str (SX.S q.1), .bl q.2]) → H'' l = some (.lst (ts.map V.ref ++ [.ref T])) → PcH H'' l (ps ++ [q])),
          upd H' e (.lst []) T = none → upd H' e (.lst []) l = some (.lst (ts.map V.ref)) → pcS c ps x = ps ++ [([x], decide (x = c))] → Same H (upd (upd (upd H' e (.lst [])) T (.tup [.str (SX.S [x]), .bl (decide (x = c))])) l (.lst (ts.map V.ref ++ [.ref T]))) ∧
            PcH (upd (upd (upd H' e (.lst [])) T (.tup [.str (SX.S [x]), .bl (decide (x = c))])) l (.lst (ts.map V.ref ++ [.ref T]))) l (pcs c (u.take (i + 1))) := fun {T ts} fin nT hl ep => by
        have nlT : T ≠ l := fun z => nn1 nT hl z.symm
        have keep : ∀ b o, b ≠ l → upd H' e (.lst []) b = some o → upd (upd (upd H' e (.lst [])) T (.tup [.str (SX.S [x]), .bl (decide (x = c))])) l (.lst (ts.map V.ref ++ [.ref T])) b = some o := fun b o n h => upd_off n (upd_keep nT h)
        refine ⟨sN fun b o n h => keep b o n (upd_keep ne h), ?_⟩
        rw [eT, ep]
        exact fin T ([x], decide (x = c)) _ keep (upd_off nlT upd_same) upd_same
      walk_at "sq go"
      refine ifN (fun hne => ?_) (fun he => ?_)
      · obtain ⟨⟨w, b⟩, ea⟩ : ∃ z, ps.getLast? = some z := by
          cases ez : ps.getLast? with
          | none => exact absurd (List.getLast?_eq_none_iff.mp ez) hne
          | some z => exact ⟨z, rfl⟩
        obtain ⟨ts, t, j, hl, ix, at_, ht, fin⟩ := pr1.last ea
        have eS : pcS c ps x = if b = decide (x = c) then ps.dropLast ++ [(w ++ [x], b)] else ps ++ [([x], decide (x = c))] := by
          unfold pcS
          rw [ea]
        walk_at "sq go"
        refine ifD (fun eb => ?_) (fun eb => ?_)
        · have eb' : b = decide (x = c) := V.bl.inj eb
          rw [if_pos eb'] at eS
          have lw := wl (w, b) (List.mem_of_getLast? ea)
          have z1 : (SX.S w).length + (SX.S [x]).length ≤ sizeLine := by
            rw [SX.S_len, SX.S_len, sizeLine_eq]
            simp only [List.length_cons, List.length_nil]
            simp only at lw
            omega
          walk_at "sq go"
          intro T nT
          have hl2 := upd_keep (o := .tup [.str (SX.S w ++ SX.S [x]), .bl (decide (x = c))]) nT hl
          walk_at "sq go"
          have nlT : T ≠ l := fun z => nn1 nT hl z.symm
          have keep : ∀ b' o, b' ≠ l → upd H' e (.lst []) b' = some o → upd (upd (upd H' e (.lst [])) T (.tup [.str (SX.S w ++ SX.S [x]), .bl (decide (x = c))])) l (.lst ((ts.map V.ref).set j (.ref T))) b' = some o := fun b' o n h => upd_off n (upd_keep nT h)
          refine ⟨_, _, rfl, sN fun b' o n h => keep b' o n (upd_keep ne h), ?_⟩
          rw [eT, eS]
          refine fin T (w ++ [x], b) _ keep ?_ upd_same
          rw [upd_ne nlT, upd_same, SX.S_cat, eb']
        · rw [if_neg fun z => eb (congrArg V.bl z)] at eS
          obtain ⟨ts, hl, tl, fin⟩ := pr1.snoc
          have lz := lts ts tl
          walk_at "sq go"
          intro T nT
          have hl2 := upd_keep (o := .tup [.str (SX.S [x]), .bl (decide (x = c))]) nT hl
          obtain ⟨a1, a2⟩ := addNew fin nT hl eS
          walk_at "sq go"
          exact ⟨_, _, rfl, a1, a2⟩
      · obtain ⟨ts, hl, tl, fin⟩ := pr1.snoc
        have lz := lts ts tl
        walk_at "sq go"
        intro T nT
        have hl2 := upd_keep (o := .tup [.str (SX.S [x]), .bl (decide (x = c))]) nT hl
        have ep : pcS c ps x = ps ++ [([x], decide (x = c))] := by
          rw [he]
          rfl
        obtain ⟨a1, a2⟩ := addNew fin nT hl ep
        walk_at "sq go"
        exact ⟨_, _, rfl, a1, a2⟩
    · obtain ⟨x1, x2, rfl, s1, pr⟩ := h.o
      walk_at "sq go"
      rw [List.take_length] at pr
      exact q l H' s1 nl pr
abbrev s_squeezed_text : Stmt := topS 14
theorem sc_squeezed_text : FnScope ["text", "character", "replacements", "found", "piece", "is_run"] ["text", "character", "replacements"] (defScope s_squeezed_text) := ⟨rfl, rfl, rfl, by decide +kernel, rfl, by decide +kernel, by decide +kernel⟩

def spSqText (K : PySem.W.Frag) : Sp := fun vs H Q _ => ∃ (u : List Nat) (c : Nat) (p : Addr) (ks : List Int), vs = [.str (SX.S u), .str (SX.S [c]), .ref p] ∧ SqL K H p (iv ks) ∧ Keep (u.length ≤ 100000 ∧ (∀ x ∈ u, x < 0x110000) ∧ Mid ks) ∧ ∀ H', Same H H' → Q (.str (SX.S (sqT c ks u))) H'
theorem cal_sqtext (D : DefAt K mg "squeezed_text" s_squeezed_text ["text", "character", "replacements"]) (B : Bt mg) (c_pieces_of : Cal P w K mg base 1 "pieces_of" spPieces []) (c_squeezed_by : Cal P w K mg base 2 "squeezed_by" (spSqBy K) []) : Cal P w K mg base 3 "squeezed_text" (spSqText K) [] := by
  refine D.cal sc_squeezed_text (fun vs H Q E h => ?_) (fun f cdv A outer s H vs Q E hr h => ?_)
  · obtain ⟨u, c, p, ks, rfl, _⟩ := h
    rfl
  · obtain ⟨u, c, p, ks, rfl, hS, ⟨lu, cu, hm⟩, q⟩ := h
    refine ⟨_, (pss_cons (ps_set (i := 3) sc_squeezed_text.nd rfl (Or.inl rfl) (pe_lst pa_nil))
  (pss_cons (ps_for PassesOwn.never rfl (pi_listK (K := K) (pe_c c_pieces_of hr (by first | decide | omega) (by rfl) (pa_cons (pv 0) (pa_cons (pv 1) pa_nil)))) (pg_tupK (K := K) (n := 2) rfl (pgs_cons (pg_name (i := 4) sc_squeezed_text.nd rfl (Or.inl rfl)) (pgs_cons (pg_name (i := 5) sc_squeezed_text.nd rfl (Or.inl rfl)) pgs_nil)))
   (pss_one (ps_expr (pe_bm PySem.F.plainAttrs_list PySem.F.slot_list_append PySem.F.type_list_append mt_append (pv 3) (pa_cons (pe_ifExp (pt_val (pv 5)) (pe_op op_rep_strL (pv 1) (pe_c c_squeezed_by hr (by first | decide | omega) (by rfl) (pa_cons (pe_callB call_len_str (by rfl) B.len boot_len (pa_cons (pv 4) pa_nil)) (pa_cons (pv 2) pa_nil)))) (pv 4)) pa_nil)))))
  (pss_one (ps_ret (pe_join pe_str (pv 3)))))), ?_⟩
    walk_at "sq go"
    intro l nl
    have s0 := same_new (o := .lst []) nl
    walk_at "sq go"
    refine ⟨⟨lu, cu⟩, fun l2 H1 s1 nl2 pr => ?_⟩
    have hW1 : H1 l = some (.lst []) := s1 _ _ upd_same
    obtain ⟨ts, hl, tl, ht⟩ := id pr
    have nlW : l2 ≠ l := fun z => by
      rw [z, upd_same] at nl2
      cases nl2
    have s2 := s0.trans s1
    walk_at "sq go"
    have h0 : (fun n : Nat => (sqz (n : Int) ks).toNat) 0 = 0 := by
      show (sqz ((0 : Nat) : Int) ks).toNat = 0
      rw [show ((0 : Nat) : Int) = 0 from rfl, sqz0 hm.two]
      rfl
    have lgp := pcs_count c u
    let ov : Pc → List Nat := fun p => if p.2 = true then List.replicate (sqz (p.1.length : Int) ks).toNat c else p.1
    refine for_list (K := K) (a := l2) (xs := ts.map V.ref) (fun i σ H' => Keep (∃ x y, σ = [some (.str (SX.S u)), some (.str (SX.S [c])), some (.ref p), some (.ref l), x, y] ∧ H' = upd H1 l (.lst (((pcs c u).take i).map fun p => .str (SX.S (ov p)))))) ⟨_, _, rfl, ?_⟩ (fun i σ H' _ h => ?_) (fun i x σ H' hx h => ?_) (fun σ H' h => ?_)
    · funext b
      by_cases hb : b = l
      · rw [hb, upd_same, hW1]
        rfl
      · rw [upd_ne hb]
    · obtain ⟨x, y, _, rfl⟩ := h.o
      exact seqL_of (upd_off nlW hl)
    · obtain ⟨x1, y1, rfl, rfl⟩ := h.o
      rw [List.getElem?_map] at hx
      obtain ⟨t, et, rfl⟩ := Option.map_eq_some_iff.mp hx
      have li := (List.getElem?_eq_some_iff.mp et).1
      have lg : i < (pcs c u).length := by omega
      have ep := List.getElem?_eq_getElem lg
      have mp := List.getElem_mem lg
      generalize (pcs c u)[i] = pq at ep mp
      have htt := ht i t pq et ep
      have lw := pcs_le _ mp
      obtain ⟨w, b⟩ := pq
      simp only at htt lw
      have eta : ((pcs c u).take (i + 1)).map (fun p => V.str (SX.S (ov p))) = ((pcs c u).take i).map (fun p => V.str (SX.S (ov p))) ++ [.str (SX.S (ov (w, b)))] := by
        rw [List.take_add_one, ep, List.map_append]
        rfl
      have lacc : (((pcs c u).take i).map fun p => V.str (SX.S (ov p))).length < sizeLine := by
        rw [List.length_map, List.length_take, sizeLine_eq]
        omega
      have ntW : t ≠ l := fun z => by
        rw [z, hW1] at htt
        cases htt
      have htW := upd_off (o := .lst (((pcs c u).take i).map fun p => V.str (SX.S (ov p)))) ntW htt
      have hSW : SqL K (upd H1 l (.lst (((pcs c u).take i).map fun p => V.str (SX.S (ov p))))) p (iv ks) := by
        exact (same_atP s2 nl).seq hS
      have wS : (SX.S w).length = w.length := SX.S_len w
      walk_at "sq go"
      cases b with
      | true =>
        have sq0 := sqz_nn (n := (w.length : Int)) (by omega) hm.two
        have sq1 := sqz_le (n := (w.length : Int)) (by omega) hm.two
        walk_at "sq go"
        rw [wS]
        refine ⟨⟨hm⟩, ?_⟩
        have sz : ([c] : List Nat).length * (sqz (w.length : Int) ks).toNat ≤ 10000000 := by
          simp only [List.length_cons, List.length_nil]
          omega
        walk_at "sq go"
        refine ⟨_, _, rfl, ?_⟩
        rw [upd_upd, eta]
        show _ = upd H1 l (.lst (_ ++ [.str (SX.S (List.replicate (sqz (w.length : Int) ks).toNat c))]))
        rw [← repL_one]
      | false =>
        walk_at "sq go"
        refine ⟨_, _, rfl, ?_⟩
        rw [upd_upd, eta]
        rfl
    · obtain ⟨x1, y1, rfl, rfl⟩ := h.o
      rw [List.length_map, tl, List.take_length]
      have sumo : (((pcs c u).map ov).map (·.length)).sum ≤ u.length := by
        have z := pcs_sum c u
        rw [← z, List.map_map]
        have key : ∀ l : List Pc, (l.map ((·.length) ∘ ov)).sum ≤ (l.map (·.1.length)).sum := fun l => by
          induction l with
          | nil => exact Nat.le_refl _
          | cons p r ih =>
            rw [List.map_cons, List.sum_cons, List.map_cons, List.sum_cons]
            have : (ov p).length ≤ p.1.length := by
              show (if p.2 = true then List.replicate (sqz (p.1.length : Int) ks).toNat c else p.1).length ≤ _
              have := sqz_le (n := (p.1.length : Int)) (by omega) hm.two
              split
              · rw [List.length_replicate]
                omega
              · exact Nat.le_refl _
            have e : ((·.length) ∘ ov) p = (ov p).length := rfl
            omega
        exact key _
      walk_at "sq go"
      refine ⟨⟨_, rfl⟩, _, rfl, _, l, ((pcs c u).map ov).map SX.S, rfl, rfl, .inl (seqL_of (by rw [List.map_map, List.map_map]; exact upd_same)), ?_, ?_⟩
      · rw [SX.lens, show ("" : Str).length = 0 from by decide +kernel]
        omega
      · rw [show ("" : Str) = SX.S [] from by decide +kernel, SX.join_S, joinL_nil]
        have e : ((pcs c u).map ov).flatten = sqT c ks u := by
          unfold sqT
          rw [← out_pcs h0]
          unfold outP
          rw [List.flatMap_def]
        rw [e]
        exact q _ (same_atP s2 nl)

/-! ### texts squeezed, also where it raises -/
/-- no string of one character -/
def NotCh (K : PySem.W.Frag) (H : Hp) (ch : V) : Prop := (∃ T, TyX K H ch T ∧ PySem.W.kitOne K T (.type "str") = some false) ∨ ∃ w : List Nat, ch = .str (SX.S w) ∧ w.length ≠ 1 ∧ w.length ≤ 1000
abbrev s_check_character : Stmt := topS 9
theorem sc_check_character : FnScope ["character"] ["character"] (defScope s_check_character) := ⟨rfl, rfl, rfl, by decide +kernel, rfl, by decide +kernel, by decide +kernel⟩

def spChX (K : PySem.W.Frag) (CC : Addr) : Sp := fun vs H Q E => ∃ ch, vs = [ch] ∧ Keep ((∃ c, ch = .str (SX.S [c]) ∧ Q .non H) ∨ (NotCh K H ch ∧ ∀ d H', Same H H' → H' d = some (.xd [("value", ch)]) → E (.ref CC) (some d) H'))
theorem cal_check_chX {CC : Addr} (D : DefAt K mg "check_character" s_check_character ["character"]) (B : Bt mg) (c_InvalidCharacter : Rai P w K mg base 1 "InvalidCharacter" CC) : CalX P w K mg base 3 "check_character" (spChX K CC) := by
  refine D.calX sc_check_character (fun vs H Q E h => ?_) (fun f cdv A outer s H vs Q E hr h tk => ?_)
  · obtain ⟨n, rfl, _⟩ := h
    rfl
  · obtain ⟨ch, rfl, ⟨h⟩⟩ := h
    refine ⟨_, (pss_one (ps_if (PW.pt (pw_or (pt_not (pt_val (pe_callB (isiK (K := K)) (by rfl) B.isinstance (by decide +kernel) (pa_cons (pv 0) (pa_cons (pe_bltn (v := .ty "str") (by rfl) B.str (by decide +kernel) rfl) pa_nil))))) (pw_or1 (pt_cmpR op_ne (pe_callB call_len_str (by rfl) B.len boot_len (pa_cons (pv 0) pa_nil)) pe_int (nomark _))))) (pss_one (ps_rx c_InvalidCharacter hr (by first | decide | omega) (by rfl) tk (pv 0))) pss_nil)), ?_⟩
    rcases h with ⟨c, rfl, q⟩ | ⟨h, qe⟩
    · walk_at "sq go"
      exact q
    · rcases h with ⟨T, hT, hk⟩ | ⟨w, rfl, hw, lw⟩
      · walk_at "sq go"
        intro d nd
        exact qe d _ (same_new nd) upd_same
      · have lS : (SX.S w).length ≤ sizeLine := by
          rw [SX.S_len, sizeLine_eq]
          omega
        walk_at "sq go"
        refine ifIN (fun _ => ?_) (fun e => ?_)
        · walk_at "sq go"
          intro d nd
          exact qe d _ (same_new nd) upd_same
        · rw [SX.S_len] at e
          omega
abbrev s_squeeze_text : Stmt := topS 15
theorem sc_squeeze_text : FnScope ["text", "character", "replacements"] ["text", "character", "replacements"] (defScope s_squeeze_text) := ⟨rfl, rfl, rfl, by decide +kernel, rfl, by decide +kernel, by decide +kernel⟩

def spSqTxX (K : PySem.W.Frag) (CC CL : Addr) : Sp := fun vs H Q E => ∃ (u : List Nat) (ch : V) (p : Addr) (ks : List Int), vs = [.str (SX.S u), ch, .ref p] ∧ SqL K H p (iv ks) ∧ Keep (u.length ≤ 100000 ∧ (∀ x ∈ u, x < 0x110000) ∧
  ((NotCh K H ch ∧ ∀ d H', Same H H' → H' d = some (.xd [("value", ch)]) → E (.ref CC) (some d) H') ∨ ∃ c, ch = .str (SX.S [c]) ∧ (∀ i : Nat, bad ks = some i → ∀ d H', Same H H' → H' d = some (.xd [("value", .int i)]) → E (.ref CL) (some d) H') ∧ (bad ks = none → Mid ks ∧ ∀ H', Same H H' → Q (.str (SX.S (sqT c ks u))) H')))
theorem two_sqtextX {CC CL : Addr} (D : DefAt K mg "squeeze_text" s_squeeze_text ["text", "character", "replacements"]) (B : Bt mg) (c_check_characterX : CalX P w K mg base 3 "check_character" (spChX K CC)) (c_check_listX : CalX P w K mg base 3 "check_list" (spCheckX K CL))
    (c_squeezed_text : Cal P w K mg base 3 "squeezed_text" (spSqText K) []) : Def2X P w K mg base 4 "squeeze_text" s_squeeze_text ["text", "character", "replacements"] (spSqTxX K CC CL) := by
  refine D.twoX sc_squeeze_text (fun vs H Q E h => ?_) (fun f cdv A outer s H vs Q E hr h tk => ?_)
  · obtain ⟨u, ch, p, ks, rfl, _⟩ := h
    rfl
  · obtain ⟨u, ch, p, ks, rfl, hS, ⟨lu, cu, h⟩⟩ := h
    refine ⟨_, (pss_cons (ps_expr (pe_cx c_check_characterX hr (by first | decide | omega) tk (by rfl) (pa_cons (pv 1) pa_nil)))
  (pss_cons (ps_expr (pe_cx c_check_listX hr (by first | decide | omega) tk (by rfl) (pa_cons (pv 2) pa_nil)))
  (pss_one (ps_ret (pe_c c_squeezed_text hr (by first | decide | omega) (by rfl) (pa_cons (pv 0) (pa_cons (pv 1) (pa_cons (pv 2) pa_nil)))))))), ?_⟩
    rcases h with ⟨hN, qe⟩ | ⟨c, rfl, qe, q⟩
    · walk_at "sq go"
      exact ⟨.inr ⟨hN, qe⟩⟩
    · walk_at "sq go"
      refine ⟨.inl ⟨c, rfl, ?_⟩⟩
      walk_at "sq go"
      refine ⟨⟨fun e H1 s1 => ?_, fun i e d H1 s1 hd => qe i e d H1 s1 hd⟩⟩
      have hS1 := s1.seq hS
      obtain ⟨hm, q⟩ := q e
      walk_at "sq go"
      refine ⟨⟨lu, cu, hm⟩, fun H2 s2 => ?_⟩
      exact q H2 (s1.trans s2)
abbrev s_squeezed : Stmt := topS 12
theorem sc_squeezed : FnScope ["length", "replacements"] ["length", "replacements"] (defScope s_squeezed) := ⟨rfl, rfl, rfl, by decide +kernel, rfl, by decide +kernel, by decide +kernel⟩

def spSqX (K : PySem.W.Frag) (CN CL : Addr) : Sp := fun vs H Q E => ∃ (n : Int) (p : Addr) (ks : List Int), vs = [.int n, .ref p] ∧ SqL K H p (iv ks) ∧ Keep ((n < 0 → ∀ d H', Same H H' → H' d = some (.xd [("value", .int n)]) → E (.ref CN) (some d) H') ∧
  (0 ≤ n → ∀ i : Nat, bad ks = some i → ∀ d H', Same H H' → H' d = some (.xd [("value", .int i)]) → E (.ref CL) (some d) H') ∧ (0 ≤ n → bad ks = none → Mid ks ∧ ∀ H', Same H H' → Q (.int (sqz n ks)) H'))
theorem two_squeezedX {CN CL : Addr} (D : DefAt K mg "squeezed" s_squeezed ["length", "replacements"]) (B : Bt mg) (c_check_lengthX : CalX P w K mg base 3 "check_length" (spLenX CN)) (c_check_listX : CalX P w K mg base 3 "check_list" (spCheckX K CL))
    (c_squeezed_by : Cal P w K mg base 2 "squeezed_by" (spSqBy K) []) : Def2X P w K mg base 4 "squeezed" s_squeezed ["length", "replacements"] (spSqX K CN CL) := by
  refine D.twoX sc_squeezed (fun vs H Q E h => ?_) (fun f cdv A outer s H vs Q E hr h tk => ?_)
  · obtain ⟨n, p, ks, rfl, _⟩ := h
    rfl
  · obtain ⟨n, p, ks, rfl, hS, ⟨q1, q2, q3⟩⟩ := h
    refine ⟨_, (pss_cons (ps_expr (pe_cx c_check_lengthX hr (by first | decide | omega) tk (by rfl) (pa_cons (pv 0) pa_nil)))
  (pss_cons (ps_expr (pe_cx c_check_listX hr (by first | decide | omega) tk (by rfl) (pa_cons (pv 1) pa_nil)))
  (pss_one (ps_ret (pe_c c_squeezed_by hr (by first | decide | omega) (by rfl) (pa_cons (pv 0) (pa_cons (pv 1) pa_nil))))))), ?_⟩
    walk_at "sq go"
    refine ⟨⟨fun h0 => ?_, q1⟩⟩
    walk_at "sq go"
    refine ⟨⟨fun e H1 s1 => ?_, fun i e d H1 s1 hd => q2 h0 i e d H1 s1 hd⟩⟩
    have hS1 := s1.seq hS
    obtain ⟨hm, q⟩ := q3 h0 e
    walk_at "sq go"
    exact ⟨⟨hm⟩, q H1 s1⟩

/-! ### lists shown -/
structure TxC (mg : Str → Option Value) : Prop where
  sep : ∃ u, mg "SEPARATOR" = some u ∧ L2.RelV (.str ", ") u
  pow : ∃ u, mg "POWER" = some u ∧ L2.RelV (.str "^") u
  non : ∃ u, mg "NO_REPLACEMENTS" = some u ∧ L2.RelV (.str "none") u
theorem s_sep : (", " : Str) = SX.S [44, 32] := by decide +kernel
theorem s_pow : ("^" : Str) = SX.S [94] := by decide +kernel
theorem s_none : ("none" : Str) = SX.S noneL := by decide +kernel
theorem s_num {k : Int} (h : 0 ≤ k) : Str.ofString (toString k) = SX.S (TL.numL k.toNat) := by
  obtain ⟨n, rfl⟩ := Int.eq_ofNat_of_zero_le h
  exact SX.num_S n
abbrev s_equal_neighbours : Stmt := topS 20
theorem sc_equal_neighbours : FnScope ["replacements", "found", "replacement"] ["replacements"] (defScope s_equal_neighbours) := ⟨rfl, rfl, rfl, by decide +kernel, rfl, by decide +kernel, by decide +kernel⟩

def spEqN (K : PySem.W.Frag) : Sp := fun vs H Q _ => ∃ (p : Addr) (ns : List Int), vs = [.ref p] ∧ SqL K H p (iv ns) ∧ Keep (ns.length ≤ 5000000) ∧ ∀ l H', Same H H' → H l = none → Prs H' l (grp ns) → Q (.ref l) H'
theorem cal_equal (D : DefAt K mg "equal_neighbours" s_equal_neighbours ["replacements"]) (B : Bt mg) : Cal P w K mg base 1 "equal_neighbours" (spEqN K) [] := by
  refine D.cal sc_equal_neighbours (fun vs H Q E h => ?_) (fun f cdv A outer s H vs Q E hr h => ?_)
  · obtain ⟨p, ns, rfl, _⟩ := h
    rfl
  · obtain ⟨p, ns, rfl, hS, ⟨len⟩, q⟩ := h
    refine ⟨_, (pss_cons (ps_set (i := 1) sc_equal_neighbours.nd rfl (Or.inl rfl) (pe_lst pa_nil))
  (pss_cons (ps_for PassesOwn.never rfl (pi_listK (K := K) (pv 0)) (pg_name (i := 2) sc_equal_neighbours.nd rfl (Or.inl rfl))
   (pss_one (ps_if (PW.pt (pw_and (pt_cmpR (op_neDK (K := K) hr.units) (pv 1) (pe_lst pa_nil) (nomark _)) (pw_and1 (pt_cmpR op_eq (pe_ix (ix_tupK (K := K)) (pe_ix (ix_listK (K := K)) (pv 1) (pe_un un_neg pe_int) (fun _ _ => rfl)) pe_int (fun _ _ => rfl)) (pv 2) (nomark _))))) (pss_one (ps_asg (pe_tup (pa_cons (pv 2) (pa_cons (pe_op op_add (pe_ix (ix_tupK (K := K)) (pe_ix (ix_listK (K := K)) (pv 1) (pe_un un_neg pe_int) (fun _ _ => rfl)) pe_int (fun _ _ => rfl)) pe_int) pa_nil))) (pg_sub (pv 1) (pe_un un_neg pe_int) set_list))) (pss_one (ps_expr (pe_bm PySem.F.plainAttrs_list PySem.F.slot_list_append PySem.F.type_list_append mt_append (pv 1) (pa_cons (pe_tup (pa_cons (pv 2) (pa_cons pe_int pa_nil))) pa_nil)))))))
  (pss_one (ps_ret (pv 1))))), ?_⟩
    walk_at "sq go"
    intro l nl
    have hS0 := (same_new (o := .lst []) nl).seq hS
    walk_at "sq go"
    refine for_list (K := K) (a := p) (xs := iv ns) (fun i σ H' => Keep (∃ x, σ = [some (.ref p), some (.ref l), x] ∧ Same H H' ∧ Prs H' l (grp (ns.take i)))) ⟨none, rfl, same_new nl, [], upd_same, rfl, fun i t p h => by simp at h⟩ (fun i σ H' _ h => ?_) (fun i x σ H' hx h => ?_) (fun σ H' h => ?_)
    · obtain ⟨x, _, s1, _⟩ := h.o
      exact s1.seq hS
    · obtain ⟨x, rfl, s1, pr⟩ := h.o
      obtain ⟨k, hk, rfl⟩ := iv_get hx
      have li : i < 5000000 := by
        have := (List.getElem?_eq_some_iff.mp hk).1
        omega
      have e1 : grp (ns.take (i + 1)) = grpS (grp (ns.take i)) k := by
        rw [List.take_add_one, hk]
        exact grp_snoc _ _
      have lg : (grp (ns.take i)).length ≤ 5000000 := by
        have := grp_len (ns.take i)
        rw [List.length_take] at this
        omega
      have step : ∀ {H1 : Hp}, Same H' H1 → ∀ b o, b ≠ l → H' b = some o → H1 b = some o := fun s b o _ e => s b o e
      walk_at "sq go"
      intro e ne
      have pr1 := pr.same (same_new (o := .lst []) ne)
      refine r_nePs pr1 (seqL_of upd_same) ?_
      have nn1 : ∀ {G : Hp} {a b : Addr} {u : HO}, G a = none → G b = some u → b ≠ a := fun h h2 z => by
        rw [z, h] at h2
        cases h2
      have sN : ∀ {H1 : Hp}, (∀ b o, b ≠ l → H' b = some o → H1 b = some o) → Same H H1 := fun kp b o e => kp b o (nn1 nl e) (s1 b o e)
      have lts : ∀ ts : List Addr, ts.length = (grp (ns.take i)).length → (ts.map V.ref).length < sizeLine := fun ts h => by
        rw [List.length_map, h]
        exact ltW lg
      walk_at "sq go"
      refine ifN (fun hne => ?_) (fun he => ?_)
      · obtain ⟨⟨a, c⟩, ea⟩ : ∃ z, (grp (ns.take i)).getLast? = some z := by
          cases ez : (grp (ns.take i)).getLast? with
          | none => exact absurd (List.getLast?_eq_none_iff.mp ez) hne
          | some z => exact ⟨z, rfl⟩
        obtain ⟨ts, t, j, hl, ix, at_, ht, fin⟩ := pr1.last ea
        walk_at "sq go"
        refine ifI (fun eq => ?_) (fun neq => ?_)
        · walk_at "sq go"
          intro T nT
          have hl2 := upd_keep (o := .tup [.int k, .int ((c : Int) + 1)]) nT hl
          walk_at "sq go"
          have nlT : T ≠ l := fun z => nn1 nT hl z.symm
          have keep : ∀ b o, b ≠ l → upd H' e (.lst []) b = some o → upd (upd (upd H' e (.lst [])) T (.tup [.int k, .int ((c : Int) + 1)])) l (.lst ((ts.map V.ref).set j (.ref T))) b = some o := fun b o n h => upd_off n (upd_keep nT h)
          refine ⟨_, rfl, sN fun b o n h => keep b o n (upd_keep ne h), ?_⟩
          rw [e1]
          have z := fin T k _ keep (upd_off nlT upd_same) upd_same
          unfold grpS
          rw [ea]
          simp only
          rw [if_pos eq, eq]
          exact z
        · obtain ⟨ts, hl, tl, fin⟩ := pr1.snoc (H' := H') (k := k)
          have lz := lts ts tl
          walk_at "sq go"
          intro T nT
          have nlT : T ≠ l := fun z => nn1 nT hl z.symm
          have hl2 := upd_keep (o := .tup [.int k, .int 1]) nT hl
          walk_at "sq go"
          have keep : ∀ b o, b ≠ l → upd H' e (.lst []) b = some o → upd (upd (upd H' e (.lst [])) T (.tup [.int k, .int 1])) l (.lst (ts.map V.ref ++ [.ref T])) b = some o := fun b o n h => upd_off n (upd_keep nT h)
          refine ⟨_, rfl, sN fun b o n h => keep b o n (upd_keep ne h), ?_⟩
          rw [e1]
          have z := fin T _ keep (upd_off nlT upd_same) upd_same
          unfold grpS
          rw [ea]
          simp only
          rw [if_neg neq]
          exact z
      · obtain ⟨ts, hl, tl, fin⟩ := pr1.snoc (H' := H') (k := k)
        have lz := lts ts tl
        walk_at "sq go"
        intro T nT
        have nlT : T ≠ l := fun z => nn1 nT hl z.symm
        have hl2 := upd_keep (o := .tup [.int k, .int 1]) nT hl
        walk_at "sq go"
        have keep : ∀ b o, b ≠ l → upd H' e (.lst []) b = some o → upd (upd (upd H' e (.lst [])) T (.tup [.int k, .int 1])) l (.lst (ts.map V.ref ++ [.ref T])) b = some o := fun b o n h => upd_off n (upd_keep nT h)
        refine ⟨_, rfl, sN fun b o n h => keep b o n (upd_keep ne h), ?_⟩
        rw [e1]
        have z := fin T _ keep (upd_off nlT upd_same) upd_same
        unfold grpS
        rw [he] at z ⊢
        exact z
    · obtain ⟨x, rfl, s1, pr⟩ := h.o
      walk_at "sq go"
      rw [iv_len, List.take_length] at pr
      exact q l H' s1 nl pr
/-- lists of texts -/
def dS (ws : List (List Nat)) : PyData := .list (ws.map fun w => .str (SX.S w))
theorem dpall_str {H : Hp} : ∀ ws : List (List Nat), DpAll K H (ws.map fun w => V.str (SX.S w)) (ws.map fun w => .str (SX.S w))
  | [] => .nil
  | n :: r => .cons (.str _) (dpall_str r)
theorem can_strs : ∀ ws : List (List Nat), (∀ w ∈ ws, PyData.strOk (SX.S w) = true) → PyData.canLayAll0 (ws.map fun w => .str (SX.S w)) = true
  | [], _ => by simp [PyData.canLayAll0]
  | w :: r, h => by simp [PyData.canLayAll0, PyData.canLay0, h w (List.mem_cons_self ..), can_strs r fun x hx => h x (List.mem_cons_of_mem _ hx)]
theorem dep_strs : ∀ ws : List (List Nat), PyData.depthAll (ws.map fun w => PyData.str (SX.S w)) = 0
  | [] => by simp [PyData.depthAll]
  | w :: r => by simp [PyData.depthAll, PyData.depth, dep_strs r]
theorem shaped_dS {ws : List (List Nat)} (h : ∀ w ∈ ws, PyData.strOk (SX.S w) = true) : SeqAt.shaped (dS ws) = true := by
  unfold SeqAt.shaped dS
  simp only [PyData.canLay0, can_strs ws h, PyData.depth, dep_strs]
  rfl
theorem r_neS0 {H : Hp} {l b : Addr} {ws : List (List Nat)} {Q : VK} (h1 : H l = some (.lst (ws.map fun w => V.str (SX.S w)))) (h2 : H b = some (.lst [])) (hk : ∀ w ∈ ws, PyData.strOk (SX.S w) = true) (q : Q (.bl (!decide (ws = []))) H) : rNeQ K (.ref l) (.ref b) H Q := by
  refine rNeQ_of ⟨dS ws, dI [], .lst (seqL_of h1) (dpall_str ws), dp_iv (seqL_of h2), shaped_dS hk, shaped_dI [], ?_⟩
  have e : PyData.eqv (dS ws) (dI []) = decide (ws = []) := by
    unfold dS dI
    cases ws with
    | nil => simp [PyData.eqv, PyData.eqvAll]
    | cons a r => simp [PyData.eqv, PyData.eqvAll]
  rw [e]
  exact q
local macro_rules | `(tactic| walk_at "sq side") => `(tactic| first
  | ((with_reducible show _ ≤ PySem.sizeLine); assumption)
  | ((with_reducible show _ < 1920); assumption))
theorem num_ok {n c : Nat} (h : c ∈ TL.numL n) : c < 0x110000 := by
  have := TL.numL_digits n c h
  omega
theorem strOk_S {a : List Nat} (h : ∀ c ∈ a, c < 0x110000) : PyData.strOk (SX.S a) = true := by
  unfold PyData.strOk
  rw [Array.all_eq_true_iff_forall_mem]
  intro c hc
  rw [decide_eq_true_eq]
  exact h c (by simpa using hc)
theorem wrd_ok (n t : Nat) : PyData.strOk (SX.S (wrd n t)) = true := strOk_S fun c hc => by
  unfold wrd at hc
  split at hc
  · simp only [List.mem_append, List.mem_cons] at hc
    rcases hc with z | z | z
    · exact num_ok z
    · omega
    · exact num_ok z
  · exact num_ok hc
theorem num_lg {k : Int} (h0 : 0 ≤ k) (h : k < 10 ^ 200) : k.natAbs.log2 < 1920 := Nat.lt_trans ((show Sm 700 k by unfold Sm; omega).lg (by decide)) (by decide)
abbrev s_show_list : Stmt := topS 21
theorem sc_show_list : FnScope ["replacements", "words", "number", "times"] ["replacements"] (defScope s_show_list) := ⟨rfl, rfl, rfl, by decide +kernel, rfl, by decide +kernel, by decide +kernel⟩

def spShow (K : PySem.W.Frag) : Sp := fun vs H Q _ => ∃ (p : Addr) (ns : List Int), vs = [.ref p] ∧ SqL K H p (iv ns) ∧ Keep (NiceW ns) ∧ ∀ H', Same H H' → Q (.str (SX.S (showL ns))) H'
theorem two_show (D : DefAt K mg "show_list" s_show_list ["replacements"]) (B : Bt mg) (tx : TxC mg) (c_equal_neighbours : Cal P w K mg base 1 "equal_neighbours" (spEqN K) []) : Def2 P w K mg base 2 "show_list" s_show_list ["replacements"] (spShow K) := by
  refine D.two sc_show_list (fun vs H Q E h => ?_) (fun f cdv A outer s H vs Q E hr h => ?_)
  · obtain ⟨p, ns, rfl, _⟩ := h
    rfl
  · obtain ⟨p, ns, rfl, hS, ⟨nice⟩, q⟩ := h
    obtain ⟨g_SEPARATOR, g_POWER, g_NO_REPLACEMENTS⟩ := tx
    refine ⟨_, (pss_cons (ps_set (i := 1) sc_show_list.nd rfl (Or.inl rfl) (pe_lst pa_nil))
  (pss_cons (ps_for PassesOwn.never rfl (pi_listK (K := K) (pe_c c_equal_neighbours hr (by first | decide | omega) (by rfl) (pa_cons (pv 0) pa_nil))) (pg_tupK (K := K) (n := 2) rfl (pgs_cons (pg_name (i := 2) sc_show_list.nd rfl (Or.inl rfl)) (pgs_cons (pg_name (i := 3) sc_show_list.nd rfl (Or.inl rfl)) pgs_nil)))
   (pss_one (ps_expr (pe_bm PySem.F.plainAttrs_list PySem.F.slot_list_append PySem.F.type_list_append mt_append (pv 1) (pa_cons (pe_op op_add_str (pe_callTy call_str_int (by rfl) B.str (by decide +kernel) (pa_cons (pv 2) pa_nil)) (pe_ifExp (pt_cmpR op_gt (pv 3) pe_int (nomark _)) (pe_op op_add_str (pe_gc (by rfl) g_POWER) (pe_callTy call_str_int (by rfl) B.str (by decide +kernel) (pa_cons (pv 3) pa_nil))) pe_str)) pa_nil)))))
  (pss_one (ps_ret (pe_ifExp (pt_cmpR (op_neDK (K := K) hr.units) (pv 1) (pe_lst pa_nil) (nomark _)) (pe_join (pe_gc (by rfl) g_SEPARATOR) (pv 1)) (pe_gc (by rfl) g_NO_REPLACEMENTS)))))), ?_⟩
    walk_at "sq go"
    intro W nW
    have sW := same_new (o := .lst []) nW
    have hS0 := sW.seq hS
    walk_at "sq go"
    refine ⟨⟨nice.2.1⟩, fun l H1 s1 nl pr => ?_⟩
    obtain ⟨ts, hl, tl, ht⟩ := id pr
    have hW1 : H1 W = some (.lst []) := s1 _ _ upd_same
    have nlW : l ≠ W := fun z => by
      rw [z, upd_same] at nl
      cases nl
    walk_at "sq go"
    have s2 := sW.trans s1
    refine for_list (K := K) (a := l) (xs := ts.map V.ref) (fun i σ H' => Keep (∃ x y, σ = [some (.ref p), some (.ref W), x, y] ∧ H' = upd H1 W (.lst (((wrds ns).take i).map fun w => .str (SX.S w))))) ⟨none, none, rfl, ?_⟩ (fun i σ H' _ h => ?_) (fun i x σ H' hx h => ?_) (fun σ H' h => ?_)
    · funext b
      by_cases hb : b = W
      · rw [hb, upd_same, hW1]
        rfl
      · rw [upd_ne hb]
    · obtain ⟨x, y, _, rfl⟩ := h.o
      exact seqL_of (upd_off nlW hl)
    · obtain ⟨x1, y1, rfl, rfl⟩ := h.o
      rw [List.getElem?_map] at hx
      obtain ⟨t, et, rfl⟩ := Option.map_eq_some_iff.mp hx
      have li := (List.getElem?_eq_some_iff.mp et).1
      have lg : i < (grp ns).length := by omega
      have ep := List.getElem?_eq_getElem lg
      generalize (grp ns)[i] = pq at ep
      obtain ⟨a, c⟩ := pq
      have htt : H1 t = some (.tup [.int a, .int ((c : Nat) : Int)]) := ht i t (a, c) et ep
      obtain ⟨⟨a2, a200⟩, c1, c500⟩ := nice.grp (a, c) (List.mem_of_getElem? ep)
      simp only at a2 a200 c1 c500
      have lga := num_lg (by omega) a200
      have lgc : ((c : Nat) : Int).natAbs.log2 < 1920 := num_lg (by omega) (by omega)
      have la := num_len (by omega) a200
      have lc := num_len7 c500
      have ewi : (wrds ns)[i]? = some (wrd a.toNat c) := by
        unfold wrds
        rw [List.getElem?_map, ep]
        rfl
      have eta : (((wrds ns).take (i + 1)).map fun w => V.str (SX.S w)) = (((wrds ns).take i).map fun w => V.str (SX.S w)) ++ [.str (SX.S (wrd a.toNat c))] := by
        rw [List.take_add_one, ewi, List.map_append]
        rfl
      have lacc : ((((wrds ns).take i).map fun w => V.str (SX.S w))).length < sizeLine := by
        rw [List.length_map, List.length_take]
        exact lt5 (by have := nice.words.2; omega)
      have ntW : t ≠ W := fun z => by
        rw [z, hW1] at htt
        cases htt
      have htW := upd_off (o := .lst (((wrds ns).take i).map fun w => .str (SX.S w))) ntW htt
      walk_at "sq go"
      refine ifD (fun c2 => ?_) (fun c2 => ?_)
      · have z1 : ("^" : Str).length + (Str.ofString (toString ((c : Nat) : Int))).length ≤ sizeLine := by
          rw [s_pow, s_num (by omega), SX.S_len, SX.S_len, sizeLine_eq, Int.toNat_natCast]
          show 1 + _ ≤ _
          omega
        have z2 : (Str.ofString (toString a)).length + (("^" : Str) ++ Str.ofString (toString ((c : Nat) : Int))).length ≤ sizeLine := by
          rw [s_pow, s_num (by omega), s_num (by omega), SX.S_cat, SX.S_len, SX.S_len, sizeLine_eq, Int.toNat_natCast, List.length_append]
          show _ + (1 + _) ≤ _
          omega
        walk_at "sq go"
        refine ⟨_, _, rfl, ?_⟩
        rw [upd_upd, eta, s_pow, s_num (by omega), s_num (by omega), SX.S_cat, SX.S_cat, Int.toNat_natCast]
        unfold wrd
        rw [if_pos (by omega)]
        rfl
      · have z2 : (Str.ofString (toString a)).length + ("" : Str).length ≤ sizeLine := by
          rw [s_num (by omega), SX.S_len, sizeLine_eq, show ("" : Str).length = 0 from by decide +kernel]
          omega
        walk_at "sq go"
        refine ⟨_, _, rfl, ?_⟩
        rw [upd_upd, eta, s_num (by omega), show ("" : Str) = SX.S [] from by decide +kernel, SX.S_cat, List.append_nil]
        unfold wrd
        rw [if_neg (by omega)]
    · obtain ⟨x1, y1, rfl, rfl⟩ := h.o
      walk_at "sq go"
      intro e ne
      have el : (ts.map V.ref).length = (wrds ns).length := by
        rw [List.length_map, tl]
        unfold wrds
        rw [List.length_map]
      rw [el, List.take_length] at ne ⊢
      have hk : ∀ w ∈ wrds ns, PyData.strOk (SX.S w) = true := fun w hw => by
        obtain ⟨pq, _, rfl⟩ := List.mem_map.mp hw
        exact wrd_ok _ _
      refine r_neS0 (upd_keep ne upd_same) upd_same hk ?_
      walk_at "sq go"
      have s3 : Same H (upd (upd H1 W (.lst ((wrds ns).map fun w => V.str (SX.S w)))) e (.lst [])) := fun b o h => upd_keep ne (by
        rw [upd_ne fun z => by rw [z, nW] at h; cases h]
        exact s2 b o h)
      refine ifN (fun hne => ?_) (fun he => ?_)
      · walk_at "sq go"
        have nn : ns ≠ [] := fun z => hne (by
          subst z
          rfl)
        obtain ⟨w1, w2⟩ := nice.words
        have sl := sum_le w1
        have ml := Nat.mul_le_mul_right 208 w2
        refine ⟨⟨_, rfl⟩, _, rfl, _, W, (wrds ns).map SX.S, rfl, rfl, .inl (seqL_of (upd_keep ne (by rw [List.map_map]; exact upd_same))), ?_, ?_⟩
        · rw [SX.lens, List.length_map, show (", " : Str).length = 2 from by decide +kernel]
          omega
        · rw [s_sep, SX.join_S]
          have z := q _ s3
          unfold showL at z
          rw [if_neg nn] at z
          exact z
      · have z := q _ s3
        have e0 : ns = [] := Classical.byContradiction fun z => wrds_ne z he
        unfold showL at z
        rw [if_pos e0, ← s_none] at z
        exact z

/-! ### any text read, also where it raises -/
structure RdC (mg : Str → Option Value) : Prop where
  dg : ∃ u, mg "DIGITS" = some u ∧ L2.RelV (.str "0123456789") u
  md : ∃ u, mg "MOST_DIGITS" = some u ∧ L2.RelV (.int 200) u
theorem s_digits : ("0123456789" : Str) = SX.S [48, 49, 50, 51, 52, 53, 54, 55, 56, 57] := by decide +kernel
theorem dig_in (c : Nat) : decide (c ∈ [48, 49, 50, 51, 52, 53, 54, 55, 56, 57]) = dig c := by
  unfold dig
  rw [Bool.eq_iff_iff, decide_eq_true_eq, Bool.and_eq_true, decide_eq_true_eq, decide_eq_true_eq]
  simp only [List.mem_cons, List.mem_nil_iff, or_false]
  omega
abbrev s_number_in : Stmt := topS 25
theorem sc_number_in : FnScope ["word", "sign"] ["word"] (defScope s_number_in) := ⟨rfl, rfl, rfl, by decide +kernel, rfl, by decide +kernel, by decide +kernel⟩

def spNumX : Sp := fun vs H Q _ => ∃ t : List Nat, vs = [.str (SX.S t)] ∧ Keep (t.length ≤ 5000 ∧ (numIn t = none → ∀ H', Same H H' → Q .non H') ∧ ∀ n, numIn t = some n → ∀ H', Same H H' → Q (.int ((n : Nat) : Int)) H')
theorem cal_number_in (D : DefAt K mg "number_in" s_number_in ["word"]) (B : Bt mg) (rd : RdC mg) : Cal P w K mg base 1 "number_in" spNumX [] := by
  refine D.cal sc_number_in (fun vs H Q E h => ?_) (fun f cdv A outer s H vs Q E hr h => ?_)
  · obtain ⟨n, rfl, _⟩ := h
    rfl
  · obtain ⟨t, rfl, ⟨len, q0, q1⟩⟩ := h
    obtain ⟨g_DIGITS, g_MOST_DIGITS⟩ := rd
    refine ⟨_, (pss_cons (ps_if (PW.pt (pw_or (pt_not (pt_chain op_le op_le pe_int (pe_callB call_len_str (by rfl) B.len boot_len (pa_cons (pv 0) pa_nil)) (pe_gc (by rfl) g_MOST_DIGITS))) (pw_or1 (pt_not (pt_val (pe_callB (cr_allK (K := K) rfl) (by rfl) B.all (by decide +kernel) (pa_cons (pe_lc (own := [("sign", 1)]) (g := gName 1) (by rfl) sc_number_in.nd (pi_str (pv 0)) (blkOk_by (own := [("sign", 1)]) (N := ["word", "sign"]) (sc := defScope s_number_in) (by decide +kernel)) (fun _ _ _ _ _ => (pg_name (i := 1) sc_number_in.nd rfl (Or.inl rfl))) (fun _ _ _ _ _ => pts_nil) (fun _ _ _ _ _ => (pe_cmpR op_in_str (pv 1) (pe_gc (by rfl) g_DIGITS) (by rfl)))) pa_nil))))))) (pss_one (ps_ret pe_non)) pss_nil)
  (pss_one (ps_ret (pe_callTy call_int_str (by rfl) B.int (by decide +kernel) (pa_cons (pv 0) pa_nil))))), ?_⟩
    have lS : (SX.S t).length = t.length := SX.S_len _
    walk_at "sq go"
    have none_if : ¬ (1 ≤ t.length ∧ t.length ≤ 200 ∧ t.all dig = true) → numIn t = none := fun z => if_neg z
    refine ifD (fun c1 => ?_) (fun c1 => ?_)
    · by_cases c2 : ((SX.S t).length : Int) ≤ 200
      · have d2 : decide (((SX.S t).length : Int) ≤ 200) = true := decide_eq_true c2
        walk_at "sq go"
        rw [d2]
        walk_at "sq go"
        intro D1 nD
        refine lc_it (walk_str (z := SX.S t)) (fun i H' => Keep (H' = upd H D1 (.lst ((t.take i).map fun c => V.bl (dig c))))) ⟨rfl⟩ (fun _ _ _ _ => trivial) (fun i x H1 H2 hi h hy => ?_) (fun H' h => ?_)
        · obtain rfl := h.o
          obtain ⟨rfl, c, hc, rfl⟩ := hy
          have hc2 : t[i]? = some c := by simpa using hc
          have hin : (!(Builtin.Str.occurrences ("0123456789" : Str) (SX.S [c]) 0 ("0123456789" : Str).length 1).isEmpty) = dig c := by
            rw [s_digits]
            exact (SX.in_one _ c).trans (dig_in c)
          have et : ((t.take i).map fun c => V.bl (dig c)) ++ [V.bl (dig c)] = (t.take (i + 1)).map fun c => V.bl (dig c) := by
            rw [List.take_add_one, hc2, List.map_append]
            rfl
          walk_at "sq go"
          rw [show (⟨#[c]⟩ : Str) = SX.S [c] from rfl, hin, upd_upd, et]
          exact ⟨rfl⟩
        · obtain rfl := h.o
          have el : (SX.S t).cps.size = t.length := SX.S_len _
          refine ⟨D1, t.map dig, rfl, seqL_of (by rw [upd_same, el, List.take_length, List.map_map]; rfl), ?_⟩
          rw [el, List.take_length]
          have sD := same_new (o := .lst (t.map fun c => V.bl (dig c))) nD
          have ea : (t.map dig).all id = t.all dig := by simp [List.all_map]
          refine ⟨(t.map dig).all id, rfl, ?_⟩
          rw [ea]
          cases hd : t.all dig with
          | true =>
            walk_at "sq go"
            have hn : numIn t = some (NumText.digitsVal t) := if_pos ⟨by omega, by omega, hd⟩
            refine ⟨SX.int_S hd (fun z => by subst z; exact absurd c1 (by decide)) (by omega), by rw [lS]; omega, q1 _ hn _ sD⟩
          | false =>
            walk_at "sq go"
            exact q0 (none_if fun z => by rw [hd] at z; exact absurd z.2.2 Bool.false_ne_true) _ sD
      · have d2 : decide (((SX.S t).length : Int) ≤ 200) = false := decide_eq_false c2
        walk_at "sq go"
        rw [d2]
        walk_at "sq go"
        exact q0 (none_if fun z => by omega) _ (.refl H)
    · walk_at "sq go"
      exact q0 (none_if fun z => by omega) _ (.refl H)
theorem rep_iv (z : Int) (t : Nat) : (List.replicate t [V.int z]).flatten = iv (List.replicate t z) := by
  induction t with
  | zero => rfl
  | succ n ih => rw [List.replicate_succ, List.flatten_cons, ih]; rfl
abbrev s_numbers_in : Stmt := topS 26
theorem sc_numbers_in : FnScope ["word", "first", "others", "number", "times"] ["word"] (defScope s_numbers_in) := ⟨rfl, rfl, rfl, by decide +kernel, rfl, by decide +kernel, by decide +kernel⟩

def spNumsX : Sp := fun vs H Q _ => ∃ t : List Nat, vs = [.str (SX.S t)] ∧ Keep (t.length ≤ 4100 ∧ (∀ c ∈ t, c < 0x110000) ∧ (∀ ns, numsIn t = some ns → ns.length ≤ 999) ∧ (numsIn t = none → ∀ H', Same H H' → Q .non H') ∧
  ∀ ns, numsIn t = some ns → ∀ l H', Same H H' → H l = none → H' l = some (.lst (iv ns)) → Q (.ref l) H')
theorem cal_numbers_in (D : DefAt K mg "numbers_in" s_numbers_in ["word"]) (B : Bt mg) (tx : TxC mg) (c_number_in : Cal P w K mg base 1 "number_in" spNumX []) : Cal P w K mg base 2 "numbers_in" spNumsX [] := by
  refine D.cal sc_numbers_in (fun vs H Q E h => ?_) (fun f cdv A outer s H vs Q E hr h => ?_)
  · obtain ⟨t, rfl, _⟩ := h
    rfl
  · obtain ⟨t, rfl, ⟨len, chr, few, q0, q1⟩⟩ := h
    obtain ⟨g_SEPARATOR, g_POWER, g_NO_REPLACEMENTS⟩ := tx
    refine ⟨_, (pss_cons (ps_asg (pe_split (pv 0) (pe_gc (by rfl) g_POWER)) (pg_star (K := K) rfl (pgs_cons (pg_name (i := 1) sc_numbers_in.nd rfl (Or.inl rfl)) (pgs_star (pg_name (i := 2) sc_numbers_in.nd rfl (Or.inl rfl)) pgs_nil))))
  (pss_cons (ps_set (i := 3) sc_numbers_in.nd rfl (Or.inl rfl) (pe_c c_number_in hr (by first | decide | omega) (by rfl) (pa_cons (pv 1) pa_nil)))
  (pss_cons (ps_set (i := 4) sc_numbers_in.nd rfl (Or.inl rfl) (pe_ifExp (pt_cmpR (op_neDK (K := K) hr.units) (pv 2) (pe_lst pa_nil) (nomark _)) (pe_c c_number_in hr (by first | decide | omega) (by rfl) (pa_cons (pe_ix (ix_listK (K := K)) (pv 2) pe_int (fun _ _ => rfl)) pa_nil)) pe_int))
  (pss_cons (ps_if (PW.pt (pw_or (pt_cmpR op_isN (pv 3) pe_non (nomark _)) (pw_or (pt_cmpR op_isN (pv 4) pe_non (nomark _)) (pw_or (pt_cmpR op_gt (pe_callB (len_seqK (K := K)) (by rfl) B.len boot_len (pa_cons (pv 2) pa_nil)) pe_int (nomark _)) (pw_or1 (pt_cmpR op_lt (pv 3) pe_int (nomark _))))))) (pss_one (ps_ret pe_non)) pss_nil)
  (pss_one (ps_ret (pe_op op_rep (pe_lst (pa_cons (pv 3) pa_nil)) (pv 4)))))))), ?_⟩
    obtain ⟨f0, o, es0⟩ := spl_ne 94 t
    have es : Txt.split (SX.S t) ("^" : Str) = (f0 :: o).map SX.S := by
      rw [s_pow, SX.split_S (by decide) (by decide), es0]
    have lw : (SX.S t).length + 2 ≤ sizeLine := by
      rw [SX.S_len, sizeLine_eq]
      omega
    have sub : ∀ x ∈ f0 :: o, ∃ a b, t = a ++ x ++ b := fun x hx => spl_in (S := [94]) (by rw [es0]; exact hx)
    have lsub : ∀ x ∈ f0 :: o, x.length ≤ 4100 := fun x hx => by
      obtain ⟨a, b, e⟩ := sub x hx
      have := congrArg List.length e
      rw [List.length_append, List.length_append] at this
      omega
    have csub : ∀ x ∈ f0 :: o, ∀ c ∈ x, c < 0x110000 := fun x hx c hc => by
      obtain ⟨a, b, e⟩ := sub x hx
      refine chr c ?_
      rw [e]
      simp [hc]
    have lo : o.length ≤ 4100 := by
      have := spl_count [94] t 0 []
      rw [es0, List.length_cons] at this
      omega
    walk_at "sq go"
    refine ⟨⟨_, rfl⟩, _, _, rfl, rfl, rfl, lw, fun l nl => ?_⟩
    rw [es]
    have hl : upd H l (.lst (((f0 :: o).map SX.S).map V.str)) l = some (.lst (V.str (SX.S f0) :: (o.map SX.S).map V.str)) := upd_same
    walk_at "sq go"
    refine ⟨by rw [List.length_map, List.length_map]; omega, fun O nO => ?_⟩
    have hO : upd (upd H l (.lst (((f0 :: o).map SX.S).map V.str))) O (.lst ((o.map SX.S).map V.str)) O = some (.lst (o.map fun w => V.str (SX.S w))) := by
      rw [upd_same, List.map_map]
      rfl
    have sO := (same_new (o := .lst (((f0 :: o).map SX.S).map V.str)) nl).trans (same_new (o := .lst ((o.map SX.S).map V.str)) nO)
    have en : numsIn t = (match f0 :: o with
      | [] => none
      | f :: o => match numIn f, (match o with | [] => some 1 | t :: _ => numIn t) with
        | some n, some t => if 1 < o.length ∨ n < 2 then none else some (List.replicate t (n : Int))
        | _, _ => none) := by
      unfold numsIn
      rw [es0] <;> rfl
    simp only at en
    have strO : ∀ w ∈ o, PyData.strOk (SX.S w) = true := fun w hw => strOk_S (csub w (List.mem_cons_of_mem _ hw))
    clear nl
    generalize upd (upd H l (.lst (((f0 :: o).map SX.S).map V.str))) O (.lst ((o.map SX.S).map V.str)) = H0 at *
    have lf0 := lsub f0 (List.mem_cons_self ..)
    -- the rest of the def, the first number known or not
    walk_at "sq go"
    refine ⟨⟨by omega, fun e1 H1 s1 => ?_, fun n1 e1 H1 s1 => ?_⟩⟩
    · have hO1 := s1 _ _ hO
      walk_at "sq go"
      intro e ne
      have hO2 := upd_keep (o := .lst []) ne hO1
      refine r_neS0 (ws := o) hO2 upd_same strO ?_
      have sA := (sO.trans s1).trans (same_new (o := .lst []) ne)
      have bad : numsIn t = none := by
        rw [en, e1]
      walk_at "sq go"
      refine ifN (fun c => ?_) (fun c => ?_)
      · obtain ⟨t1, o1, rfl⟩ : ∃ t1 o1, o = t1 :: o1 := by
          cases o with
          | nil => exact absurd rfl c
          | cons t1 o1 => exact ⟨t1, o1, rfl⟩
        have lt1 := lsub t1 (List.mem_cons_of_mem _ (List.mem_cons_self ..))
        walk_at "sq go"
        refine ⟨atI_nat (j := 0) rfl, ?_⟩
        walk_at "sq go"
        refine ⟨⟨by omega, fun e2 H2 s2 => ?_, fun n2 e2 H2 s2 => ?_⟩⟩
        · walk_at "sq go"
          exact q0 bad _ (sA.trans s2)
        · walk_at "sq go"
          exact q0 bad _ (sA.trans s2)
      · walk_at "sq go"
        exact q0 bad _ sA
    · have hO1 := s1 _ _ hO
      walk_at "sq go"
      intro e ne
      have hO2 := upd_keep (o := .lst []) ne hO1
      refine r_neS0 (ws := o) hO2 upd_same strO ?_
      have sA := (sO.trans s1).trans (same_new (o := .lst []) ne)
      walk_at "sq go"
      refine ifN (fun c => ?_) (fun c => ?_)
      · obtain ⟨t1, o1, rfl⟩ : ∃ t1 o1, o = t1 :: o1 := by
          cases o with
          | nil => exact absurd rfl c
          | cons t1 o1 => exact ⟨t1, o1, rfl⟩
        have lt1 := lsub t1 (List.mem_cons_of_mem _ (List.mem_cons_self ..))
        walk_at "sq go"
        refine ⟨atI_nat (j := 0) rfl, ?_⟩
        walk_at "sq go"
        refine ⟨⟨by omega, fun e2 H2 s2 => ?_, fun n2 e2 H2 s2 => ?_⟩⟩
        · have bad : numsIn t = none := by
            rw [en, e1]
            simp only [e2]
          walk_at "sq go"
          exact q0 bad _ (sA.trans s2)
        · have hO3 := s2 _ _ hO2
          have hen : numsIn t = if 1 < (t1 :: o1).length ∨ n1 < 2 then none else some (List.replicate n2 (n1 : Int)) := by
            rw [en, e1]
            simp only [e2]
          walk_at "sq go"
          refine ifD (fun c1 => ?_) (fun c1 => ?_)
          · walk_at "sq go"
            exact q0 (by rw [hen, if_pos (.inl (by rw [List.length_map] at c1; omega))]) _ (sA.trans s2)
          · walk_at "sq go"
            refine ifD (fun c2 => ?_) (fun c2 => ?_)
            · walk_at "sq go"
              exact q0 (by rw [hen, if_pos (.inr (by omega))]) _ (sA.trans s2)
            · have hs : numsIn t = some (List.replicate n2 (n1 : Int)) := by
                rw [hen, if_neg (by
                  rintro (z | z)
                  · rw [List.length_map] at c1
                    omega
                  · omega)]
              have l9 := few _ hs
              rw [List.length_replicate] at l9
              walk_at "sq go"
              intro e2 ne2
              walk_at "sq go"
              intro p np
              rw [Int.toNat_natCast, rep_iv] at *
              exact q1 _ hs p _ (sA.trans (s2.trans ((same_new ne2).trans (same_new np)))) ((sA.trans (s2.trans (same_new ne2))).free np) upd_same
      · have o0 : o = [] := c
        subst o0
        have hen : numsIn t = if 1 < 0 ∨ n1 < 2 then none else some (List.replicate 1 (n1 : Int)) := by
          rw [en, e1]
          rfl
        walk_at "sq go"
        refine ifD (fun c2 => ?_) (fun c2 => ?_)
        · walk_at "sq go"
          exact q0 (by rw [hen, if_pos (.inr (by omega))]) _ sA
        · have hs : numsIn t = some (List.replicate 1 (n1 : Int)) := by
            rw [hen, if_neg (by omega)]
          walk_at "sq go"
          intro e2 ne2
          walk_at "sq go"
          intro p np
          exact q1 _ hs p _ (sA.trans ((same_new ne2).trans (same_new np))) ((sA.trans (same_new ne2)).free np) upd_same
abbrev s_read_list : Stmt := topS 27
theorem sc_read_list : FnScope ["text", "found", "word", "numbers"] ["text"] (defScope s_read_list) := ⟨rfl, rfl, rfl, by decide +kernel, rfl, by decide +kernel, by decide +kernel⟩

def spReadX (CR : Addr) : Sp := fun vs H Q E => ∃ u : List Nat, vs = [.str (SX.S u)] ∧ Keep (RdOk u ∧ (∀ ns, readR u = some ns → ∀ l H', Same H H' → H l = none → H' l = some (.lst (iv ns)) → Q (.ref l) H') ∧
  (readR u = none → ∀ d H', Same H H' → H' d = some (.xd [("value", .str (SX.S u))]) → E (.ref CR) (some d) H'))
theorem two_readX {CR : Addr} (D : DefAt K mg "read_list" s_read_list ["text"]) (B : Bt mg) (tx : TxC mg) (c_numbers_in : Cal P w K mg base 2 "numbers_in" spNumsX []) (c_show_list : Cal P w K mg base 2 "show_list" (spShow K) []) (c_Unreadable : Rai P w K mg base 1 "Unreadable" CR) : Def2X P w K mg base 4 "read_list" s_read_list ["text"] (spReadX CR) := by
  refine D.twoX sc_read_list (fun vs H Q E h => ?_) (fun f cdv A outer s H vs Q E hr h tk => ?_)
  · obtain ⟨u, rfl, _⟩ := h
    rfl
  · obtain ⟨u, rfl, ⟨ok, q, qe⟩⟩ := h
    obtain ⟨g_SEPARATOR, g_POWER, g_NO_REPLACEMENTS⟩ := tx
    refine ⟨_, (pss_cons (ps_set (i := 1) sc_read_list.nd rfl (Or.inl rfl) (pe_lst pa_nil))
  (pss_cons (ps_for PassesOwn.leaving rfl (pi_listK (K := K) (pe_ifExp (pt_cmpR op_ne (pv 0) (pe_gc (by rfl) g_NO_REPLACEMENTS) (nomark _)) (pe_split (pv 0) (pe_gc (by rfl) g_SEPARATOR)) (pe_lst pa_nil))) (pg_name (i := 2) sc_read_list.nd rfl (Or.inl rfl))
   (pss_cons (ps_set (i := 3) sc_read_list.nd rfl (Or.inl rfl) (pe_c c_numbers_in hr (by first | decide | omega) (by rfl) (pa_cons (pv 2) pa_nil)))
  (pss_cons (ps_if (pt_cmpR op_isN (pv 3) pe_non (nomark _)) (pss_one (ps_rx c_Unreadable hr (by first | decide | omega) (by rfl) tk (pv 0))) pss_nil)
  (pss_one (ps_expr (pe_bm PySem.F.plainAttrs_list PySem.F.slot_list_extend PySem.F.type_list_extend mt_extend (pv 1) (pa_cons (pv 3) pa_nil)))))))
  (pss_cons (ps_if (pt_cmpR op_ne (pe_c c_show_list hr (by first | decide | omega) (by rfl) (pa_cons (pv 1) pa_nil)) (pv 0) (nomark _)) (pss_one (ps_rx c_Unreadable hr (by first | decide | omega) (by rfl) tk (pv 0))) pss_nil)
  (pss_one (ps_ret (pv 1)))))), ?_⟩
    walk_at "sq go"
    intro F nF
    have hF : upd H F (.lst []) F = some (.lst []) := upd_same
    have sF := same_new (o := .lst []) nF
    walk_at "sq go"
    by_cases e0 : u = noneL
    · subst e0
      have er : readR noneL = some [] := by rfl
      refine ifN (fun c => absurd (by rw [s_none]) c) (fun _ => ?_)
      walk_at "sq go"
      intro e ne
      have hF2 := upd_keep (o := .lst []) ne hF
      have he0 : upd (upd H F (.lst [])) e (.lst []) e = some (.lst []) := upd_same
      walk_at "sq go"
      refine for_list (K := K) (a := e) (xs := []) (fun i σ H' => Keep (σ = [some (.str (SX.S noneL)), some (.ref F), none, none] ∧ H' = upd (upd H F (.lst [])) e (.lst []))) ⟨rfl, rfl⟩ (fun i σ H' _ h => ?_) (fun i x σ H' hx h => ?_) (fun σ H' h => ?_)
      · obtain ⟨_, rfl⟩ := h.o
        exact seqL_of upd_same
      · cases hx
      · obtain ⟨rfl, rfl⟩ := h.o
        have hF3 : SqL K (upd (upd H F (.lst [])) e (.lst [])) F (iv []) := seqL_of hF2
        walk_at "sq go"
        refine ⟨⟨(fun k hk => nomatch hk), by decide, by decide⟩, fun H2 s2 => ?_⟩
        walk_at "sq go"
        exact q [] er F _ (sF.trans ((same_new ne).trans s2)) nF (s2 _ _ hF2)
    · have hd : decide (V.str (SX.S u) = V.str ("none" : Str)) = false := decide_eq_false fun z => by
        rw [s_none] at z
        exact e0 (SX.S_inj (V.str.inj z))
      rw [hd]
      have ew0 : wordsOf u = TL.spl [44, 32] 0 [] u := if_neg e0
      have es : Txt.split (SX.S u) (", " : Str) = (wordsOf u).map SX.S := by
        rw [s_sep, SX.split_S (by decide) (by decide), ew0]
      have lw : (SX.S u).length + 2 ≤ sizeLine := by
        have := ok.1
        rw [SX.S_len, sizeLine_eq]
        omega
      walk_at "sq go"
      refine ⟨⟨_, rfl⟩, _, _, rfl, rfl, rfl, lw, fun L nL => ?_⟩
      rw [es]
      have hL : upd (upd H F (.lst [])) L (.lst (((wordsOf u).map SX.S).map V.str)) L = some (.lst (((wordsOf u).map SX.S).map V.str)) := upd_same
      have hF2 := upd_keep (o := .lst (((wordsOf u).map SX.S).map V.str)) nL hF
      have nLF : L ≠ F := fun z => by
        rw [z, hF] at nL
        cases nL
      have sL : ∀ {G : Hp}, But F (upd (upd H F (.lst [])) L (.lst (((wordsOf u).map SX.S).map V.str))) G → Same H G := fun b c x e => by
        have ncF : c ≠ F := fun z => by
          rw [z, nF] at e
          cases e
        exact b _ _ ncF (upd_keep nL (by rw [upd_ne ncF]; exact e))
      walk_at "sq go"
      refine for_list (K := K) (a := L) (xs := ((wordsOf u).map SX.S).map V.str) (fun i σ H' => Keep (∃ x y a, σ = [some (.str (SX.S u)), some (.ref F), x, y] ∧ But F (upd (upd H F (.lst [])) L (.lst (((wordsOf u).map SX.S).map V.str))) H' ∧ i ≤ (wordsOf u).length ∧ numsAll ((wordsOf u).take i) = some a ∧ H' F = some (.lst (iv a)))) ⟨none, none, [], rfl, .refl _ _, Nat.zero_le _, rfl, hF2⟩ (fun i σ H' _ h => ?_) (fun i x σ H' hx h => ?_) (fun σ H' h => ?_)
      · obtain ⟨_, _, _, _, b, _⟩ := h.o
        exact seqL_of (b _ _ nLF hL)
      · obtain ⟨x1, y1, a, rfl, b, hi, ea, hFi⟩ := h.o
        rw [List.getElem?_map, List.getElem?_map] at hx
        obtain ⟨w0, ew, rfl⟩ := Option.map_eq_some_iff.mp hx
        obtain ⟨w, ew2, rfl⟩ := Option.map_eq_some_iff.mp ew
        have iw : ∃ x y, u = x ++ w ++ y := words_in (List.mem_of_getElem? ew2)
        have hi1 : i + 1 ≤ (wordsOf u).length := (List.getElem?_eq_some_iff.mp ew2).1
        have et := nums_take ew2 ea
        have lwd : w.length ≤ 4100 := by
          obtain ⟨x, y, e⟩ := iw
          have l := ok.1
          have := congrArg List.length e
          rw [List.length_append, List.length_append] at this
          omega
        have cwd : ∀ c ∈ w, c < 0x110000 := fun c hc => by
          obtain ⟨x, y, e⟩ := iw
          refine ok.2.1 c ?_
          rw [e]
          simp [hc]
        walk_at "sq go"
        refine ⟨⟨lwd, cwd, fun ns e => ?_, fun e H1 s1 => ?_, fun ns e l H1 s1 nl hl => ?_⟩⟩
        · obtain ⟨n, t, rfl, t9, _⟩ := nums_of ok iw e
          rw [List.length_replicate]
          exact t9
        · walk_at "sq go"
          intro d nd
          refine qe ?_ d _ ((sL b).trans (s1.trans (same_new nd))) upd_same
          unfold readR
          rw [nums_bad e (List.mem_of_getElem? ew2)]
        · have hF3 := s1 _ _ hFi
          rw [e] at et
          have nw := nums_niceW ok hi1 et
          have la : (iv a).length + (iv ns).length ≤ sizeLine := by
            have := nw.1.2.1
            rw [List.length_append] at this
            rw [iv_len, iv_len, sizeLine_eq]
            omega
          walk_at "sq go"
          refine ⟨_, _, a ++ ns, rfl, b.trans ((But.of s1).trans But.put), hi1, et, ?_⟩
          rw [upd_same]
          simp
      · obtain ⟨x1, y1, a, rfl, b, hi, ea, hFi⟩ := h.o
        have eg : (wordsOf u).take (((wordsOf u).map SX.S).map V.str).length = wordsOf u := by
          refine List.take_of_length_le ?_
          simp
        rw [eg] at ea
        have nw := (nums_niceW ok (Nat.le_refl _) (by rw [List.take_length]; exact ea)).1
        have er : readR u = if showL a = u then some a else none := by
          unfold readR
          rw [ea]
        walk_at "sq go"
        refine ⟨⟨nw⟩, fun H2 s2 => ?_⟩
        walk_at "sq go"
        refine ifN (fun c => ?_) (fun c => ?_)
        · walk_at "sq go"
          intro d nd
          refine qe ?_ d _ ((sL b).trans (s2.trans (same_new nd))) upd_same
          rw [er, if_neg fun z => c (by rw [z])]
        · walk_at "sq go"
          refine q a ?_ F _ ((sL b).trans s2) nF (s2 _ _ hFi)
          rw [er, if_pos (SX.S_inj (V.str.inj c))]

local macro_rules | `(tactic| walk_at "sq side") => `(tactic| first
  | ((with_reducible show _ ≤ PySem.sizeLine); assumption)
  | ((with_reducible show _ < 1920); assumption)
  | ((with_reducible show _[_]? = some _); assumption))
/-- a character of a text made here: no backquote -/
def Gd (x : Nat) : Prop := x < 128 ∧ x ≠ 96
theorem pickL {l : List Int} {w : Int} {P : Int → Prop} (hp : ∀ v ∈ l, P v) (h0 : 0 ≤ w) (h1 : w < l.length) : ∃ v, atI (iv l) w = some (.int v) ∧ P v := by
  have lt : w.toNat < l.length := by omega
  refine ⟨l[w.toNat], ?_, hp _ (List.getElem_mem lt)⟩
  have := atI_nat (j := w.toNat) (show (iv l)[w.toNat]? = some (V.int l[w.toNat]) by simp [iv, lt])
  rw [Int.toNat_of_nonneg h0] at this
  exact this
theorem pickC {l : List Nat} {w : Int} {P : Nat → Prop} (hp : ∀ v ∈ l, P v) (h0 : 0 ≤ w) (h1 : w < l.length) : ∃ v, atI (SX.S l).cps.toList w = some v ∧ P v := by
  have lt : w.toNat < l.length := by omega
  refine ⟨l[w.toNat], ?_, hp _ (List.getElem_mem lt)⟩
  have := atI_nat (j := w.toNat) (show (SX.S l).cps.toList[w.toNat]? = some l[w.toNat] by simp [SX.S, lt])
  rw [Int.toNat_of_nonneg h0] at this
  exact this
/-- the characters beside others -/
def twK : List (Key × V) := [(.inr "a", .str "A"), (.inr "A", .str "a"), (.inr "x", .str "X"), (.inr "Z", .str "z"), (.inr ".", .str ","), (.inr "-", .str "~")]
def GdV (v : V) : Prop := ∃ t, v = .str (SX.S [t]) ∧ Gd t
theorem merge_all {p : V → Prop} : ∀ (more kvs : List (Key × V)), (∀ x ∈ kvs, p x.2) → (∀ x ∈ more, p x.2) → ∀ x ∈ mergeK kvs more, p x.2
  | [], kvs, h, _ => h
  | m :: r, kvs, h, h2 => by
    refine merge_all r (putK kvs m.1 m.2) (fun x hx => ?_) fun x hx => h2 x (List.mem_cons_of_mem _ hx)
    have hm := h2 m (List.mem_cons_self ..)
    unfold putK at hx
    split at hx
    · obtain ⟨y, hy, rfl⟩ := List.mem_map.mp hx
      split
      · exact hm
      · exact h y hy
    · rcases List.mem_append.mp hx with z | z
      · exact h x z
      · rw [List.mem_singleton.mp z]
        exact hm
theorem tw_get (k : Key) : ∃ t, (valV (mergeK [] twK) k).getD (.str ".") = .str (SX.S [t]) ∧ Gd t := by
  have all : ∀ x ∈ mergeK [] twK, GdV x.2 := merge_all twK [] (fun x z => nomatch z) (by
    unfold twK
    simp only [List.mem_cons, List.mem_nil_iff, or_false, forall_eq_or_imp, forall_eq]
    exact ⟨⟨65, by congr 1, by decide, by decide⟩, ⟨97, by congr 1, by decide, by decide⟩, ⟨88, by congr 1, by decide, by decide⟩, ⟨122, by congr 1, by decide, by decide⟩, ⟨44, by congr 1, by decide, by decide⟩, ⟨126, by congr 1, by decide, by decide⟩⟩)
  cases e : valV (mergeK [] twK) k with
  | none => exact ⟨46, by show V.str _ = _; congr 1, by decide, by decide⟩
  | some v =>
    unfold valV at e
    obtain ⟨p, hp, rfl⟩ := Option.map_eq_some_iff.mp e
    obtain ⟨t, h1, h2⟩ := all p (List.mem_of_find?_eq_some hp)
    exact ⟨t, h1, h2⟩
theorem ltW3 {n : Nat} (h : n ≤ 5000) : n < sizeLine := by
  rw [sizeLine_eq]
  omega
abbrev s_law_piece : Stmt := topS 32
theorem sc_law_piece : FnScope ["rng", "sign", "most"] ["rng", "sign", "most"] (defScope s_law_piece) := ⟨rfl, rfl, rfl, by decide +kernel, rfl, by decide +kernel, by decide +kernel⟩

def spPiece : Sp := fun vs H Q _ => ∃ (r : Addr) (c : Nat) (most N : Int) (G : Hp), vs = [.ref r, .str (SX.S [c]), .int most] ∧ Sep (rg3 r N) G H ∧ Keep (0 < most ∧ most ≤ 2000 ∧ N < 2 ^ 59) ∧ ∀ (j : Nat) H', 1 ≤ j → j ≤ 2000 → Sep (rg3 r (N + 2)) G H' → Q (.str (SX.S (List.replicate j c))) H'
theorem cal_piece (D : DefAt K mg "_law_piece" s_law_piece ["rng", "sign", "most"]) (B : Bt mg) (c_law_draw : Cal P w K mg base 1 "_law_draw" spDraw3 []) : Cal P w K mg base 2 "_law_piece" spPiece [] := by
  refine D.cal sc_law_piece (fun vs H Q E h => ?_) (fun f cdv A outer s H vs Q E hr h => ?_)
  · obtain ⟨r, c, most, N, G, rfl, _⟩ := h
    rfl
  · obtain ⟨r, c, most, N, G, rfl, hS, ⟨m0, m1, hN⟩, q⟩ := h
    refine ⟨_, (pss_one (ps_ret (pe_op op_rep_strL (pv 1) (pe_op op_add pe_int (pe_c c_law_draw hr (by first | decide | omega) (by rfl) (pa_cons (pv 0) (pa_cons (pe_ix (ix_listK (K := K)) (pe_lst (pa_cons pe_int (pa_cons pe_int (pa_cons pe_int (pa_cons (pv 2) pa_nil))))) (pe_c c_law_draw hr (by first | decide | omega) (by rfl) (pa_cons (pv 0) (pa_cons pe_int pa_nil))) (fun _ _ => rfl)) pa_nil))))))), ?_⟩
    walk_at "sq go"
    intro e ne
    have ge := hS.free ne
    have hS1 := hS.new ne (.lst (iv [3, 12, 60, most]))
    walk_at "sq go"
    refine ⟨⟨by decide, by decide, by omega⟩, fun y H1 y0 y1 hS2 => ?_⟩
    have he : H1 e = some (.lst (iv [3, 12, 60, most])) := hS2.get upd_same
    obtain ⟨v, ev, v0, v1⟩ := pickL (l := [3, 12, 60, most]) (w := y) (P := fun v => 0 < v ∧ v ≤ 2000) (by simp; omega) y0 (by simpa using y1)
    have hS3 := hS2.weak (same_new (o := .lst (iv [3, 12, 60, most])) ge)
    walk_at "sq go"
    refine ⟨⟨by omega, by omega, by omega⟩, fun j H2 j0 j1 hS4 => ?_⟩
    have lj : ([c] : List Nat).length * (1 + j).toNat ≤ 10000000 := by
      show 1 * _ ≤ _
      omega
    walk_at "sq go"
    rw [repL_one]
    exact q _ _ (by omega) (by omega) (Sep3.mono hS4 (by omega))
abbrev s_law_written : Stmt := topS 33
theorem sc_law_written : FnScope ["rng", "sign", "most", "others", "found", "twin", "turn", "way"] ["rng", "sign", "most"] (defScope s_law_written) := ⟨rfl, rfl, rfl, by decide +kernel, rfl, by decide +kernel, by decide +kernel⟩

def spWritten : Sp := fun vs H Q _ => ∃ (r : Addr) (c : Nat) (most N : Int) (G : Hp), vs = [.ref r, .str (SX.S [c]), .int most] ∧ Sep (rg3 r N) G H ∧ Keep (Gd c ∧ 0 < most ∧ most ≤ 2000 ∧ N < 2 ^ 58) ∧ ∀ (u : List Nat) H', u.length ≤ most.toNat → (∀ x ∈ u, Gd x) → Sep (rg3 r (N + 400)) G H' → Q (.str (SX.S u)) H'
theorem cal_written (D : DefAt K mg "_law_written" s_law_written ["rng", "sign", "most"]) (B : Bt mg) (c_law_draw : Cal P w K mg base 1 "_law_draw" spDraw3 []) (c_law_piece : Cal P w K mg base 2 "_law_piece" spPiece []) : Cal P w K mg base 3 "_law_written" spWritten [] := by
  refine D.cal sc_law_written (fun vs H Q E h => ?_) (fun f cdv A outer s H vs Q E hr h => ?_)
  · obtain ⟨r, c, most, N, G, rfl, _⟩ := h
    rfl
  · obtain ⟨r, c, most, N, G, rfl, hS, ⟨hc, m0, m1, hN⟩, q⟩ := h
    refine ⟨_, (pss_cons (ps_asg (pe_tup (pa_cons pe_str (pa_cons pe_str pa_nil))) (pg_tupK (K := K) (n := 2) rfl (pgs_cons (pg_name (i := 3) sc_law_written.nd rfl (Or.inl rfl)) (pgs_cons (pg_name (i := 4) sc_law_written.nd rfl (Or.inl rfl)) pgs_nil))))
  (pss_cons (ps_set (i := 5) sc_law_written.nd rfl (Or.inl rfl) (pe_dget2 (hu_of hr) (pe_disp (pps_cons pe_str pe_str (pps_cons pe_str pe_str (pps_cons pe_str pe_str (pps_cons pe_str pe_str (pps_cons pe_str pe_str (pps_cons pe_str pe_str pps_nil)))))) rfl rfl (List.cons_ne_nil _ _) (by decide)) (pv 1) pe_str ⟨rfl, rfl, rfl, rfl⟩))
  (pss_cons (ps_for PassesOwn.never rfl (pi_range1 (by rfl) B.range (pa_cons (pe_c c_law_draw hr (by first | decide | omega) (by rfl) (pa_cons (pv 0) (pa_cons (pe_ix (ix_listK (K := K)) (pe_lst (pa_cons pe_int (pa_cons pe_int (pa_cons pe_int pa_nil)))) (pe_c c_law_draw hr (by first | decide | omega) (by rfl) (pa_cons (pv 0) (pa_cons pe_int pa_nil))) (fun _ _ => rfl)) pa_nil))) pa_nil)) (pg_name (i := 6) sc_law_written.nd rfl (Or.inl rfl))
   (pss_cons (ps_set (i := 7) sc_law_written.nd rfl (Or.inl rfl) (pe_c c_law_draw hr (by first | decide | omega) (by rfl) (pa_cons (pv 0) (pa_cons pe_int pa_nil))))
  (pss_one (ps_if (pt_cmpR op_lt (pv 7) pe_int (nomark _)) (pss_one (ps_set (i := 4) sc_law_written.nd rfl (Or.inl rfl) (pe_op op_add_str (pv 4) (pe_c c_law_piece hr (by first | decide | omega) (by rfl) (pa_cons (pv 0) (pa_cons (pv 1) (pa_cons (pv 2) pa_nil))))))) (pss_one (ps_set (i := 4) sc_law_written.nd rfl (Or.inl rfl) (pe_op op_add_str (pv 4) (pe_c c_law_piece hr (by first | decide | omega) (by rfl) (pa_cons (pv 0) (pa_cons (pe_ix (ix_listK (K := K)) (pe_lst (pa_cons (pv 5) (pa_cons (pe_ix ix_str (pv 3) (pe_c c_law_draw hr (by first | decide | omega) (by rfl) (pa_cons (pv 0) (pa_cons (pe_callB call_len_str (by rfl) B.len boot_len (pa_cons (pv 3) pa_nil)) pa_nil))) (fun _ _ => rfl)) pa_nil))) (pe_op op_sub (pv 7) pe_int) (fun _ _ => rfl)) (pa_cons pe_int pa_nil)))))))))))
  (pss_one (ps_ret (pe_slice sl_str (pv 4) po_none (po_some (pv 2)))))))), ?_⟩
    walk_at "sq go"
    intro e1 ne1
    walk_at "sq go"
    intro D nD
    walk_at "sq go"
    all_goals try exact twK
    refine ⟨rfl, by decide, ?_⟩
    obtain ⟨tw, etw, gtw⟩ := tw_get (.inr (SX.S [c]))
    have eD : upd (upd (upd H e1 (.tup [.str "abcAX .,-~!0Zz*^$\\[](){}?+|/\"'", .str ""])) D (.dK [])) D (.dK (mergeK [] twK)) D = some (.dK (mergeK [] twK)) := upd_same
    have sD : Same H (upd (upd (upd H e1 (.tup [.str "abcAX .,-~!0Zz*^$\\[](){}?+|/\"'", .str ""])) D (.dK [])) D (.dK (mergeK [] twK))) := by
      rw [upd_upd]
      exact (same_new ne1).trans (same_new nD)
    generalize upd (upd (upd H e1 (.tup [.str "abcAX .,-~!0Zz*^$\\[](){}?+|/\"'", .str ""])) D (.dK [])) D (.dK (mergeK [] twK)) = HD at eD sD ⊢
    walk_at "sq go"
    refine ⟨.inl ⟨_, .inl eD⟩, ?_⟩
    walk_at "sq go"
    all_goals try exact valV (mergeK [] twK) (.inr (SX.S [c]))
    refine ⟨DGet.k (k := .inr (SX.S [c])) eD, ?_⟩
    rw [etw]
    have hS1 := hS.on sD
    walk_at "sq go"
    intro e2 ne2
    have ge2 := hS1.free ne2
    have hS2 := hS1.new ne2 (.lst (iv [4, 20, 60]))
    walk_at "sq go"
    refine ⟨⟨by decide, by decide, by omega⟩, fun y H1 y0 y1 hS3 => ?_⟩
    have he : H1 e2 = some (.lst (iv [4, 20, 60])) := hS3.get upd_same
    obtain ⟨v, ev, v0, v1⟩ := pickL (l := [4, 20, 60]) (w := y) (P := fun v => 0 < v ∧ v ≤ 60) (by simp) y0 (by simpa using y1)
    have hS4 := hS3.weak (same_new (o := .lst (iv [4, 20, 60])) ge2)
    walk_at "sq go"
    refine ⟨⟨by omega, by omega, by omega⟩, fun n H2 n0 n1 hS5 => ?_⟩
    walk_at "sq go"
    refine for_range (lo := 0) (n := n.toNat) (fun i σ H' => Keep (∃ u x6 x7, σ = [some (.ref r), some (.str (SX.S [c])), some (.int most), some (.str "abcAX .,-~!0Zz*^$\\[](){}?+|/\"'"), some (.str (SX.S u)), some (.str (SX.S [tw])), x6, x7] ∧ Sep (rg3 r (N + 2 + 6 * i)) G H' ∧ u.length ≤ 2000 * i ∧ ∀ x ∈ u, Gd x)) ⟨[], _, _, rfl, Sep3.mono hS5 (by omega), Nat.zero_le _, fun x z => nomatch z⟩ (fun i σ H' hi h => ?_) (fun σ H' h => ?_)
    · obtain ⟨u, x6, x7, rfl, hs, lu, gu⟩ := h.o
      walk_at "sq go"
      refine ⟨⟨by decide, by decide, by omega⟩, fun way H3 w0 w1 hs1 => ?_⟩
      walk_at "sq go"
      have i60 : i < 60 := by omega
      have n0 : (SX.S u).length = u.length := SX.S_len u
      refine ifD (fun c2 => ?_) (fun c2 => ?_)
      · walk_at "sq go"
        refine ⟨⟨m0, m1, by omega⟩, fun j H4 j1 j2 hs2 => ?_⟩
        have z1 : (SX.S u).length + (SX.S (List.replicate j c)).length ≤ sizeLine := by
          rw [SX.S_len, SX.S_len, List.length_replicate, sizeLine_eq]
          omega
        walk_at "sq go"
        rw [SX.S_cat]
        refine ⟨u ++ List.replicate j c, _, _, rfl, Sep3.mono hs2 (by omega), by simp; omega, fun x hx => ?_⟩
        rcases List.mem_append.mp hx with z | z
        · exact gu x z
        · rw [List.eq_of_mem_replicate z]
          exact hc
      · have hoth : ("abcAX .,-~!0Zz*^$\\[](){}?+|/\"'" : Str) = SX.S [97, 98, 99, 65, 88, 32, 46, 44, 45, 126, 33, 48, 90, 122, 42, 94, 36, 92, 91, 93, 40, 41, 123, 125, 63, 43, 124, 47, 34, 39] := by decide +kernel
        have loth : (("abcAX .,-~!0Zz*^$\\[](){}?+|/\"'" : Str).length : Int) = 30 := by rw [hoth, SX.S_len]; rfl
        walk_at "sq go"
        rw [loth]
        refine ⟨⟨by decide, by decide, by omega⟩, fun o H4 o0 o1 hs2 => ?_⟩
        obtain ⟨oc, eo, go⟩ := pickC (l := [97, 98, 99, 65, 88, 32, 46, 44, 45, 126, 33, 48, 90, 122, 42, 94, 36, 92, 91, 93, 40, 41, 123, 125, 63, 43, 124, 47, 34, 39]) (w := o) (P := Gd) (by unfold Gd; decide) o0 (by simpa using o1)
        rw [← hoth] at eo
        have lO : ("abcAX .,-~!0Zz*^$\\[](){}?+|/\"'" : Str).length ≤ sizeLine := by
          rw [hoth, SX.S_len]
          exact Nat.le_of_ble_eq_true rfl
        walk_at "sq go"
        intro e3 ne3
        have hs3 := hs2.on (same_new (o := .lst [.str (SX.S [tw]), .str ⟨#[oc]⟩]) ne3)
        obtain ⟨t, et, gt⟩ : ∃ t, atI [V.str (SX.S [tw]), V.str ⟨#[oc]⟩] (way - 2) = some (V.str (SX.S [t])) ∧ Gd t := by
          rcases (show way = 2 ∨ way = 3 by omega) with rfl | rfl
          · exact ⟨tw, rfl, gtw⟩
          · exact ⟨oc, rfl, go⟩
        walk_at "sq go"
        refine ⟨⟨by decide, by decide, by omega⟩, fun j H5 j1 j2 hs4 => ?_⟩
        have z1 : (SX.S u).length + (SX.S (List.replicate j t)).length ≤ sizeLine := by
          rw [SX.S_len, SX.S_len, List.length_replicate, sizeLine_eq]
          omega
        walk_at "sq go"
        rw [SX.S_cat]
        refine ⟨u ++ List.replicate j t, _, _, rfl, Sep3.mono hs4 (by omega), by simp; omega, fun x hx => ?_⟩
        rcases List.mem_append.mp hx with z | z
        · exact gu x z
        · rw [List.eq_of_mem_replicate z]
          exact gt
    · obtain ⟨u, x6, x7, rfl, hs, lu, gu⟩ := h.o
      walk_at "sq go"
      have i60 : n.toNat ≤ 60 := by omega
      refine ⟨by rw [SX.S_len, sizeLine_eq]; omega, ?_⟩
      rw [show cutS (SX.S u) none (some most) = SX.S (u.take most.toNat) by rw [C8.cutS_slice, SX.slice_to (by omega)]]
      exact q _ _ (by simp; omega) (fun x hx => gu x (List.mem_of_mem_take hx)) (Sep3.mono hs (by omega))
abbrev s_law_replaced : Stmt := topS 34
theorem sc_law_replaced : FnScope ["written", "sign", "number", "found", "group", "one"] ["written", "sign", "number"] (defScope s_law_replaced) := ⟨rfl, rfl, rfl, by decide +kernel, rfl, by decide +kernel, by decide +kernel⟩

def spRepl : Sp := fun vs H Q _ => ∃ (u : List Nat) (c : Nat) (k : Int), vs = [.str (SX.S u), .str (SX.S [c]), .int k] ∧ Keep (u.length ≤ 2000 ∧ 2 ≤ k) ∧ ∀ H', Same H H' → Q (.str (SX.S (sqT c [k] u))) H'
theorem cal_repl (D : DefAt K mg "_law_replaced" s_law_replaced ["written", "sign", "number"]) (B : Bt mg) : Cal P w K mg base 1 "_law_replaced" spRepl [] := by
  refine D.cal sc_law_replaced (fun vs H Q E h => ?_) (fun f cdv A outer s H vs Q E hr h => ?_)
  · obtain ⟨u, c, k, rfl, _⟩ := h
    rfl
  · obtain ⟨u, c, k, rfl, ⟨lu, k2⟩, q⟩ := h
    refine ⟨_, (pss_cons (ps_asg (pe_tup (pa_cons pe_str (pa_cons pe_str pa_nil))) (pg_tupK (K := K) (n := 2) rfl (pgs_cons (pg_name (i := 3) sc_law_replaced.nd rfl (Or.inl rfl)) (pgs_cons (pg_name (i := 4) sc_law_replaced.nd rfl (Or.inl rfl)) pgs_nil))))
  (pss_cons (ps_for PassesOwn.never rfl (pi_str (pv 0)) (pg_name (i := 5) sc_law_replaced.nd rfl (Or.inl rfl))
   (pss_cons (ps_set (i := 4) sc_law_replaced.nd rfl (Or.inl rfl) (pe_ifExp (pt_cmpR op_eq (pv 5) (pv 1) (nomark _)) (pe_op op_add_str (pv 4) (pv 5)) pe_str))
  (pss_cons (ps_set (i := 3) sc_law_replaced.nd rfl (Or.inl rfl) (pe_op op_add_str (pv 3) (pv 5)))
  (pss_one (ps_if (pt_cmpR op_eq (pe_callB call_len_str (by rfl) B.len boot_len (pa_cons (pv 4) pa_nil)) (pv 2) (nomark _)) (pss_one (ps_par (i := 3) (j := 4) rfl sc_law_replaced.nd rfl rfl (by decide) rfl rfl (pa_cons (pe_op op_add_str (pe_slice sl_str (pv 3) po_none (po_some (pe_op op_sub (pe_callB call_len_str (by rfl) B.len boot_len (pa_cons (pv 3) pa_nil)) (pv 2)))) (pv 1)) (pa_cons pe_str pa_nil)) (by rfl))) pss_nil)))))
  (pss_one (ps_ret (pv 3))))), ?_⟩
    walk_at "sq go"
    intro e1 ne1
    walk_at "sq go"
    obtain ⟨kn, rfl⟩ := Int.eq_ofNat_of_zero_le (show 0 ≤ k by omega)
    refine for_str (u := u) (fun i σ H' => Keep (∃ x5, σ = [some (.str (SX.S u)), some (.str (SX.S [c])), some (.int (kn : Nat)), some (.str (SX.S (rp c kn (u.take i)).1)), some (.str (SX.S (List.replicate (rp c kn (u.take i)).2 c))), x5] ∧ Same H H' ∧ (rp c kn (u.take i)).1.length ≤ i ∧ (rp c kn (u.take i)).2 ≤ i ∧ (rp c kn (u.take i)).2 ≤ (rp c kn (u.take i)).1.length)) ⟨_, rfl, same_new ne1, Nat.zero_le _, Nat.zero_le _, Nat.zero_le _⟩ (fun i x σ H' hx h => ?_) (fun σ H' h => ?_)
    · obtain ⟨x5, rfl, sH, l1, l2, l3⟩ := h.o
      have li := (List.getElem?_eq_some_iff.mp hx).1
      have er := rp_take (c := c) (k := kn) hx
      generalize rp c kn (u.take i) = s at er l1 l2 l3
      obtain ⟨fd, g⟩ := s
      have lf : fd.length ≤ i := l1
      have lg : g ≤ i := l2
      have lgf : g ≤ fd.length := l3
      have z1 : (SX.S (List.replicate g c)).length + (SX.S [x]).length ≤ sizeLine := by
        rw [SX.S_len, SX.S_len, List.length_replicate, sizeLine_eq]
        show g + 1 ≤ _
        omega
      have z2 : (SX.S fd).length + (SX.S [x]).length ≤ sizeLine := by
        rw [SX.S_len, SX.S_len, sizeLine_eq]
        show fd.length + 1 ≤ _
        omega
      by_cases ex : x = c
      · subst ex
        have ex2 : decide (V.str (SX.S [x]) = V.str (SX.S [x])) = true := decide_eq_true rfl
        walk_at "sq go"
        rw [ex2]
        walk_at "sq go"
        have eg : SX.S (List.replicate g x) ++ SX.S [x] = SX.S (List.replicate (g + 1) x) := by rw [SX.S_cat, List.replicate_succ']
        have ef : SX.S fd ++ SX.S [x] = SX.S (fd ++ [x]) := SX.S_cat _ _
        show (SX.S (List.replicate g x) ++ SX.S [x]).length ≤ sizeLine ∧ _
        rw [eg, ef]
        refine ⟨by rw [SX.S_len, List.length_replicate, sizeLine_eq]; omega, ?_⟩
        rw [SX.S_len, List.length_replicate]
        walk_at "sq go"
        have eR : ∀ h : g + 1 = kn, rpS x kn (fd, g) x = ((fd ++ [x]).take ((fd ++ [x]).length - kn) ++ [x], 0) := fun h => by
          simp [rpS, h]
        have eN : ∀ h : ¬ g + 1 = kn, rpS x kn (fd, g) x = (fd ++ [x], g + 1) := fun h => by
          simp [rpS, h]
        refine ifI (fun z => ?_) (fun z => ?_)
        · have z : g + 1 = kn := by omega
          have elen : (SX.S (fd ++ [x])).length = fd.length + 1 := by
            rw [SX.S_len]
            simp
          have ecut : cutS (SX.S (fd ++ [x])) none (some (((SX.S (fd ++ [x])).length : Int) - (kn : Nat))) = SX.S ((fd ++ [x]).take ((fd ++ [x]).length - kn)) := by
            rw [C8.cutS_slice, SX.slice_to (by omega)]
            congr 2
            rw [elen]
            simp
          have l2 : (SX.S (fd ++ [x])).length ≤ sizeLine := by
            rw [elen, sizeLine_eq]
            omega
          have l4 : (cutS (SX.S (fd ++ [x])) none (some (((SX.S (fd ++ [x])).length : Int) - (kn : Nat)))).length + (SX.S [x]).length ≤ sizeLine := by
            rw [ecut, SX.S_len, SX.S_len, sizeLine_eq, List.length_take]
            simp
            omega
          walk_at "sq go"
          refine ⟨some (.str (SX.S [x])), ?_, sH, ?_, ?_, ?_⟩
          · rw [er, eR z, ecut, SX.S_cat]
            rfl
          · rw [er, eR z]
            simp
            omega
          · rw [er, eR z]
            exact Nat.zero_le _
          · rw [er, eR z]
            exact Nat.zero_le _
        · have z : ¬ g + 1 = kn := by omega
          walk_at "sq go"
          refine ⟨some (.str (SX.S [x])), ?_, sH, ?_, ?_, ?_⟩
          · rw [er, eN z]
            rfl
          · rw [er, eN z]
            simp
            omega
          · rw [er, eN z]
            show g + 1 ≤ i + 1
            omega
          · rw [er, eN z]
            show g + 1 ≤ (fd ++ [x]).length
            simp
            omega
      · have ex2 : decide (V.str (SX.S [x]) = V.str (SX.S [c])) = false := by rw [chr_S, decide_eq_false_iff_not]; exact ex
        walk_at "sq go"
        rw [ex2]
        walk_at "sq go"
        refine ifI (fun z => ?_) (fun z => ?_)
        · have z : ((0 : Nat) : Int) = kn := z
          omega
        · walk_at "sq go"
          have eN : rpS c kn (fd, g) x = (fd ++ [x], 0) := by
            unfold rpS
            simp only [if_neg ex]
            exact if_neg (by omega)
          refine ⟨some (.str (SX.S [x])), ?_, sH, ?_, ?_, ?_⟩
          · rw [er, eN]
            show _ = [_, _, _, some (V.str (SX.S (fd ++ [x]))), _, _]
            rw [← SX.S_cat]
            rfl
          · rw [er, eN]
            simp
            omega
          · rw [er, eN]
            exact Nat.zero_le _
          · rw [er, eN]
            exact Nat.zero_le _
    · obtain ⟨x5, rfl, sH, l1, l2, l3⟩ := h.o
      rw [List.take_length]
      walk_at "sq go"
      rw [rp_sq (by omega)]
      exact q _ sH
theorem sl_mid {a : List Nat} {i j : Nat} (hij : i ≤ j) (hi : i ≤ a.length) : Txt.slice (SX.S a) (some (i : Int)) (some (j : Int)) = SX.S ((a.drop i).take (j - i)) := by
  have go : ∀ m : Nat, i ≤ m → m ≤ a.length → Txt.slice (SX.S a) (some (i : Int)) (some (m : Int)) = SX.S ((a.drop i).take (m - i)) := fun m h1 h2 => by
    have e := beq_iff_eq.mp (PyProof.Rows.slice_closesL (x := SX.S a) (i := (i : Int)) (j := (m : Int)) (by omega) (by omega) (by rw [SX.S_len]; omega))
    rw [e, Int.toNat_natCast, show ((m : Int) - (i : Int)).toNat = m - i by omega]
  by_cases h : j ≤ a.length
  · exact go j hij h
  · have e2 : Txt.slice (SX.S a) (some (i : Int)) (some (j : Int)) = Txt.slice (SX.S a) (some (i : Int)) (some (a.length : Int)) := by
      unfold Txt.slice
      rw [SX.S_len, SX.idx_hi (by omega)]
    rw [e2, go a.length hi (Nat.le_refl _), List.take_of_length_le (by rw [List.length_drop]; omega), List.take_of_length_le (by rw [List.length_drop]; omega)]
/-- the character ahead, if there is one -/
theorem sl_prev {u : List Nat} {i : Nat} (li : i < u.length) : cutS (SX.S u) (some ((i : Int) - 1)) (some (i : Int)) = SX.S ((u.take i).getLast?.toList) := by
  rw [C8.cutS_slice]
  cases i with
  | zero =>
    have e : (PySem.Builtin.Str.strSliceIndices (some (((0 : Nat) : Int) - 1)) (some ((0 : Nat) : Int)) 1 (SX.S u).length) = [] := by
      rw [SX.S_len]
      have h0 : ((0 : Nat) : Int) - 1 < 0 := by omega
      have h1 : ¬ (((0 : Nat) : Int) < 0) := by omega
      have h2 : (1 : Int) > 0 := by decide
      unfold PySem.Builtin.Str.strSliceIndices
      simp only [h0, h1, h2, if_true, if_false]
      unfold sliceRange
      rw [if_pos h2, if_neg (by omega)]
      rfl
    unfold Txt.slice
    rw [e, if_neg]
    · rfl
    · rw [SX.S_len]
      cases u with
      | nil => exact absurd li (by simp)
      | cons y r => simp
  | succ i =>
    rw [show ((i + 1 : Nat) : Int) - 1 = (i : Nat) by omega, sl_mid (by omega) (by omega), show i + 1 - i = 1 by omega]
    congr 1
    have e1 : u[i]? = some u[i] := List.getElem?_eq_getElem (by omega)
    have e2 : u.take (i + 1) = u.take i ++ [u[i]] := by rw [List.take_add_one, e1]; rfl
    rw [e2, List.getLast?_append, List.drop_eq_getElem_cons (by omega)]
    rfl
theorem prev_is {u : List Nat} {i c : Nat} : decide (V.str (SX.S ((u.take i).getLast?.toList)) = V.str (SX.S [c])) = decide ((u.take i).getLast? = some c) := by
  refine decide_eq_decide.mpr ⟨fun z => ?_, fun z => by rw [z]; rfl⟩
  have := SX.S_inj (V.str.inj z)
  cases e : (u.take i).getLast? with
  | none => rw [e] at this; cases this
  | some y => rw [e] at this; cases this; rfl
abbrev s_law_runs : Stmt := topS 35
theorem sc_law_runs : FnScope ["written", "sign", "found", "place", "one"] ["written", "sign"] (defScope s_law_runs) := ⟨rfl, rfl, rfl, by decide +kernel, rfl, by decide +kernel, by decide +kernel⟩

def spRuns : Sp := fun vs H Q _ => ∃ (u : List Nat) (c : Nat), vs = [.str (SX.S u), .str (SX.S [c])] ∧ Keep (u.length ≤ 2000) ∧ ∀ l H', Same H H' → H l = none → H' l = some (.lst (iv ((rn c 0 u).map Int.ofNat))) → Q (.ref l) H'
theorem cal_runs (D : DefAt K mg "_law_runs" s_law_runs ["written", "sign"]) (B : Bt mg) : Cal P w K mg base 1 "_law_runs" spRuns [] := by
  refine D.cal sc_law_runs (fun vs H Q E h => ?_) (fun f cdv A outer s H vs Q E hr h => ?_)
  · obtain ⟨u, c, rfl, _⟩ := h
    rfl
  · obtain ⟨u, c, rfl, ⟨lu⟩, q⟩ := h
    refine ⟨_, (pss_cons (ps_set (i := 2) sc_law_runs.nd rfl (Or.inl rfl) (pe_lst pa_nil))
  (pss_cons (ps_for PassesOwn.never rfl (pi_enumS (by rfl) B.enumerate (pa_cons (pv 0) pa_nil)) (pg_tupK (K := K) (n := 2) rfl (pgs_cons (pg_name (i := 3) sc_law_runs.nd rfl (Or.inl rfl)) (pgs_cons (pg_name (i := 4) sc_law_runs.nd rfl (Or.inl rfl)) pgs_nil)))
   (pss_one (ps_if (PW.pt (pw_and (pt_cmpR op_eq (pv 4) (pv 1) (nomark _)) (pw_and1 (pt_cmpR op_eq (pe_slice sl_str (pv 0) (po_some (pe_op op_sub (pv 3) pe_int)) (po_some (pv 3))) (pv 1) (nomark _))))) (pss_one (ps_asg (pe_op op_add (pe_ix (ix_listK (K := K)) (pv 2) (pe_un un_neg pe_int) (fun _ _ => rfl)) pe_int) (pg_sub (pv 2) (pe_un un_neg pe_int) set_list))) (pss_one (ps_if (pt_cmpR op_eq (pv 4) (pv 1) (nomark _)) (pss_one (ps_expr (pe_bm PySem.F.plainAttrs_list PySem.F.slot_list_append PySem.F.type_list_append mt_append (pv 2) (pa_cons pe_int pa_nil)))) pss_nil)))))
  (pss_one (ps_ret (pv 2))))), ?_⟩
    walk_at "sq go"
    intro l nl
    walk_at "sq go"
    refine for_enumS (u := u) (fun i σ H' => Keep (∃ x3 x4, σ = [some (.str (SX.S u)), some (.str (SX.S [c])), some (.ref l), x3, x4] ∧ But l H H' ∧ H' l = some (.lst (iv ((rn c 0 (u.take i)).map Int.ofNat))))) ⟨_, _, rfl, fun b x z e => by rw [upd_ne z]; exact e, upd_same⟩ (fun i x T σ H' hx h nT => ?_) (fun σ H' h => ?_)
    · obtain ⟨x3, x4, rfl, bH, hl⟩ := h.o
      have li := (List.getElem?_eq_some_iff.mp hx).1
      have etk : u.take (i + 1) = u.take i ++ [x] := by rw [List.take_add_one, hx]; rfl
      have lS : (SX.S u).length ≤ sizeLine := by
        rw [SX.S_len, sizeLine_eq]
        omega
      have ne1 : l ≠ T := fun z => by
        rw [← z, hl] at nT
        cases nT
      by_cases ex : x = c
      · subst ex
        have ex2 : decide (V.str (SX.S [x]) = V.str (SX.S [x])) = true := decide_eq_true rfl
        walk_at "sq go"
        rw [ex2]
        walk_at "sq go"
        rw [sl_prev li]
        walk_at "sq go"
        rw [prev_is]
        have bH2 : But l H (upd H' T (.tup [.int (i : Nat), .str (SX.S [x])])) := fun b y zb e => by
          have e2 := bH b y zb e
          rw [upd_ne (fun z => by rw [z, nT] at e2; cases e2)]
          exact e2
        have hlT := upd_keep (o := .tup [.int (i : Nat), .str (SX.S [x])]) nT hl
        have lrn := rn_len x (u.take i) 0
        have ltk : (u.take i).length ≤ 2000 := by
          rw [List.length_take]
          omega
        refine ifD (fun pv => ?_) (fun pv => ?_)
        · obtain ⟨rs, m, er1, er2⟩ := rn_more x (u.take i) 0 (.inr pv)
          have em : (rn x 0 (u.take i)).map Int.ofNat = rs.map Int.ofNat ++ [(m : Int)] := by rw [er1]; simp
          rw [em] at hlT
          rw [er1] at lrn
          have hix : ixN (iv (rs.map Int.ofNat ++ [(m : Int)])).length (-1) = some rs.length := by
            rw [iv_len, List.length_append, List.length_map, List.length_singleton]
            unfold ixN
            rw [if_neg (by omega), if_pos (by omega)]
            congr 1
            omega
          have eix : atI (iv (rs.map Int.ofNat ++ [(m : Int)])) (-1) = some (.int m) := by
            unfold atI
            rw [hix]
            show (iv _)[rs.length]? = _
            rw [← iv_app, List.getElem?_append_right (by simp)]
            simp
          walk_at "sq go"
          refine ⟨_, _, rfl, fun b y zb e => by rw [upd_ne zb]; exact bH2 b y zb e, ?_⟩
          rw [upd_same, etk, er2]
          congr 2
          rw [← iv_app, show rs.length = (iv (rs.map Int.ofNat)).length by simp, List.set_append_right _ _ (Nat.le_refl _)]
          simp
        · rw [show rn x 0 (u.take (i + 1)) = rn x 0 (u.take i) ++ [1] by rw [etk, rn_new x (u.take i) 0 (fun z => z.elim (fun y => y.2 rfl) pv)]]
          walk_at "sq go"
          rw [ex2]
          have ll : (iv ((rn x 0 (u.take i)).map Int.ofNat)).length < sizeLine := by
            rw [iv_len, List.length_map]
            exact ltW3 (by omega)
          walk_at "sq go"
          refine ⟨_, _, rfl, fun b y zb e => by rw [upd_ne zb]; exact bH2 b y zb e, ?_⟩
          rw [upd_same]
          simp
      · have ex2 : decide (V.str (SX.S [x]) = V.str (SX.S [c])) = false := by rw [chr_S, decide_eq_false_iff_not]; exact ex
        walk_at "sq go"
        rw [ex2]
        walk_at "sq go"
        try rw [ex2]
        walk_at "sq go"
        refine ⟨_, _, rfl, fun b y zb e => ?_, ?_⟩
        · have e2 := bH b y zb e
          rw [upd_ne (fun z => by rw [z, nT] at e2; cases e2)]
          exact e2
        · rw [etk, rn_far c ex]
          exact upd_keep nT hl
    · obtain ⟨x3, x4, rfl, bH, hl⟩ := h.o
      rw [List.take_length] at hl
      walk_at "sq go"
      exact q l H' (bH.same (.refl _) nl) nl hl

local macro_rules | `(tactic| walk_at "sq side") => `(tactic| first
  | ((with_reducible show _ ≤ PySem.sizeLine); assumption)
  | ((with_reducible show _ < 1920); assumption)
  | ((with_reducible show _[_]? = some _); assumption))
theorem sep_add {R : Rg} {G H H2 : Hp} {L : Addr} {o : HO} (s : Sep R G H) (sm : Same H H2) (n : H L = none) (e : H2 L = some o) : Sep R (upd G L o) H2 := by
  have s2 := s.on sm
  refine ⟨s2.inv, fun b u hb => ?_, fun a ha => ?_⟩
  · by_cases z : b = L
    · rw [z, upd_same] at hb
      cases hb
      rw [z]
      exact e
    · rw [upd_ne z] at hb
      exact s2.same b u hb
  · have na : a ≠ L := fun z => R.has H a s.inv ha (by rw [z]; exact n)
    rw [upd_ne na]
    exact s2.off a ha
/-- two texts in a list -/
theorem shaped_t2 {a b : List Nat} (ha : ∀ x ∈ a, x < 0x110000) (hb : ∀ x ∈ b, x < 0x110000) : SeqAt.shaped (dT2 a b) = true := by
  simp [SeqAt.shaped, dT2, PyData.canLay0, PyData.canLayAll0, PyData.depth, PyData.depthAll, strOkS ha, strOkS hb]
theorem r_neT2 {H : Hp} {p r : Addr} {a b : List Nat} {Q : VK} (h1 : H p = some (.lst [.str (SX.S a), .str (SX.S b)])) (h2 : H r = some (.lst [.str (SX.S a), .str (SX.S b)])) (ha : ∀ x ∈ a, x < 0x110000) (hb : ∀ x ∈ b, x < 0x110000) (q : Q (.bl false) H) : rNeQ K (.ref p) (.ref r) H Q :=
  rNeQ_of ⟨dT2 a b, dT2 a b, .lst (seqL_of h1) (.cons (.str _) (.cons (.str _) .nil)), .lst (seqL_of h2) (.cons (.str _) (.cons (.str _) .nil)), shaped_t2 ha hb, shaped_t2 ha hb, by rw [show PyData.eqv (dT2 a b) (dT2 a b) = true by simp [dT2, PyData.eqv, PyData.eqvAll]]; exact q⟩
/-- characters in a list -/
def cv (u : List Nat) : List V := u.map fun x => V.str (SX.S [x])
def dC (u : List Nat) : PyData := .list (u.map fun x => .str (SX.S [x]))
theorem dpall_cv {H : Hp} : ∀ u : List Nat, DpAll K H (cv u) (u.map fun x => .str (SX.S [x]))
  | [] => .nil
  | x :: r => .cons (.str _) (dpall_cv r)
theorem can_cv : ∀ u : List Nat, (∀ x ∈ u, x < 0x110000) → PyData.canLayAll0 (u.map fun x => .str (SX.S [x])) = true ∧ PyData.depthAll (u.map fun x => .str (SX.S [x])) = 0 ∧ PyData.eqvAll (u.map fun x => .str (SX.S [x])) (u.map fun x => .str (SX.S [x])) = true
  | [], _ => by simp [PyData.canLayAll0, PyData.depthAll, PyData.eqvAll]
  | x :: r, h => by
    obtain ⟨h1, h2, h3⟩ := can_cv r fun y hy => h y (List.mem_cons_of_mem _ hy)
    have hx : PyData.strOk (SX.S [x]) = true := strOkS fun y hy => by
      rw [List.mem_singleton.mp hy]
      exact h x (List.mem_cons_self ..)
    simp [PyData.canLayAll0, PyData.canLay0, PyData.depthAll, PyData.depth, PyData.eqvAll, PyData.eqv, h1, h2, h3, hx]
theorem r_neC {H : Hp} {p r : Addr} {u : List Nat} {Q : VK} (h1 : H p = some (.lst (cv u))) (h2 : H r = some (.lst (cv u))) (hu : ∀ x ∈ u, x < 0x110000) (q : Q (.bl false) H) : rNeQ K (.ref p) (.ref r) H Q := by
  obtain ⟨c1, c2, c3⟩ := can_cv u hu
  have sh : SeqAt.shaped (dC u) = true := by simp [SeqAt.shaped, dC, PyData.canLay0, PyData.depth, c1, c2]
  exact rNeQ_of ⟨dC u, dC u, .lst (seqL_of h1) (dpall_cv u), .lst (seqL_of h2) (dpall_cv u), sh, sh, by rw [show PyData.eqv (dC u) (dC u) = true by simpa [dC, PyData.eqv] using c3]; exact q⟩
abbrev s_law : Stmt := topS 36
theorem sc_law : FnScope ["script", "rng", "lap", "sign", "line", "some", "kept", "due", "number", "named", "runs_here", "rest", "cut", "long", "many", "one"] ["script"] (defScope s_law) := ⟨rfl, rfl, rfl, by decide +kernel, rfl, by decide +kernel, by decide +kernel⟩

def spLaw (K : PySem.W.Frag) : Sp := fun vs H Q _ => ∃ (a : Addr) (ns : List Int), vs = [.ref a] ∧ SqL K H a (iv ns) ∧ ns.length ≤ 63 ∧ ∀ H', Q (.bl true) H'
/-- a length and a text squeezed, nothing raised -/
def spSqC (K : PySem.W.Frag) : Sp := fun vs H Q _ => ∃ (n : Int) (p : Addr) (ks : List Int), vs = [.int n, .ref p] ∧ SqL K H p (iv ks) ∧ Keep (0 ≤ n ∧ Mid ks ∧ ∀ H', Same H H' → Q (.int (sqz n ks)) H')
def spTxC (K : PySem.W.Frag) : Sp := fun vs H Q _ => ∃ (u : List Nat) (c : Nat) (p : Addr) (ks : List Int), vs = [.str (SX.S u), .str (SX.S [c]), .ref p] ∧ SqL K H p (iv ks) ∧ Keep (u.length ≤ 100000 ∧ (∀ x ∈ u, x < 0x110000) ∧ Mid ks ∧ ∀ H', Same H H' → Q (.str (SX.S (sqT c ks u))) H')
def spTxK (K : PySem.W.Frag) : Sp := fun vs H Q _ => ∃ (u : List Nat) (c : Nat) (p : Addr) (ks : List Int), vs = [.ref p, .str (SX.S [c]), .str (SX.S u)] ∧ SqL K H p (iv ks) ∧ Keep (u.length ≤ 100000 ∧ (∀ x ∈ u, x < 0x110000) ∧ Mid ks ∧ ∀ H', Same H H' → Q (.str (SX.S (sqT c ks u))) H')
def spRead0 : Sp := fun vs H Q _ => ∃ (u : List Nat) (ns : List Int), vs = [.str (SX.S u)] ∧ Keep (RdOk u ∧ readR u = some ns ∧ ∀ l H', Same H H' → H l = none → H' l = some (.lst (iv ns)) → Q (.ref l) H')
theorem sq_calm {CN CL : Addr} (c : Def2X P w K mg base 4 "squeezed" s_squeezed ["length", "replacements"] (spSqX K CN CL)) : Def2 P w K mg base 4 "squeezed" s_squeezed ["length", "replacements"] (spSqC K) := c.calm fun vs H Q E h => by
  obtain ⟨n, p, ks, rfl, hS, ⟨n0, mid, q⟩⟩ := h
  have b0 : bad ks = none := bad_none.mpr fun k hk => (mid k hk).1
  exact ⟨n, p, ks, rfl, hS, ⟨fun z => absurd n0 (by omega), fun _ i e => absurd (b0.symm.trans e) (by simp), fun _ _ => ⟨mid, q⟩⟩⟩
theorem tx_calm {CC CL : Addr} (c : Def2X P w K mg base 4 "squeeze_text" s_squeeze_text ["text", "character", "replacements"] (spSqTxX K CC CL)) : Def2 P w K mg base 4 "squeeze_text" s_squeeze_text ["text", "character", "replacements"] (spTxC K) := c.calm fun vs H Q E h => by
  obtain ⟨u, c, p, ks, rfl, hS, ⟨lu, cu, mid, q⟩⟩ := h
  have b0 : bad ks = none := bad_none.mpr fun k hk => (mid k hk).1
  exact ⟨u, _, p, ks, rfl, hS, ⟨lu, cu, .inr ⟨c, rfl, fun i e => absurd (b0.symm.trans e) (by simp), fun _ => ⟨mid, q⟩⟩⟩⟩
theorem read_calm {CR : Addr} (c : CalX P w K mg base 4 "read_list" (spReadX CR)) : Cal P w K mg base 4 "read_list" spRead0 [] := c.calm fun vs H Q E h => by
  obtain ⟨u, ns, rfl, ⟨ok, e, q⟩⟩ := h
  refine ⟨u, rfl, ⟨ok, fun ms em l H' s n hl => ?_, fun z => ?_⟩⟩
  · rw [e] at em
    cases em
    exact q l H' s n hl
  · rw [e] at z
    cases z
theorem ok_law {f : Addr} {fd : FuncData} (F : Fun K "law" "law" s_law f fd) (B : Bt mg) (c_law_rng : Cal P w K mg base 1 "_law_rng" (spRng K) []) (c_law_draw : Cal P w K mg base 1 "_law_draw" spDraw3 []) (c_law_list : Cal P w K mg base 2 "_law_list" spList4 [])
    (c_law_written : Cal P w K mg base 3 "_law_written" spWritten []) (c_law_replaced : Cal P w K mg base 1 "_law_replaced" spRepl []) (c_law_runs : Cal P w K mg base 1 "_law_runs" spRuns []) (c_squeezed : Cal P w K mg base 4 "squeezed" (spSqC K) [])
    (c_squeeze_text : Cal P w K mg base 4 "squeeze_text" (spTxC K) []) (c_squeeze_textK : CalK P w K mg base 4 "squeeze_text" ["replacements", "character", "text"] (spTxK K)) (c_read_list : Cal P w K mg base 4 "read_list" spRead0 []) : FnG P w K mg base CX0 6 f fd ["script"] (spLaw K) := by
  refine okG F sc_law (fun vs H Q E h => ?_) (fun cdv A outer s H vs Q E hG hr h => ?_)
  · obtain ⟨a, ns, rfl, _⟩ := h
    rfl
  · obtain ⟨p0, ns0, rfl, hP, hl, q⟩ := h
    refine ⟨_, (pss_cons (ps_set (i := 1) sc_law.nd rfl (Or.inl rfl) (pe_c c_law_rng hr (by first | decide | omega) (by rfl) (pa_cons (pv 0) pa_nil)))
  (pss_cons (ps_for PassesOwn.never rfl (pi_range1 (by rfl) B.range (pa_cons (pe_op op_add pe_int (pe_callB (call_min2 rfl) (by rfl) B.min (by decide +kernel) (pa_cons pe_int (pa_cons (pe_callB (len_seqK (K := K)) (by rfl) B.len boot_len (pa_cons (pv 0) pa_nil)) pa_nil)))) pa_nil)) (pg_name (i := 2) sc_law.nd rfl (Or.inl rfl))
   (pss_cons (ps_set (i := 3) sc_law.nd rfl (Or.inr rfl) (pe_ix ix_str pe_str (pe_c c_law_draw hr (by first | decide | omega) (by rfl) (pa_cons (pv 1) (pa_cons pe_int pa_nil))) (fun _ _ => rfl)))
  (pss_cons (ps_set (i := 4) sc_law.nd rfl (Or.inl rfl) (pe_c c_law_written hr (by first | decide | omega) (by rfl) (pa_cons (pv 1) (pa_cons (pv 3) (pa_cons (pe_ix (ix_listK (K := K)) (pe_lst (pa_cons pe_int (pa_cons pe_int (pa_cons pe_int pa_nil)))) (pe_c c_law_draw hr (by first | decide | omega) (by rfl) (pa_cons (pv 1) (pa_cons pe_int pa_nil))) (fun _ _ => rfl)) pa_nil)))))
  (pss_cons (ps_set (i := 5) sc_law.nd rfl (Or.inr rfl) (pe_c c_law_list hr (by first | decide | omega) (by rfl) (pa_cons (pv 1) (pa_cons (pe_ix (ix_listK (K := K)) (pe_lst (pa_cons pe_int (pa_cons pe_int pa_nil))) (pe_c c_law_draw hr (by first | decide | omega) (by rfl) (pa_cons (pv 1) (pa_cons pe_int pa_nil))) (fun _ _ => rfl)) (pa_cons (pe_ix (ix_listK (K := K)) (pe_lst (pa_cons pe_int (pa_cons pe_int (pa_cons pe_int pa_nil)))) (pe_c c_law_draw hr (by first | decide | omega) (by rfl) (pa_cons (pv 1) (pa_cons pe_int pa_nil))) (fun _ _ => rfl)) pa_nil)))))
  (pss_cons (ps_par (i := 6) (j := 7) rfl sc_law.nd rfl rfl (by decide) rfl rfl (pa_cons (pe_callB (call_reprVK (K := K) hG hr.units) (by rfl) B.repr (by decide +kernel) (pa_cons (pv 5) pa_nil)) (pa_cons (pv 4) pa_nil)) (by rfl))
  (pss_cons (ps_for PassesOwn.never rfl (pi_listK (K := K) (pv 5)) (pg_name (i := 8) sc_law.nd rfl (Or.inl rfl))
   (pss_one (ps_set (i := 7) sc_law.nd rfl (Or.inl rfl) (pe_c c_law_replaced hr (by first | decide | omega) (by rfl) (pa_cons (pv 7) (pa_cons (pv 3) (pa_cons (pv 8) pa_nil)))))))
  (pss_cons (ps_set (i := 9) sc_law.nd rfl (Or.inl rfl) (pe_ck c_squeeze_textK hr (by first | decide | omega) (by rfl) (pk_cons (pv 5) (pk_cons (pv 3) (pk_cons (pv 4) pk_nil)))))
  (pss_cons (ps_if (pt_cmpR (op_neDK (K := K) hr.units) (pe_lst (pa_cons (pe_c c_squeeze_text hr (by first | decide | omega) (by rfl) (pa_cons (pv 4) (pa_cons (pv 3) (pa_cons (pv 5) pa_nil)))) (pa_cons (pv 9) pa_nil))) (pe_lst (pa_cons (pv 7) (pa_cons (pv 7) pa_nil))) (nomark _)) (pss_one (ps_ret pe_bl)) pss_nil)
  (pss_cons (ps_setLc (i := 10) (own := [("many", 14)]) (g := gName 14) (by rfl) sc_law.nd rfl rfl (sw_true rfl rfl rfl (by decide +kernel)) (pi_listK (K := K) (pe_c c_law_runs hr (by first | decide | omega) (by rfl) (pa_cons (pv 4) (pa_cons (pv 3) pa_nil)))) (blkOk_by (own := [("many", 14)]) (N := ["script", "rng", "lap", "sign", "line", "some", "kept", "due", "number", "named", "runs_here", "rest", "cut", "long", "many", "one"]) (sc := defScope s_law) (by decide +kernel)) (fun _ _ _ _ _ => (pg_name (i := 14) sc_law.nd rfl (Or.inl rfl))) (fun _ _ _ _ _ => pts_nil) (fun _ _ _ _ _ => (pe_c c_squeezed hr (by first | decide | omega) (by rfl) (pa_cons (pv 14) (pa_cons (pv 5) pa_nil)))))
  (pss_cons (ps_if (PW.pt (pw_or (pt_cmpR (op_neDK (K := K) hr.units) (pe_c c_law_runs hr (by first | decide | omega) (by rfl) (pa_cons (pv 7) (pa_cons (pv 3) pa_nil))) (pv 10) (nomark _)) (pw_or1 (pt_cmpR op_ne (pe_callB (call_reprVK (K := K) hG hr.units) (by rfl) B.repr (by decide +kernel) (pa_cons (pv 5) pa_nil)) (pv 6) (nomark _))))) (pss_one (ps_ret pe_bl)) pss_nil)
  (pss_cons (ps_setLc (i := 11) (own := [("one", 15)]) (g := gName 15) (by rfl) sc_law.nd rfl rfl (sw_true rfl rfl rfl (by decide +kernel)) (pi_str (pv 4)) (blkOk_by (own := [("one", 15)]) (N := ["script", "rng", "lap", "sign", "line", "some", "kept", "due", "number", "named", "runs_here", "rest", "cut", "long", "many", "one"]) (sc := defScope s_law) (by decide +kernel)) (fun _ _ _ _ _ => (pg_name (i := 15) sc_law.nd rfl (Or.inl rfl))) (fun _ _ _ _ _ => (pts_one (pt_cmpR op_ne (pv 15) (pv 3) (nomark _)))) (fun _ _ _ _ _ => (pv 15)))
  (pss_cons (ps_if (pt_cmpR (op_neDK (K := K) hr.units) (pe_lc (own := [("one", 15)]) (g := gName 15) (by rfl) sc_law.nd (pi_str (pv 7)) (blkOk_by (own := [("one", 15)]) (N := ["script", "rng", "lap", "sign", "line", "some", "kept", "due", "number", "named", "runs_here", "rest", "cut", "long", "many", "one"]) (sc := defScope s_law) (by decide +kernel)) (fun _ _ _ _ _ => (pg_name (i := 15) sc_law.nd rfl (Or.inl rfl))) (fun _ _ _ _ _ => (pts_one (pt_cmpR op_ne (pv 15) (pv 3) (nomark _)))) (fun _ _ _ _ _ => (pv 15))) (pv 11) (nomark _)) (pss_one (ps_ret pe_bl)) pss_nil)
  (pss_cons (ps_set (i := 12) sc_law.nd rfl (Or.inl rfl) (pe_c c_law_draw hr (by first | decide | omega) (by rfl) (pa_cons (pv 1) (pa_cons (pe_op op_add (pe_callB (len_seqK (K := K)) (by rfl) B.len boot_len (pa_cons (pv 5) pa_nil)) pe_int) pa_nil))))
  (pss_cons (ps_if (pt_cmpR op_ne (pe_c c_squeeze_text hr (by first | decide | omega) (by rfl) (pa_cons (pe_c c_squeeze_text hr (by first | decide | omega) (by rfl) (pa_cons (pv 4) (pa_cons (pv 3) (pa_cons (pe_slice (sl_listK (K := K)) (pv 5) po_none (po_some (pv 12))) pa_nil)))) (pa_cons (pv 3) (pa_cons (pe_slice (sl_listK (K := K)) (pv 5) (po_some (pv 12)) po_none) pa_nil)))) (pv 7) (nomark _)) (pss_one (ps_ret pe_bl)) pss_nil)
  (pss_one (ps_if (PW.pt (pw_or (pt_cmpR op_ne (pe_c c_squeeze_text hr (by first | decide | omega) (by rfl) (pa_cons (pv 4) (pa_cons pe_str (pa_cons (pv 5) pa_nil)))) (pv 4) (nomark _)) (pw_or1 (pt_cmpR op_ne (pe_c c_squeeze_text hr (by first | decide | omega) (by rfl) (pa_cons pe_str (pa_cons pe_str (pa_cons (pe_lst (pa_cons pe_int pa_nil)) pa_nil)))) pe_str (nomark _))))) (pss_one (ps_ret pe_bl)) pss_nil))))))))))))))))
  (pss_cons (ps_par (i := 13) (j := 4) rfl sc_law.nd rfl rfl (by decide) rfl rfl (pa_cons (pe_c c_read_list hr (by first | decide | omega) (by rfl) (pa_cons pe_str pa_nil)) (pa_cons (pe_op op_add_str (pe_c c_law_written hr (by first | decide | omega) (by rfl) (pa_cons (pv 1) (pa_cons pe_str (pa_cons pe_int pa_nil)))) (pe_op op_rep_strL pe_str pe_int)) pa_nil)) (by rfl))
  (pss_cons (ps_set (i := 7) sc_law.nd rfl (Or.inl rfl) (pe_slice sl_str (pv 4) po_none (po_some pe_int)))
  (pss_cons (ps_for PassesOwn.never rfl (pi_listK (K := K) (pv 13)) (pg_name (i := 8) sc_law.nd rfl (Or.inl rfl))
   (pss_one (ps_set (i := 7) sc_law.nd rfl (Or.inl rfl) (pe_c c_law_replaced hr (by first | decide | omega) (by rfl) (pa_cons (pv 7) (pa_cons pe_str (pa_cons (pv 8) pa_nil)))))))
  (pss_cons (ps_if (pt_cmpR op_ne (pe_c c_squeeze_text hr (by first | decide | omega) (by rfl) (pa_cons (pe_slice sl_str (pv 4) po_none (po_some pe_int)) (pa_cons pe_str (pa_cons (pv 13) pa_nil)))) (pv 7) (nomark _)) (pss_one (ps_ret pe_bl)) pss_nil)
  (pss_one (ps_ret (pe_and (pe_cmpR op_eq (pe_c c_squeeze_text hr (by first | decide | omega) (by rfl) (pa_cons pe_str (pa_cons pe_str (pa_cons (pe_lst (pa_cons pe_int pa_nil)) pa_nil)))) pe_str (nomark _)) (pe_one (pe_cmpR op_eq (pe_c c_squeeze_text hr (by first | decide | omega) (by rfl) (pa_cons pe_str (pa_cons pe_str (pa_cons (pe_lst (pa_cons pe_int (pa_cons pe_int pa_nil))) pa_nil)))) pe_str (nomark _)))))))))))), ?_⟩
    have el : (iv ns0).length = ns0.length := iv_len _
    walk_at "sq go"
    refine ⟨⟨trivial⟩, fun r H1 s1 hS => ?_⟩
    have hP1 := s1.seq hP
    walk_at "sq go"
    refine for_range (lo := 0) (n := _) (fun i σ H' => Keep (∃ x2 x3 x4 x5 x6 x7 x8 x9 x10 x11 x12 x13 x14 x15, σ = [some (.ref p0), some (.ref r), x2, x3, x4, x5, x6, x7, x8, x9, x10, x11, x12, x13, x14, x15] ∧ Sep (rg3 r (700 * i)) H H' ∧ i ≤ 12)) ⟨_, _, _, _, _, _, _, _, _, _, _, _, _, _, rfl, Sep3.mono hS (by omega), by omega⟩ (fun i σ H' hi h => ?_) (fun σ H' h => ?_)
    · obtain ⟨x2, x3, x4, x5, x6, x7, x8, x9, x10, x11, x12, x13, x14, x15, rfl, hs, hi8⟩ := h.o
      have hi9 : i + 1 ≤ 12 := by (repeat' split at hi) <;> omega
      have hsg : (" a-~x0AZ.*^$\\[]()+?|{}/\"'" : Str) = SX.S [32, 97, 45, 126, 120, 48, 65, 90, 46, 42, 94, 36, 92, 91, 93, 40, 41, 43, 63, 124, 123, 125, 47, 34, 39] := by decide +kernel
      walk_at "sq go"
      refine ⟨⟨by decide, by decide, by omega⟩, fun y H2 y0 y1 hs1 => ?_⟩
      obtain ⟨c, ec, gc⟩ := pickC (l := [32, 97, 45, 126, 120, 48, 65, 90, 46, 42, 94, 36, 92, 91, 93, 40, 41, 43, 63, 124, 123, 125, 47, 34, 39]) (w := y) (P := Gd) (by unfold Gd; decide) y0 (by simpa using y1)
      rw [← hsg] at ec
      have lsg : (" a-~x0AZ.*^$\\[]()+?|{}/\"'" : Str).length ≤ sizeLine := by
        rw [hsg, SX.S_len]
        exact Nat.le_of_ble_eq_true rfl
      walk_at "sq go"
      intro e1 ne1
      have ge1 := hs1.free ne1
      have hs2 := hs1.new ne1 (.lst (iv [40, 300, 2000]))
      walk_at "sq go"
      refine ⟨⟨by decide, by decide, by omega⟩, fun y2 H3 y20 y21 hs3 => ?_⟩
      have he1 : H3 e1 = some (.lst (iv [40, 300, 2000])) := hs3.get upd_same
      obtain ⟨most, em, mo0, mo1⟩ := pickL (l := [40, 300, 2000]) (w := y2) (P := fun v => 0 < v ∧ v ≤ 2000) (by simp) y20 (by simpa using y21)
      have hs4 := hs3.weak (same_new (o := .lst (iv [40, 300, 2000])) ge1)
      walk_at "sq go"
      refine ⟨⟨gc, mo0, mo1, by omega⟩, fun u H4 lu gu hs5 => ?_⟩
      have lu2 : u.length ≤ 2000 := by omega
      walk_at "sq go"
      intro e2 ne2
      have ge2 := hs5.free ne2
      have hs6 := hs5.new ne2 (.lst (iv [3, 12]))
      walk_at "sq go"
      refine ⟨⟨by decide, by decide, by omega⟩, fun y3 H5 y30 y31 hs7 => ?_⟩
      have he2 : H5 e2 = some (.lst (iv [3, 12])) := hs7.get upd_same
      obtain ⟨mst, ems, ms0, ms1⟩ := pickL (l := [3, 12]) (w := y3) (P := fun v => 0 ≤ v ∧ v ≤ 12) (by simp) y30 (by simpa using y31)
      have hs8 := hs7.weak (same_new (o := .lst (iv [3, 12])) ge2)
      walk_at "sq go"
      intro e3 ne3
      have ge3 := hs8.free ne3
      have hs9 := hs8.new ne3 (.lst (iv [5, 40, 2000]))
      walk_at "sq go"
      refine ⟨⟨by decide, by decide, by omega⟩, fun y4 H6 y40 y41 hs10 => ?_⟩
      have he3 : H6 e3 = some (.lst (iv [5, 40, 2000])) := hs10.get upd_same
      obtain ⟨gr, egr, gr0, gr1⟩ := pickL (l := [5, 40, 2000]) (w := y4) (P := fun v => 2 ≤ v ∧ v ≤ 2000) (by simp) y40 (by simpa using y41)
      have hs11 := hs10.weak (same_new (o := .lst (iv [5, 40, 2000])) ge3)
      walk_at "sq go"
      refine ⟨⟨by omega, by omega, by omega, by omega, by omega⟩, fun p ns H7 gp len row hs12 => ?_⟩
      have len12 : ns.length ≤ 12 := by omega
      have two : Two ns := row.two
      have mid : Mid ns := row.mid (by omega)
      have lgn : ∀ n ∈ ns, n.natAbs.log2 < 1920 := fun n hn => by
        have := row n hn
        exact Nat.lt_trans ((show Sm 101 n by unfold Sm; omega).lg (by decide)) (by decide)
      have cu : ∀ x ∈ u, x < 0x110000 := fun x hx => Nat.lt_trans (gu x hx).1 (by decide)
      have cd : ∀ ks : List Int, ∀ x ∈ sqT c ks u, x < 0x110000 := fun ks => sqT_mem (Nat.lt_trans gc.1 (by decide)) cu
      have ld : ∀ ks : List Int, Two ks → (sqT c ks u).length ≤ 2000 := fun ks h => Nat.le_trans (sqT_len h u) lu2
      have hp := hs12.get upd_same
      walk_at "sq go"
      refine rRepr_ok (dok_dI lgn len12) (dp_iv (seqL_of hp)) (by decide) (by decide) ?_
      walk_at "sq go"
      refine for_list (K := K) (a := p) (xs := iv ns) (fun t σ' H8 => Keep (∃ x8, σ' = [some (.ref p0), some (.ref r), some (.int (0 + ((i : Nat) : Int))), some (.str (SX.S [c])), some (.str (SX.S u)), some (.ref p), some (.str (dI ns).shown), some (.str (SX.S (sqT c (ns.take t) u))), x8, x9, x10, x11, x12, x13, x14, x15] ∧ Same H7 H8)) ⟨_, by rw [List.take_zero, sqT_nil]; rfl, .refl _⟩ (fun t σ' H8 _ h => ?_) (fun t x σ' H8 hx h => ?_) (fun σ' H8 h => ?_)
      · obtain ⟨_, _, s8⟩ := h.o
        exact seqL_of (s8 _ _ hp)
      · obtain ⟨x8, rfl, s8⟩ := h.o
        obtain ⟨k, hk, rfl⟩ := iv_get hx
        walk_at "sq go"
        refine ⟨⟨ld _ fun k hk => two k (List.mem_of_mem_take hk), two k (List.mem_of_getElem? hk)⟩, fun H9 s9 => ?_⟩
        walk_at "sq go"
        refine ⟨some (.int k), ?_, s8.trans s9⟩
        rw [show ns.take (t + 1) = ns.take t ++ [k] by rw [List.take_add_one, hk]; rfl, ← sqT_comp fun k hk => two k (List.mem_of_mem_take hk)]
        rfl
      · obtain ⟨x8, rfl, s8⟩ := h.o
        rw [iv_len, List.take_length]
        have hp8 := seqL_of (K := K) (s8 _ _ hp)
        walk_at "sq go"
        refine ⟨⟨by omega, cu, mid, fun H9 s9 => ?_⟩⟩
        have hp9 := s9.seq hp8
        walk_at "sq go"
        refine ⟨⟨by omega, cu, mid, fun H10 s10 => ?_⟩⟩
        have hp10 := s10.seq hp9
        walk_at "sq go"
        intro q1 nq1
        have eq1 : upd H10 q1 (.lst [.str (SX.S (sqT c ns u)), .str (SX.S (sqT c ns u))]) q1 = some (.lst [.str (SX.S (sqT c ns u)), .str (SX.S (sqT c ns u))]) := upd_same
        have s11 := ((s8.trans s9).trans s10).trans (same_new (o := .lst [.str (SX.S (sqT c ns u)), .str (SX.S (sqT c ns u))]) nq1)
        generalize upd H10 q1 (.lst [.str (SX.S (sqT c ns u)), .str (SX.S (sqT c ns u))]) = H11 at eq1 s11 ⊢
        walk_at "sq go"
        intro q2 nq2
        refine r_neT2 (upd_keep nq2 eq1) upd_same (cd _) (cd _) ?_
        have s12 := s11.trans (same_new (o := .lst [.str (SX.S (sqT c ns u)), .str (SX.S (sqT c ns u))]) nq2)
        generalize upd H11 q2 (.lst [.str (SX.S (sqT c ns u)), .str (SX.S (sqT c ns u))]) = H12 at s12 ⊢
        have hp12 := seqL_of (K := K) (s12 _ _ hp)
        walk_at "sq go"
        refine ⟨⟨lu2⟩, fun rl H13 s13 nrl erl => ?_⟩
        have hp13 := s13.seq hp12
        have lrn := rn_len c u 0
        walk_at "sq go"
        intro D nD
        refine lc_list (K := K) (a := rl) (xs := iv ((rn c 0 u).map Int.ofNat)) (fun t H14 => Keep (But D H13 H14 ∧ H14 D = some (.lst (iv (((rn c 0 u).take t).map fun n : Nat => ((sqz (n : Int) ns).toNat : Int)))))) ⟨fun b y zb e => by rw [upd_ne zb]; exact e, upd_same⟩ (fun t H14 _ h => ?_) (fun t x H14 hx h => ?_) (fun H14 h => ?_)
        · obtain ⟨bt, _⟩ := h.o
          exact seqL_of (bt _ _ (fun z => by rw [z, nD] at erl; cases erl) erl)
        · obtain ⟨bt, hD⟩ := h.o
          obtain ⟨k, hk, rfl⟩ := iv_get hx
          rw [List.getElem?_map] at hk
          obtain ⟨m, hm, rfl⟩ := Option.map_eq_some_iff.mp hk
          have hp14 : SqL K H14 p (iv ns) := (bt.same (.refl _) nD).seq hp13
          walk_at "sq go"
          refine ⟨⟨Int.natCast_nonneg m, mid, fun H15 s15 => ?_⟩⟩
          have hD15 := s15 _ _ hD
          walk_at "sq go"
          refine ⟨fun b y zb e => by rw [upd_ne zb]; exact s15 _ _ (bt b y zb e), ?_⟩
          rw [upd_same, iv_app, show (rn c 0 u).take (t + 1) = (rn c 0 u).take t ++ [m] by rw [List.take_add_one, hm]; rfl, List.map_append]
          show some (HO.lst (iv (_ ++ [sqz ((m : Nat) : Int) ns]))) = some (HO.lst (iv (_ ++ [(((sqz ((m : Nat) : Int) ns).toNat : Nat) : Int)])))
          rw [sqz_nat two]
        · obtain ⟨bt, hD⟩ := h.o
          rw [iv_len, List.length_map, List.take_length] at hD
          have s14 := s13.trans (bt.same (.refl _) nD)
          have hp14 := s14.seq hp12
          walk_at "sq go"
          refine ⟨⟨ld _ two⟩, fun r2 H15 s15 nr2 er2 => ?_⟩
          have hD15 := s15 _ _ hD
          walk_at "sq go"
          have err : ((rn c 0 (sqT c ns u)).map Int.ofNat) = (rn c 0 u).map fun n : Nat => ((sqz (n : Int) ns).toNat : Int) := by
            rw [rn_sqT two, List.map_map]
            rfl
          refine r_neI (seqL_of er2) (seqL_of hD15) ?_
          rw [err]
          have hp15 := s15.seq hp14
          walk_at "sq go"
          refine ifN (fun c => absurd rfl c) (fun _ => ?_)
          walk_at "sq go"
          refine rRepr_ok (dok_dI lgn len12) (dp_iv hp15) (by decide) (by decide) ?_
          walk_at "sq go"
          refine ifN (fun c => absurd rfl c) (fun _ => ?_)
          have s15' := s12.trans (s14.trans s15)
          clear hD15 err er2 nr2 hD bt erl
          generalize H15 = HA at s15' hp15 ⊢
          have hsA := hs12.on s15'
          walk_at "sq go"
          intro R1 nR1
          refine lc_str (u := u) (fun t H16 => Keep (But R1 HA H16 ∧ H16 R1 = some (.lst (cv ((u.take t).filter fun x => decide (x ≠ c)))))) ⟨fun b y zb e => by rw [upd_ne zb]; exact e, upd_same⟩ (fun t x H16 hx h => ?_) (fun H16 h => ?_)
          · obtain ⟨bt, hD⟩ := h.o
            have et : u.take (t + 1) = u.take t ++ [x] := by rw [List.take_add_one, hx]; rfl
            by_cases ex : x = c
            · have ex2 : decide (V.str (SX.S [x]) = V.str (SX.S [c])) = true := by rw [chr_S]; exact decide_eq_true ex
              walk_at "sq go"
              rw [ex2]
              walk_at "sq go"
              refine ⟨bt, ?_⟩
              rw [hD, et, List.filter_append]
              simp [ex]
            · have ex2 : decide (V.str (SX.S [x]) = V.str (SX.S [c])) = false := by rw [chr_S, decide_eq_false_iff_not]; exact ex
              walk_at "sq go"
              rw [ex2]
              walk_at "sq go"
              have lfl : ((u.take t).filter fun x => decide (x ≠ c)).length ≤ 2000 := Nat.le_trans (List.length_filter_le ..) (Nat.le_trans (by rw [List.length_take]; exact Nat.min_le_right ..) (lu2))
              refine ⟨by unfold cv; rw [List.length_map]; exact ltW3 (by omega), ⟨fun b y zb e => by rw [upd_ne zb]; exact bt b y zb e, ?_⟩⟩
              rw [upd_same, et, List.filter_append]
              simp [ex, cv]
          · obtain ⟨bt, hR⟩ := h.o
            rw [List.take_length] at hR
            walk_at "sq go"
            intro R2 nR2
            have hRs := hR
            refine lc_str (u := sqT c ns u) (fun t H17 => Keep (But R2 H16 H17 ∧ H17 R2 = some (.lst (cv (((sqT c ns u).take t).filter fun x => decide (x ≠ c)))))) ⟨fun b y zb e => by rw [upd_ne zb]; exact e, upd_same⟩ (fun t x H17 hx h => ?_) (fun H17 h => ?_)
            · obtain ⟨bt2, hD⟩ := h.o
              have et : (sqT c ns u).take (t + 1) = (sqT c ns u).take t ++ [x] := by rw [List.take_add_one, hx]; rfl
              by_cases ex : x = c
              · have ex2 : decide (V.str (SX.S [x]) = V.str (SX.S [c])) = true := by rw [chr_S]; exact decide_eq_true ex
                walk_at "sq go"
                rw [ex2]
                walk_at "sq go"
                refine ⟨bt2, ?_⟩
                rw [hD, et, List.filter_append]
                simp [ex]
              · have ex2 : decide (V.str (SX.S [x]) = V.str (SX.S [c])) = false := by rw [chr_S, decide_eq_false_iff_not]; exact ex
                walk_at "sq go"
                rw [ex2]
                walk_at "sq go"
                have lfl : (((sqT c ns u).take t).filter fun x => decide (x ≠ c)).length ≤ 2000 := Nat.le_trans (List.length_filter_le ..) (Nat.le_trans (by rw [List.length_take]; exact Nat.min_le_right ..) (ld _ two))
                refine ⟨by unfold cv; rw [List.length_map]; exact ltW3 (by omega), ⟨fun b y zb e => by rw [upd_ne zb]; exact bt2 b y zb e, ?_⟩⟩
                rw [upd_same, et, List.filter_append]
                simp [ex, cv]
            · obtain ⟨bt2, hR2⟩ := h.o
              rw [List.take_length, sqT_rest] at hR2
              have s17 : Same HA H17 := (bt.same (.refl _) nR1).trans (bt2.same (.refl _) nR2)
              have hR17 := bt2 _ _ (fun z => by rw [z, nR2] at hR; cases hR) hR
              walk_at "sq go"
              refine r_neC hR2 hR17 (fun x hx => cu x (List.mem_filter.mp hx).1) ?_
              have hsB := hsA.on s17
              have hp17 := s17.seq hp15
              have elp : (iv ns).length = ns.length := iv_len _
              clear hsA hs12 hs11 hs5
              walk_at "sq go"
              refine ⟨⟨by omega, by omega, by omega⟩, fun ct H18 ct0 ct1 hsC => ?_⟩
              have hpC := hsC.get upd_same
              have hpCs := seqL_of (K := K) hpC
              obtain ⟨ci, rfl⟩ := Int.eq_ofNat_of_zero_le ct0
              have ec1 : cutV (iv ns) none (some ((ci : Nat) : Int)) = iv (ns.take ci) := by rw [cut_to, iv_take]
              have ec2 : cutV (iv ns) (some ((ci : Nat) : Int)) none = iv (ns.drop ci) := by rw [cut_from, iv_drop]
              walk_at "sq go"
              rw [ec1]
              intro S1 nS1
              have sD1 := same_new (o := .lst (iv (ns.take ci))) nS1
              have hS1 := seqL_of (K := K) (xs := iv (ns.take ci)) (upd_same (a := S1) (H := H18) (o := .lst (iv (ns.take ci))))
              have t1 : Two (ns.take ci) := fun k hk => two k (List.mem_of_mem_take hk)
              have m1 : Mid (ns.take ci) := fun k hk => mid k (List.mem_of_mem_take hk)
              have m2 : Mid (ns.drop ci) := fun k hk => mid k (List.mem_of_mem_drop hk)
              walk_at "sq go"
              refine ⟨⟨by omega, cu, m1, fun H19 s19 => ?_⟩⟩
              have hp19 := s19.seq (sD1.seq hpCs)
              walk_at "sq go"
              rw [ec2]
              intro S2 nS2
              have sD2 := same_new (o := .lst (iv (ns.drop ci))) nS2
              have hS2 := seqL_of (K := K) (xs := iv (ns.drop ci)) (upd_same (a := S2) (H := H19) (o := .lst (iv (ns.drop ci))))
              walk_at "sq go"
              refine ⟨⟨Nat.le_trans (ld _ t1) (by decide), cd _, m2, fun H20 s20 => ?_⟩⟩
              rw [sqT_comp t1, List.take_append_drop]
              walk_at "sq go"
              refine ifN (fun c => absurd rfl c) (fun _ => ?_)
              have hsD := hsC.on (((sD1.trans s19).trans sD2).trans s20)
              have hpD := seqL_of (K := K) (hsD.get upd_same)
              have e96 : ("`" : Str) = SX.S [96] := by decide +kernel
              rw [e96]
              walk_at "sq go"
              refine ⟨⟨by omega, cu, mid, fun H21 s21 => ?_⟩⟩
              rw [sqT_no two fun x hx => (gu x hx).2]
              walk_at "sq go"
              refine ifN (fun c => absurd rfl c) (fun _ => ?_)
              have k1 : ("aaAAaa" : Str) = SX.S [97, 97, 65, 65, 97, 97] := by decide +kernel
              have k2 : ("a" : Str) = SX.S [97] := by decide +kernel
              have k3 : ("aAAa" : Str) = SX.S [97, 65, 65, 97] := by decide +kernel
              have hsE := hsD.on s21
              rw [k1, k2, k3]
              walk_at "sq go"
              intro T2 nT2
              have sT2 := same_new (o := .lst (iv [2])) nT2
              have hT2 := seqL_of (K := K) (xs := iv [2]) (upd_same (a := T2) (H := H21) (o := .lst (iv [2])))
              walk_at "sq go"
              refine ⟨⟨by decide, by decide, fun k hk => by rw [List.mem_singleton.mp hk]; decide, fun H22 s22 => ?_⟩⟩
              rw [show sqT 97 [2] [97, 97, 65, 65, 97, 97] = [97, 65, 65, 97] by decide +kernel]
              have hsF := hsE.on (sT2.trans s22)
              walk_at "sq go"
              exact ⟨_, _, _, _, _, _, _, _, _, _, _, _, _, _, rfl, Sep3.mono (hsF.weak (same_new gp)) (by omega), hi9⟩
    · obtain ⟨x2, x3, x4, x5, x6, x7, x8, x9, x10, x11, x12, x13, x14, x15, rfl, hs, hi8⟩ := h.o
      have k1 : ("900^40, 7^30, 2" : Str) = SX.S (showL (List.replicate 40 900 ++ List.replicate 30 7 ++ [2])) := by decide +kernel
      rw [k1]
      have kb : (" " : Str) = SX.S [32] := by decide +kernel
      have k5 : ("a    b   c" : Str) = SX.S [97, 32, 32, 32, 32, 98, 32, 32, 32, 99] := by decide +kernel
      have k6 : ("a b c" : Str) = SX.S [97, 32, 98, 32, 99] := by decide +kernel
      have k7 : ("" : Str) = SX.S [] := by decide +kernel
      rw [kb, k5, k6, k7]
      obtain ⟨long, elong⟩ : ∃ l : List Int, l = List.replicate 40 900 ++ List.replicate 30 7 ++ [2] := ⟨_, rfl⟩
      have midl : Mid long := fun k hk => by
        rw [elong] at hk
        rcases List.mem_append.mp hk with z | z
        · rcases List.mem_append.mp z with z | z
          · rw [List.eq_of_mem_replicate z]
            decide
          · rw [List.eq_of_mem_replicate z]
            decide
        · rw [List.mem_singleton.mp z]
          decide
      have twol : Two long := fun k hk => (midl k hk).1
      have nl : NiceW long := ⟨fun k hk => ⟨twol k hk, Int.lt_trans (midl k hk).2 (by decide)⟩, by rw [elong]; decide, Nat.le_trans (grp_len _) (by rw [elong]; decide)⟩
      have rdl : RdOk (showL long) := rd_show (k := 2) (by rw [elong]; decide +kernel) (by decide) (by rw [elong]; decide +kernel)
      rw [← elong]
      walk_at "sq go"
      all_goals try exact long
      refine ⟨rdl, read_shown nl, fun L H2 s2 nL eL => ?_⟩
      have gL := hs.free nL
      have hsA := sep_add hs s2 nL eL
      clear hs
      walk_at "sq go"
      refine ⟨⟨by unfold Gd; decide, by decide, by decide, by omega⟩, fun u H3 lu gu hsB => ?_⟩
      have lu2 : u.length ≤ 2000 := lu
      have cu : ∀ x ∈ u ++ List.replicate 13 32, x < 0x110000 := fun x hx => by
        rcases List.mem_append.mp hx with z | z
        · exact Nat.lt_trans (gu x z).1 (by decide)
        · rw [List.eq_of_mem_replicate z]
          decide
      have z1 : (SX.S u).length + (SX.S (List.replicate 13 32)).length ≤ sizeLine := by
        rw [SX.S_len, SX.S_len, sizeLine_eq]
        simp
        omega
      walk_at "sq go"
      rw [repL_one]
      walk_at "sq go"
      rw [SX.S_cat]
      obtain ⟨wl, ewl⟩ : ∃ l : List Nat, l = u ++ List.replicate (Int.toNat 13) 32 := ⟨_, rfl⟩
      rw [← ewl]
      have lwl : wl.length ≤ 2013 := by
        rw [ewl]
        simp
        omega
      have ecut : cutS (SX.S wl) none (some 2000) = SX.S (wl.take 2000) := by
        rw [C8.cutS_slice, SX.slice_to (by decide)]
        rfl
      have cw : ∀ x ∈ wl.take 2000, x < 0x110000 := fun x hx => cu x (by
        have := List.mem_of_mem_take hx
        rw [ewl] at this
        exact this)
      have lw : (wl.take 2000).length ≤ 2000 := by
        rw [List.length_take]
        exact Nat.min_le_left ..
      have lS : (SX.S wl).length ≤ sizeLine := by
        rw [SX.S_len, sizeLine_eq]
        omega
      refine ⟨lS, ?_⟩
      rw [ecut]
      have hL3 := hsB.get upd_same
      walk_at "sq go"
      refine for_list (K := K) (a := L) (xs := iv long) (fun t σ' H8 => Keep (∃ x5 x6 x8 x9 x10 x11 x12, σ' = [some (.ref p0), some (.ref r), x2, x3, some (.str (SX.S wl)), x5, x6, some (.str (SX.S (sqT 32 (long.take t) (wl.take 2000)))), x8, x9, x10, x11, x12, some (.ref L), x14, x15] ∧ Same H3 H8)) ⟨_, _, _, _, _, _, _, by rw [List.take_zero, sqT_nil]; rfl, .refl _⟩ (fun t σ' H8 _ h => ?_) (fun t x σ' H8 hx h => ?_) (fun σ' H8 h => ?_)
      · obtain ⟨_, _, _, _, _, _, _, _, s8⟩ := h.o
        exact seqL_of (s8 _ _ hL3)
      · obtain ⟨x5, x6, x8, x9, x10, x11, x12, rfl, s8⟩ := h.o
        obtain ⟨k, hk, rfl⟩ := iv_get hx
        walk_at "sq go"
        refine ⟨⟨Nat.le_trans (sqT_len (fun k hk => twol k (List.mem_of_mem_take hk)) _) lw, twol k (List.mem_of_getElem? hk)⟩, fun H9 s9 => ?_⟩
        walk_at "sq go"
        refine ⟨x5, x6, some (.int k), x9, x10, x11, x12, ?_, s8.trans s9⟩
        rw [show long.take (t + 1) = long.take t ++ [k] by rw [List.take_add_one, hk]; rfl, ← sqT_comp fun k hk => twol k (List.mem_of_mem_take hk)]
        rfl
      · obtain ⟨x5, x6, x8, x9, x10, x11, x12, rfl, s8⟩ := h.o
        rw [iv_len, List.take_length]
        have hL8 := seqL_of (K := K) (s8 _ _ hL3)
        walk_at "sq go"
        have eX := SX.S_inj ecut
        rw [eX]
        refine ⟨⟨by omega, cw, midl, fun H9 s9 => ?_⟩⟩
        walk_at "sq go"
        refine ifN (fun c => absurd rfl c) (fun _ => ?_)
        walk_at "sq go"
        intro A1 nA1
        have hA1 := seqL_of (K := K) (xs := iv [2]) (upd_same (a := A1) (H := H9) (o := .lst (iv [2])))
        walk_at "sq go"
        refine ⟨⟨by decide, (fun x z => nomatch z), fun k hk => by rw [List.mem_singleton.mp hk]; decide, fun H10 s10 => ?_⟩⟩
        rw [show sqT 32 [2] [] = [] by decide +kernel]
        walk_at "sq go"
        intro A2 nA2
        have hA2 := seqL_of (K := K) (xs := iv [3, 2]) (upd_same (a := A2) (H := H10) (o := .lst (iv [3, 2])))
        walk_at "sq go"
        refine ⟨⟨by decide, by decide, fun k hk => ?_, fun H11 s11 => ?_⟩⟩
        · rcases List.mem_cons.mp hk with rfl | hk
          · decide
          · rw [List.mem_singleton.mp hk]
            decide
        · rw [show sqT 32 [3, 2] [97, 32, 32, 32, 32, 98, 32, 32, 32, 99] = [97, 32, 98, 32, 99] by decide +kernel]
          walk_at "sq go"
          exact q _
end
end Sq
open PySem PySem.W PyProof.Rows in
set_option maxRecDepth 100000 in
set_option maxHeartbeats 0 in
theorem PySem.Challenge.cw_squeezelists_k03_whole_texts_squeezed_holds : PySem.Challenge.rw_squeezelists_k03_whole_texts_squeezed.Holds := by
  w_on; o_law; k_head; (case hw => w_witness2)
  k_fill
  refine Sq.walk_ofG (l := PySem.Challenge.rw_squeezelists_k03_whole_texts_squeezed) (n := 63) (k := 6) (x := "script") (sp := Sq.spLaw) rfl (by decide) rfl ⟨rfl, by decide, by decide⟩ (fun w h Y => PySem.W.kIn_of Y) ?F (fun K H a ns hl hS => ⟨a, ns, rfl, hS, hl, fun _ => rfl⟩)
  case F =>
    intro w mg fa h KX G hmg
    have B : Sq.Bt mg := by
      refine' ⟨PySem.W.mg_none_of KX G ?z0, PySem.W.mg_none_of KX G ?z1, PySem.W.mg_none_of KX G ?z2, PySem.W.mg_none_of KX G ?z3, PySem.W.mg_none_of KX G ?z4, PySem.W.mg_none_of KX G ?z5, PySem.W.mg_none_of KX G ?z6, PySem.W.mg_none_of KX G ?z7, PySem.W.mg_none_of KX G ?z8, PySem.W.mg_none_of KX G ?z9, PySem.W.mg_none_of KX G ?z10, PySem.W.mg_none_of KX G ?z11⟩
      (case z0 => k_is)
      (case z1 => k_is)
      (case z2 => k_is)
      (case z3 => k_is)
      (case z4 => k_is)
      (case z5 => k_is)
      (case z6 => k_is)
      (case z7 => k_is)
      (case z8 => k_is)
      (case z9 => k_is)
      (case z10 => k_is)
      (case z11 => k_is)
    have g_SEPARATOR : ∃ u, mg "SEPARATOR" = some u ∧ L2.RelV (L2.V.str ", ") u := by
      refine' ⟨?u_SEPARATOR, PySem.W.mg_of KX G ?a_SEPARATOR, ?r_SEPARATOR⟩
      (case a_SEPARATOR => k_is)
      (case r_SEPARATOR => first | exact ⟨_, rfl⟩ | exact ⟨_, congrArg (fun z => PySem.Value.str z _) (by decide +kernel)⟩)
    have g_POWER : ∃ u, mg "POWER" = some u ∧ L2.RelV (L2.V.str "^") u := by
      refine' ⟨?u_POWER, PySem.W.mg_of KX G ?a_POWER, ?r_POWER⟩
      (case a_POWER => k_is)
      (case r_POWER => first | exact ⟨_, rfl⟩ | exact ⟨_, congrArg (fun z => PySem.Value.str z _) (by decide +kernel)⟩)
    have g_NO_REPLACEMENTS : ∃ u, mg "NO_REPLACEMENTS" = some u ∧ L2.RelV (L2.V.str "none") u := by
      refine' ⟨?u_NO_REPLACEMENTS, PySem.W.mg_of KX G ?a_NO_REPLACEMENTS, ?r_NO_REPLACEMENTS⟩
      (case a_NO_REPLACEMENTS => k_is)
      (case r_NO_REPLACEMENTS => first | exact ⟨_, rfl⟩ | exact ⟨_, congrArg (fun z => PySem.Value.str z _) (by decide +kernel)⟩)
    have g_DIGITS : ∃ u, mg "DIGITS" = some u ∧ L2.RelV (L2.V.str "0123456789") u := by
      refine' ⟨?u_DIGITS, PySem.W.mg_of KX G ?a_DIGITS, ?r_DIGITS⟩
      (case a_DIGITS => k_is)
      (case r_DIGITS => first | exact ⟨_, rfl⟩ | exact ⟨_, congrArg (fun z => PySem.Value.str z _) (by decide +kernel)⟩)
    have g_MOST_DIGITS : ∃ u, mg "MOST_DIGITS" = some u ∧ L2.RelV (L2.V.int 200) u := by
      refine' ⟨?u_MOST_DIGITS, PySem.W.mg_of KX G ?a_MOST_DIGITS, ?r_MOST_DIGITS⟩
      (case a_MOST_DIGITS => k_is)
      (case r_MOST_DIGITS => first | exact ⟨_, rfl⟩ | exact ⟨_, congrArg (fun z => PySem.Value.str z _) (by decide +kernel)⟩)
    refine' Sq.cutD (Sq.DefAt.mk1 (x := "check_list") (st := Sq.s_check_list) (ps := ["replacements"]) KX G ?a_check_list ?l_check_list ?c_check_list ?k_check_list (fun _ _ _ _ _ _ us hl => match us, hl with | [_], _ => rfl)) ?_
    (case a_check_list => k_is); (case l_check_list => k_is); (case c_check_list => k_is); (case k_check_list => k_is)
    intro D_check_list
    refine' Sq.cutD (Sq.DefAt.mk1 (x := "check_length") (st := Sq.s_check_length) (ps := ["length"]) KX G ?a_check_length ?l_check_length ?c_check_length ?k_check_length (fun _ _ _ _ _ _ us hl => match us, hl with | [_], _ => rfl)) ?_
    (case a_check_length => k_is); (case l_check_length => k_is); (case c_check_length => k_is); (case k_check_length => k_is)
    intro D_check_length
    refine' Sq.cutD (Sq.DefAt.mk1 (x := "check_character") (st := Sq.s_check_character) (ps := ["character"]) KX G ?a_check_character ?l_check_character ?c_check_character ?k_check_character (fun _ _ _ _ _ _ us hl => match us, hl with | [_], _ => rfl)) ?_
    (case a_check_character => k_is); (case l_check_character => k_is); (case c_check_character => k_is); (case k_check_character => k_is)
    intro D_check_character
    refine' Sq.cutD (Sq.DefAt.mk1 (x := "squeezed_once") (st := Sq.s_squeezed_once) (ps := ["length", "replacement"]) KX G ?a_squeezed_once ?l_squeezed_once ?c_squeezed_once ?k_squeezed_once (fun _ _ _ _ _ _ us hl => match us, hl with | [_, _], _ => rfl)) ?_
    (case a_squeezed_once => k_is); (case l_squeezed_once => k_is); (case c_squeezed_once => k_is); (case k_squeezed_once => k_is)
    intro D_squeezed_once
    refine' Sq.cutD (Sq.DefAt.mk1 (x := "squeezed_by") (st := Sq.s_squeezed_by) (ps := ["length", "replacements"]) KX G ?a_squeezed_by ?l_squeezed_by ?c_squeezed_by ?k_squeezed_by (fun _ _ _ _ _ _ us hl => match us, hl with | [_, _], _ => rfl)) ?_
    (case a_squeezed_by => k_is); (case l_squeezed_by => k_is); (case c_squeezed_by => k_is); (case k_squeezed_by => k_is)
    intro D_squeezed_by
    refine' Sq.cutD (Sq.DefAt.mk1 (x := "squeezed") (st := Sq.s_squeezed) (ps := ["length", "replacements"]) KX G ?a_squeezed ?l_squeezed ?c_squeezed ?k_squeezed (fun _ _ _ _ _ _ us hl => match us, hl with | [_, _], _ => rfl)) ?_
    (case a_squeezed => k_is); (case l_squeezed => k_is); (case c_squeezed => k_is); (case k_squeezed => k_is)
    intro D_squeezed
    refine' Sq.cutD (Sq.DefAt.mk1 (x := "pieces_of") (st := Sq.s_pieces_of) (ps := ["text", "character"]) KX G ?a_pieces_of ?l_pieces_of ?c_pieces_of ?k_pieces_of (fun _ _ _ _ _ _ us hl => match us, hl with | [_, _], _ => rfl)) ?_
    (case a_pieces_of => k_is); (case l_pieces_of => k_is); (case c_pieces_of => k_is); (case k_pieces_of => k_is)
    intro D_pieces_of
    refine' Sq.cutD (Sq.DefAt.mk1 (x := "squeezed_text") (st := Sq.s_squeezed_text) (ps := ["text", "character", "replacements"]) KX G ?a_squeezed_text ?l_squeezed_text ?c_squeezed_text ?k_squeezed_text (fun _ _ _ _ _ _ us hl => match us, hl with | [_, _, _], _ => rfl)) ?_
    (case a_squeezed_text => k_is); (case l_squeezed_text => k_is); (case c_squeezed_text => k_is); (case k_squeezed_text => k_is)
    intro D_squeezed_text
    refine' Sq.cutD (Sq.DefAt.mk1 (x := "squeeze_text") (st := Sq.s_squeeze_text) (ps := ["text", "character", "replacements"]) KX G ?a_squeeze_text ?l_squeeze_text ?c_squeeze_text ?k_squeeze_text (fun _ _ _ _ _ _ us hl => match us, hl with | [_, _, _], _ => rfl)) ?_
    (case a_squeeze_text => k_is); (case l_squeeze_text => k_is); (case c_squeeze_text => k_is); (case k_squeeze_text => k_is)
    intro D_squeeze_text
    refine' Sq.cutD (Sq.DefAt.mk1 (x := "equal_neighbours") (st := Sq.s_equal_neighbours) (ps := ["replacements"]) KX G ?a_equal_neighbours ?l_equal_neighbours ?c_equal_neighbours ?k_equal_neighbours (fun _ _ _ _ _ _ us hl => match us, hl with | [_], _ => rfl)) ?_
    (case a_equal_neighbours => k_is); (case l_equal_neighbours => k_is); (case c_equal_neighbours => k_is); (case k_equal_neighbours => k_is)
    intro D_equal_neighbours
    refine' Sq.cutD (Sq.DefAt.mk1 (x := "show_list") (st := Sq.s_show_list) (ps := ["replacements"]) KX G ?a_show_list ?l_show_list ?c_show_list ?k_show_list (fun _ _ _ _ _ _ us hl => match us, hl with | [_], _ => rfl)) ?_
    (case a_show_list => k_is); (case l_show_list => k_is); (case c_show_list => k_is); (case k_show_list => k_is)
    intro D_show_list
    refine' Sq.cutD (Sq.DefAt.mk1 (x := "number_in") (st := Sq.s_number_in) (ps := ["word"]) KX G ?a_number_in ?l_number_in ?c_number_in ?k_number_in (fun _ _ _ _ _ _ us hl => match us, hl with | [_], _ => rfl)) ?_
    (case a_number_in => k_is); (case l_number_in => k_is); (case c_number_in => k_is); (case k_number_in => k_is)
    intro D_number_in
    refine' Sq.cutD (Sq.DefAt.mk1 (x := "numbers_in") (st := Sq.s_numbers_in) (ps := ["word"]) KX G ?a_numbers_in ?l_numbers_in ?c_numbers_in ?k_numbers_in (fun _ _ _ _ _ _ us hl => match us, hl with | [_], _ => rfl)) ?_
    (case a_numbers_in => k_is); (case l_numbers_in => k_is); (case c_numbers_in => k_is); (case k_numbers_in => k_is)
    intro D_numbers_in
    refine' Sq.cutD (Sq.DefAt.mk1 (x := "read_list") (st := Sq.s_read_list) (ps := ["text"]) KX G ?a_read_list ?l_read_list ?c_read_list ?k_read_list (fun _ _ _ _ _ _ us hl => match us, hl with | [_], _ => rfl)) ?_
    (case a_read_list => k_is); (case l_read_list => k_is); (case c_read_list => k_is); (case k_read_list => k_is)
    intro D_read_list
    refine' Sq.cutD (Sq.DefAt.mk1 (x := "_law_rng") (st := Sq.s_law_rng) (ps := ["script"]) KX G ?a_law_rng ?l_law_rng ?c_law_rng ?k_law_rng (fun _ _ _ _ _ _ us hl => match us, hl with | [_], _ => rfl)) ?_
    (case a_law_rng => k_is); (case l_law_rng => k_is); (case c_law_rng => k_is); (case k_law_rng => k_is)
    intro D_law_rng
    refine' Sq.cutD (Sq.DefAt.mk1 (x := "_law_draw") (st := Sq.s_law_draw) (ps := ["rng", "limit"]) KX G ?a_law_draw ?l_law_draw ?c_law_draw ?k_law_draw (fun _ _ _ _ _ _ us hl => match us, hl with | [_, _], _ => rfl)) ?_
    (case a_law_draw => k_is); (case l_law_draw => k_is); (case c_law_draw => k_is); (case k_law_draw => k_is)
    intro D_law_draw
    refine' Sq.cutD (Sq.DefAt.mk1 (x := "_law_list") (st := Sq.s_law_list) (ps := ["rng", "most", "greatest"]) KX G ?a_law_list ?l_law_list ?c_law_list ?k_law_list (fun _ _ _ _ _ _ us hl => match us, hl with | [_, _, _], _ => rfl)) ?_
    (case a_law_list => k_is); (case l_law_list => k_is); (case c_law_list => k_is); (case k_law_list => k_is)
    intro D_law_list
    refine' Sq.cutD (Sq.DefAt.mk1 (x := "_law_piece") (st := Sq.s_law_piece) (ps := ["rng", "sign", "most"]) KX G ?a_law_piece ?l_law_piece ?c_law_piece ?k_law_piece (fun _ _ _ _ _ _ us hl => match us, hl with | [_, _, _], _ => rfl)) ?_
    (case a_law_piece => k_is); (case l_law_piece => k_is); (case c_law_piece => k_is); (case k_law_piece => k_is)
    intro D_law_piece
    refine' Sq.cutD (Sq.DefAt.mk1 (x := "_law_written") (st := Sq.s_law_written) (ps := ["rng", "sign", "most"]) KX G ?a_law_written ?l_law_written ?c_law_written ?k_law_written (fun _ _ _ _ _ _ us hl => match us, hl with | [_, _, _], _ => rfl)) ?_
    (case a_law_written => k_is); (case l_law_written => k_is); (case c_law_written => k_is); (case k_law_written => k_is)
    intro D_law_written
    refine' Sq.cutD (Sq.DefAt.mk1 (x := "_law_replaced") (st := Sq.s_law_replaced) (ps := ["written", "sign", "number"]) KX G ?a_law_replaced ?l_law_replaced ?c_law_replaced ?k_law_replaced (fun _ _ _ _ _ _ us hl => match us, hl with | [_, _, _], _ => rfl)) ?_
    (case a_law_replaced => k_is); (case l_law_replaced => k_is); (case c_law_replaced => k_is); (case k_law_replaced => k_is)
    intro D_law_replaced
    refine' Sq.cutD (Sq.DefAt.mk1 (x := "_law_runs") (st := Sq.s_law_runs) (ps := ["written", "sign"]) KX G ?a_law_runs ?l_law_runs ?c_law_runs ?k_law_runs (fun _ _ _ _ _ _ us hl => match us, hl with | [_, _], _ => rfl)) ?_
    (case a_law_runs => k_is); (case l_law_runs => k_is); (case c_law_runs => k_is); (case k_law_runs => k_is)
    intro D_law_runs
    refine' Sq.cutD (Sq.DefAt.mk1 (x := "law") (st := Sq.s_law) (ps := ["script"]) KX G ?a_law ?l_law ?c_law ?k_law (fun _ _ _ _ _ _ us hl => match us, hl with | [_], _ => rfl)) ?_
    (case a_law => k_is); (case l_law => k_is); (case c_law => k_is); (case k_law => k_is)
    intro D_law
    refine' Sq.cutD (Sq.glob_mk (x := "InvalidList") KX G ?aC_InvalidList) ?_
    (case aC_InvalidList => k_is)
    intro C_InvalidList
    refine' Sq.cutD (Sq.glob_mk (x := "InvalidNumber") KX G ?aC_InvalidNumber) ?_
    (case aC_InvalidNumber => k_is)
    intro C_InvalidNumber
    refine' Sq.cutD (Sq.glob_mk (x := "InvalidCharacter") KX G ?aC_InvalidCharacter) ?_
    (case aC_InvalidCharacter => k_is)
    intro C_InvalidCharacter
    refine' Sq.cutD (Sq.glob_mk (x := "Unreadable") KX G ?aC_Unreadable) ?_
    (case aC_Unreadable => k_is)
    intro C_Unreadable
    have txc : Sq.TxC mg := ⟨g_SEPARATOR, g_POWER, g_NO_REPLACEMENTS⟩
    have rd : Sq.RdC mg := ⟨g_DIGITS, g_MOST_DIGITS⟩
    obtain ⟨fd, F, hb⟩ := D_law.law hmg (fun _ _ _ _ _ _ us hl => match us, hl with | [_], _ => rfl)
    refine ⟨fd, hb, fun base _ _ => ?_⟩
    refine' Sq.cutD (Sq.rai_mk (P := PySem.Challenge.rw_squeezelists_k03_whole_texts_squeezed.prog) (w := w) (base := base) KX G C_InvalidList ?lC_InvalidList ?rC_InvalidList ?sa_InvalidList ?ex_InvalidList ?ty_InvalidList ?kc_InvalidList ?ini_InvalidList ?tyf_InvalidList ?l_InvalidList ?co_InvalidList ?cell_InvalidList ?rec__InvalidList ?v2_InvalidList ?fl_InvalidList ?top_InvalidList ?opq_InvalidList ?sup_InvalidList ?veb_InvalidList ?slf_InvalidList ?val_InvalidList ?ms_InvalidList ?he_InvalidList ?hb_InvalidList) ?_
    (case lC_InvalidList => k_is)
    (case rC_InvalidList => decide +kernel)
    (case sa_InvalidList => k_is)
    (case ex_InvalidList => k_is)
    (case ty_InvalidList => k_is)
    (case kc_InvalidList => k_is)
    (case ini_InvalidList => k_is)
    (case tyf_InvalidList => k_is)
    (case l_InvalidList => k_is)
    (case co_InvalidList => k_is)
    (case cell_InvalidList => k_is)
    (case rec__InvalidList => k_is)
    (case v2_InvalidList => rfl)
    (case fl_InvalidList => rfl)
    (case top_InvalidList => rfl)
    (case opq_InvalidList => k_is)
    (case sup_InvalidList => ks_is)
    (case veb_InvalidList => k_is)
    (case slf_InvalidList => k_is)
    (case val_InvalidList => k_is)
    (case ms_InvalidList => k_is)
    (case he_InvalidList => exact fun _ => rfl)
    (case hb_InvalidList => exact fun us hl => match us, hl with | [_, _], _ => rfl)
    intro R_InvalidList
    refine' Sq.cutD (Sq.rai_mk (P := PySem.Challenge.rw_squeezelists_k03_whole_texts_squeezed.prog) (w := w) (base := base) KX G C_InvalidNumber ?lC_InvalidNumber ?rC_InvalidNumber ?sa_InvalidNumber ?ex_InvalidNumber ?ty_InvalidNumber ?kc_InvalidNumber ?ini_InvalidNumber ?tyf_InvalidNumber ?l_InvalidNumber ?co_InvalidNumber ?cell_InvalidNumber ?rec__InvalidNumber ?v2_InvalidNumber ?fl_InvalidNumber ?top_InvalidNumber ?opq_InvalidNumber ?sup_InvalidNumber ?veb_InvalidNumber ?slf_InvalidNumber ?val_InvalidNumber ?ms_InvalidNumber ?he_InvalidNumber ?hb_InvalidNumber) ?_
    (case lC_InvalidNumber => k_is)
    (case rC_InvalidNumber => decide +kernel)
    (case sa_InvalidNumber => k_is)
    (case ex_InvalidNumber => k_is)
    (case ty_InvalidNumber => k_is)
    (case kc_InvalidNumber => k_is)
    (case ini_InvalidNumber => k_is)
    (case tyf_InvalidNumber => k_is)
    (case l_InvalidNumber => k_is)
    (case co_InvalidNumber => k_is)
    (case cell_InvalidNumber => k_is)
    (case rec__InvalidNumber => k_is)
    (case v2_InvalidNumber => rfl)
    (case fl_InvalidNumber => rfl)
    (case top_InvalidNumber => rfl)
    (case opq_InvalidNumber => k_is)
    (case sup_InvalidNumber => ks_is)
    (case veb_InvalidNumber => k_is)
    (case slf_InvalidNumber => k_is)
    (case val_InvalidNumber => k_is)
    (case ms_InvalidNumber => k_is)
    (case he_InvalidNumber => exact fun _ => rfl)
    (case hb_InvalidNumber => exact fun us hl => match us, hl with | [_, _], _ => rfl)
    intro R_InvalidNumber
    refine' Sq.cutD (Sq.rai_mk (P := PySem.Challenge.rw_squeezelists_k03_whole_texts_squeezed.prog) (w := w) (base := base) KX G C_InvalidCharacter ?lC_InvalidCharacter ?rC_InvalidCharacter ?sa_InvalidCharacter ?ex_InvalidCharacter ?ty_InvalidCharacter ?kc_InvalidCharacter ?ini_InvalidCharacter ?tyf_InvalidCharacter ?l_InvalidCharacter ?co_InvalidCharacter ?cell_InvalidCharacter ?rec__InvalidCharacter ?v2_InvalidCharacter ?fl_InvalidCharacter ?top_InvalidCharacter ?opq_InvalidCharacter ?sup_InvalidCharacter ?veb_InvalidCharacter ?slf_InvalidCharacter ?val_InvalidCharacter ?ms_InvalidCharacter ?he_InvalidCharacter ?hb_InvalidCharacter) ?_
    (case lC_InvalidCharacter => k_is)
    (case rC_InvalidCharacter => decide +kernel)
    (case sa_InvalidCharacter => k_is)
    (case ex_InvalidCharacter => k_is)
    (case ty_InvalidCharacter => k_is)
    (case kc_InvalidCharacter => k_is)
    (case ini_InvalidCharacter => k_is)
    (case tyf_InvalidCharacter => k_is)
    (case l_InvalidCharacter => k_is)
    (case co_InvalidCharacter => k_is)
    (case cell_InvalidCharacter => k_is)
    (case rec__InvalidCharacter => k_is)
    (case v2_InvalidCharacter => rfl)
    (case fl_InvalidCharacter => rfl)
    (case top_InvalidCharacter => rfl)
    (case opq_InvalidCharacter => k_is)
    (case sup_InvalidCharacter => ks_is)
    (case veb_InvalidCharacter => k_is)
    (case slf_InvalidCharacter => k_is)
    (case val_InvalidCharacter => k_is)
    (case ms_InvalidCharacter => k_is)
    (case he_InvalidCharacter => exact fun _ => rfl)
    (case hb_InvalidCharacter => exact fun us hl => match us, hl with | [_, _], _ => rfl)
    intro R_InvalidCharacter
    refine' Sq.cutD (Sq.rai_mk (P := PySem.Challenge.rw_squeezelists_k03_whole_texts_squeezed.prog) (w := w) (base := base) KX G C_Unreadable ?lC_Unreadable ?rC_Unreadable ?sa_Unreadable ?ex_Unreadable ?ty_Unreadable ?kc_Unreadable ?ini_Unreadable ?tyf_Unreadable ?l_Unreadable ?co_Unreadable ?cell_Unreadable ?rec__Unreadable ?v2_Unreadable ?fl_Unreadable ?top_Unreadable ?opq_Unreadable ?sup_Unreadable ?veb_Unreadable ?slf_Unreadable ?val_Unreadable ?ms_Unreadable ?he_Unreadable ?hb_Unreadable) ?_
    (case lC_Unreadable => k_is)
    (case rC_Unreadable => decide +kernel)
    (case sa_Unreadable => k_is)
    (case ex_Unreadable => k_is)
    (case ty_Unreadable => k_is)
    (case kc_Unreadable => k_is)
    (case ini_Unreadable => k_is)
    (case tyf_Unreadable => k_is)
    (case l_Unreadable => k_is)
    (case co_Unreadable => k_is)
    (case cell_Unreadable => k_is)
    (case rec__Unreadable => k_is)
    (case v2_Unreadable => rfl)
    (case fl_Unreadable => rfl)
    (case top_Unreadable => rfl)
    (case opq_Unreadable => k_is)
    (case sup_Unreadable => ks_is)
    (case veb_Unreadable => k_is)
    (case slf_Unreadable => k_is)
    (case val_Unreadable => k_is)
    (case ms_Unreadable => k_is)
    (case he_Unreadable => exact fun _ => rfl)
    (case hb_Unreadable => exact fun us hl => match us, hl with | [_, _], _ => rfl)
    intro R_Unreadable
    have ccl := Sq.cal_check_listX (P := PySem.Challenge.rw_squeezelists_k03_whole_texts_squeezed.prog) (w := w) (base := base) D_check_list B R_InvalidList
    have cln := Sq.cal_check_lengthX (P := PySem.Challenge.rw_squeezelists_k03_whole_texts_squeezed.prog) (w := w) (base := base) D_check_length B R_InvalidNumber
    have cch := Sq.cal_check_chX (P := PySem.Challenge.rw_squeezelists_k03_whole_texts_squeezed.prog) (w := w) (base := base) D_check_character B R_InvalidCharacter
    have con := Sq.cal_squeezed_once (P := PySem.Challenge.rw_squeezelists_k03_whole_texts_squeezed.prog) (w := w) (base := base) D_squeezed_once B
    have cby := Sq.cal_squeezed_by D_squeezed_by B con
    have sq := Sq.sq_calm (Sq.two_squeezedX D_squeezed B cln ccl cby)
    have tx := Sq.tx_calm (Sq.two_sqtextX D_squeeze_text B cch ccl (Sq.cal_sqtext D_squeezed_text B (Sq.cal_pieces D_pieces_of B) cby))
    have txk : Sq.CalK _ _ _ _ _ _ "squeeze_text" ["replacements", "character", "text"] (Sq.spTxK _) := tx.calK (fun {α} (l : List α) => match l with | [a, b, c] => [c, b, a] | l => l) (fun {vs us} r => by
      cases r with
      | nil => exact .nil
      | cons a r => cases r with
        | nil => exact .cons a .nil
        | cons b r => cases r with
          | nil => exact .cons a (.cons b .nil)
          | cons c r => cases r with
            | nil => exact .cons c (.cons b (.cons a .nil))
            | cons d r => exact .cons a (.cons b (.cons c (.cons d r)))) (fun kV doc pm an cdv ct ws hl => match ws, hl with | [_, _, _], _ => rfl) (by
      rintro zs H Q E ⟨u, c, p, ks, rfl, h⟩
      exact ⟨rfl, u, c, p, ks, rfl, h⟩)
    have ce := Sq.cal_equal (P := PySem.Challenge.rw_squeezelists_k03_whole_texts_squeezed.prog) (w := w) (base := base) D_equal_neighbours B
    have s2 := Sq.two_show D_show_list B txc ce
    have cr := (Sq.two_readX D_read_list B txc (Sq.cal_numbers_in D_numbers_in B txc (Sq.cal_number_in D_number_in B rd)) s2.cal R_Unreadable).calX
    have cd := Sq.drawW3 (Sq.cal_drawW (P := PySem.Challenge.rw_squeezelists_k03_whole_texts_squeezed.prog) (w := w) (base := base) D_law_draw B)
    refine Sq.ok_law F B (Sq.cal_rng D_law_rng B) cd (Sq.cal_list4 D_law_list B cd) (Sq.cal_written D_law_written B cd (Sq.cal_piece D_law_piece B cd)) (Sq.cal_repl D_law_replaced B) (Sq.cal_runs D_law_runs B) sq.cal tx.cal txk (Sq.read_calm cr)
