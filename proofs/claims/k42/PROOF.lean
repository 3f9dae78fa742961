import PyProof.Rows.All
import Wide.All
import OpenK.AllK
import Wide.FinOn
import HandS.ForMost
import HandS.Wide
import HandS.Style
import HandS.SortInts
import HandS.Deep
import HandS.Defaults
import HandS.Flow
import HandS.IsInst
import HandS.Codes
import HandS.NoneIn
import HandS.Property
import HandS.RaiseMore
import PyProof.ReprRoads
import PyProof.LongRange
import HandS.Exc
import HandS.ExcInit
import HandS.NestedK
import KE.KExcSuper
import HandS.ExcIs
import HandS.ExcField
import KE.KExcIs
import HandS.WordsExc
import HandS.MakeKwOnly
import HandS.SetFor
import KE.RegKIsAll
import HandS.Walk
import HandS.Star
import KE.KUnpackStar
import PyProof.StrOps2
import PySem.Challenge.RW_squeezelists_k42_whole_texts_of_lists
set_option Elab.async false
set_option linter.all false
set_option maxRecDepth 100000
set_option maxHeartbeats 4000000
namespace Sq
open PySem PySem.Spec PyProof.Rows L2
/-! ## operators -/
/-- a power whose base has at most 100000 bits -/
def CPowW (i j : Int) : Prop := 0 ≤ j ∧ j ≤ 1000 ∧ i.natAbs.log2 < 100000
theorem bitsOf_le (i : Int) : Builtin.Int.intBits i ≤ i.natAbs.log2 + 1 := by
  unfold Builtin.Int.intBits
  split <;> omega
theorem op_powW {X : Cx} : OpR X (binaryOp .Pow) (rI CPowW fun i j => .int (i ^ j.toNat)) := opI fun i j _ _ _ _ _ hc q => by
  obtain ⟨h1, h2, h3⟩ := hc
  refine pow_int h1 ?_ q
  have hb := bitsOf_le i
  have h4 : ((Builtin.Int.intBits i : Nat) : Int) ≤ 100000 := by omega
  have h5 := Int.mul_le_mul h4 h2 h1 (by decide : (0 : Int) ≤ 100000)
  exact Int.le_trans h5 (by decide)
def ipIC (C : Int → Int → Prop) (f : Int → Int → Int) : TIp := fun x y H Q => ∃ i j, x = .int i ∧ y = .int j ∧ C i j ∧ Q (.int (f i j)) H
section
variable {X : Cx}
theorem ip_mulW : PIp X .Mult (ipIC CMulW fun i j => i * j) := by
  intro pins s σ H x y v u Q I r1 r2 h
  obtain ⟨i, j, e1, e2, c, q⟩ := h
  subst e1; subst e2
  obtain ⟨t, rfl⟩ := r1
  obtain ⟨t', rfl⟩ := r2
  exact imul_int ⟨.int _, H, I.tok _, ⟨_, rfl⟩, q⟩ c.ok
theorem ip_fdivW : PIp X .FloorDiv (ipIC CDivW fun i j => i / j) := by
  intro pins s σ H x y v u Q I r1 r2 h
  obtain ⟨i, j, e1, e2, c, q⟩ := h
  subst e1; subst e2
  obtain ⟨t, rfl⟩ := r1
  obtain ⟨t', rfl⟩ := r2
  have h1 : (0 : Int) < j := c.1
  refine ifloordiv_int (by omega) ?_ (.inl (PyProof.noPylong_of_log2 c.2))
  rw [Int.fdiv_eq_ediv_of_nonneg i (by omega)]
  exact ⟨.int _, H, I.tok _, ⟨_, rfl⟩, q⟩
end
/-- numbers below 2 ^ n have a small log2 -/
theorem lg_lt {i : Int} {n : Nat} (h : i.natAbs < 2 ^ n) (h0 : 0 < n) : i.natAbs.log2 < n := PySem.Flt.log2_lt_of h0 h

/-! ## sizes -/
/-- at most b bits -/
def Sm (b : Nat) (i : Int) : Prop := i.natAbs < 2 ^ b
theorem Sm.mono {a b : Nat} {i : Int} (h : Sm a i) (hab : a ≤ b) : Sm b i := Nat.lt_of_lt_of_le h (Nat.pow_le_pow_right (by decide) hab)
theorem Sm.lg {b : Nat} {i : Int} (h : Sm b i) (h0 : 0 < b) : i.natAbs.log2 < b := PySem.Flt.log2_lt_of h0 h
theorem Sm.add {b : Nat} {i j : Int} (h : Sm b i) (h' : Sm b j) : Sm (b + 1) (i + j) := by
  have e : 2 ^ (b + 1) = 2 ^ b + 2 ^ b := by rw [Nat.pow_succ]; omega
  unfold Sm at *
  omega
theorem Sm.neg {b : Nat} {i : Int} (h : Sm b i) : Sm b (-i) := by
  unfold Sm at *
  rw [Int.natAbs_neg]
  exact h
theorem Sm.sub {b : Nat} {i j : Int} (h : Sm b i) (h' : Sm b j) : Sm (b + 1) (i - j) := by
  rw [Int.sub_eq_add_neg]
  exact h.add h'.neg
theorem Sm.mul {a b : Nat} {i j : Int} (h : Sm a i) (h' : Sm b j) : Sm (a + b) (i * j) := by
  unfold Sm at *
  rw [Int.natAbs_mul, Nat.pow_add]
  exact Nat.mul_lt_mul'' h h'
theorem Sm.le {b : Nat} {i j : Int} (h : Sm b j) (h0 : 0 ≤ i) (hij : i ≤ j) : Sm b i := by
  unfold Sm at *
  omega
theorem Sm.wide {a b : Nat} {i j : Int} (h : Sm a i) (h' : Sm b j) (ha : 0 < a) (hb : 0 < b) (hab : a + b ≤ 1000000) : CMulW i j := by
  have h1 := h.lg ha
  have h2 := h'.lg hb
  unfold CMulW
  omega
/-- a small number -/
theorem Sm.of {b : Nat} {i : Int} (h : i.natAbs < 2 ^ 10) (hb : 10 ≤ b) : Sm b i := Sm.mono (a := 10) h hb
theorem div_ok {i k : Int} (h : 0 < k) (h2 : k < 2 ^ 240) : CDivW i k := ⟨h, Nat.lt_trans ((show Sm 240 k by unfold Sm; omega).lg (by decide)) (by decide)⟩
theorem pow_ok {b : Nat} {i j : Int} (h : Sm b i) (h0 : 0 < b) (hb : b ≤ 100000) (j0 : 0 ≤ j) (j1 : j ≤ 1000) : CPowW i j := ⟨j0, j1, Nat.lt_of_lt_of_le (h.lg h0) hb⟩
/-! ## rules whose reading speaks of the written part K itself (a comprehension's block has it too) -/
section
variable {X : Cx} {K : PySem.W.Frag}
theorem ix_listK (h : X.K = K := by rfl) : IxR X (rIxL K) := by subst h; exact ix_list
theorem ix_tupK (h : X.K = K := by rfl) : IxR X (rIxT K) := by subst h; exact ix_tup
theorem sl_listK (h : X.K = K := by rfl) : SlR X (rSlL K) := by subst h; exact sl_list
theorem sl_tupK (h : X.K = K := by rfl) : SlR X (rSlT K) := by subst h; exact sl_tup
def rLenQ (K : PySem.W.Frag) : List V → Hp → VK → Prop := fun xs H Q => ∃ p ys, xs = [.ref p] ∧ SqL K H p ys ∧ Q (.int ys.length) H
theorem len_seqK (h : X.K = K := by rfl) : CallR X (.builtin "len") (rLenQ K) := by
  subst h
  intro pins s σ H xs us Q I r q
  obtain ⟨p, ys, e, hs, q⟩ := q
  exact call_len_seq pins s σ H xs us Q I r ⟨p, ys, e, .inl hs, q⟩
/-- readings that are not to be opened by themselves -/
@[irreducible] def rEqQ (K : PySem.W.Frag) : R2 := rEqD K
@[irreducible] def rNeQ (K : PySem.W.Frag) : R2 := rNeD K
@[irreducible] def rInQ (K : PySem.W.Frag) : R2 := rInD K
@[irreducible] def rNotInQ (K : PySem.W.Frag) : R2 := rNotInD K
theorem rEqQ_of {H : Hp} {x y : V} {Q : VK} (h : rEqD K x y H Q) : rEqQ K x y H Q := by unfold rEqQ; exact h
theorem rNeQ_of {H : Hp} {x y : V} {Q : VK} (h : rNeD K x y H Q) : rNeQ K x y H Q := by unfold rNeQ; exact h
theorem rInQ_of {H : Hp} {x y : V} {Q : VK} (h : rInD K x y H Q) : rInQ K x y H Q := by unfold rInQ; exact h
theorem rNotInQ_of {H : Hp} {x y : V} {Q : VK} (h : rNotInD K x y H Q) : rNotInQ K x y H Q := by unfold rNotInQ; exact h
theorem op_eqDK (hu : X.A.units + 64 < cLine) (h : X.K = K := by rfl) : OpR X (compareOp .Eq) (rEqQ K) := by subst h; unfold rEqQ; exact op_eqD hu
theorem op_neDK (hu : X.A.units + 64 < cLine) (h : X.K = K := by rfl) : OpR X (compareOp .NotEq) (rNeQ K) := by subst h; unfold rNeQ; exact op_neD hu
theorem op_inDK (hu : X.A.units + 65 < cLine) (h : X.K = K := by rfl) : OpR X (compareOp .In) (rInQ K) := by subst h; unfold rInQ; exact op_inD hu
theorem op_notInDK (hu : X.A.units + 65 < cLine) (h : X.K = K := by rfl) : OpR X (compareOp .NotIn) (rNotInQ K) := by subst h; unfold rNotInQ; exact op_notInD hu
theorem isiK (h : X.K = K := by rfl) : CallR X (.builtin "isinstance") (rIsi K) := by subst h; exact call_isi
def rListOf (K : PySem.W.Frag) : List V → Hp → VK → Prop := fun xs H Q => ∃ p ys, xs = [.ref p] ∧ SqL K H p ys ∧ ∀ l, H l = none → Q (.ref l) (upd H l (.lst ys))
theorem list_ofK (h : X.K = K := by rfl) : CallR X (.type "list") (rListOf K) := by
  subst h
  intro pins s σ H xs us Q I r q
  obtain ⟨p, ys, e, hs, q⟩ := q
  exact call_list_of pins s σ H xs us Q I r ⟨p, ys, e, .inl hs, q⟩
theorem cr_sumK (hc : X.calm = true) (h : X.K = K := by rfl) : CallR X (.builtin "sum") (rSum K) := by subst h; exact cr_sum hc
theorem cr_maxK (hc : X.calm = true) (h : X.K = K := by rfl) : CallR X (.builtin "max") (rMax K) := by subst h; exact cr_max hc
theorem cr_minK (hc : X.calm = true) (h : X.K = K := by rfl) : CallR X (.builtin "min") (rMin K) := by subst h; exact cr_min hc
theorem cr_allK (hc : X.calm = true) (h : X.K = K := by rfl) : CallR X (.builtin "all") (rAll K) := by subst h; exact cr_all hc
theorem cr_anyK (hc : X.calm = true) (h : X.K = K := by rfl) : CallR X (.builtin "any") (rAny K) := by subst h; exact cr_any hc
theorem cr_sortedIK (h : X.K = K := by rfl) : CallR X (.builtin "sorted") (rSortedI K) := by subst h; exact cr_sortedI
variable {e a b : Expr} {te ta tb : TE} {es : List Expr} {t : TA} {tgs : TGs} {tg : Expr} {pos p q : Pos} {n : Nat}
theorem pi_listK (he : PE X e te) (h : X.K = K := by rfl) : PI X tg e (iList K te) := by subst h; exact pi_list he
theorem pg_tupK {k : Nat} (hc : X.calm = true) (hg : PGs X es tgs) (hn : (assignEach es X.env).length = n := by rfl) (hst : (assignEach es X.env).findIdx? (·.1) = none := by rfl) (h : X.K = K := by rfl) : PG X (.Tuple es k pos) (gTup K n tgs) := by
  subst h
  exact pg_tup hc hg hn hst
theorem pg_lstK {k : Nat} (hc : X.calm = true) (hg : PGs X es tgs) (hn : (assignEach es X.env).length = n := by rfl) (hst : (assignEach es X.env).findIdx? (·.1) = none := by rfl) (h : X.K = K := by rfl) : PG X (.Tuple es k pos) (gUnl K n tgs) := by
  subst h
  exact pg_unl hc hg hn hst
theorem pi_enumK {elts : List Expr} {kk : Nat} (hg : Gl X "enumerate") (hm : X.mg "enumerate" = none) (ha : PA X [e] t) (hs : starEach [e] X.env = [(false, eval e X.env)] := by rfl) (h : X.K = K := by rfl) :
    PI X (.Tuple elts kk p) (.Call (.Name "enumerate" q) [e] [] pos) (iEnum K t) := by
  subst h
  exact pi_enum hg hm ha hs
theorem pi_zipK {elts : List Expr} {kk : Nat} (hg : Gl X "zip") (hm : X.mg "zip" = none) (ha : PA X [a, b] t) (hs : starEach [a, b] X.env = (false, eval a X.env) :: starEach [b] X.env := by rfl)
    (hpl : (backTo pos (starEach [b] X.env)).any (·.1) = false := by rfl) (h : X.K = K := by rfl) : PI X (.Tuple elts kk p) (.Call (.Name "zip" q) [a, b] [] pos) (iZip K t) := by
  subst h
  exact pi_zip hg hm ha hs hpl
theorem pe_revLK {k : Nat} {p1 p2 p3 : Pos} (he : PE X e te) (h : X.K = K := by rfl) : PE X (.Subscript e (.Slice none none (some (.UnaryOp .USub (.Constant (.int 1) k p1) p2)) p3) pos) (tRevL K te) := by
  subst h
  exact pe_revL he
theorem pe_fldK {f : Str} (he : PE X e te) (hb : attributeBase e f X.env (eval e X.env) = eval e X.env := by rfl) (h : X.K = K := by rfl) : PE X (.Attribute e f pos) (tFld K te f) := by
  subst h
  exact pe_fld he hb
end

/-! ## heaps -/
/-- what holds between the turns of a loop (a wrapper: it is not taken apart by itself) -/
structure Keep (P : Prop) : Prop where
  o : P

theorem Same.get {H H' : Hp} {a : Addr} {o : HO} (s : Same H H') (h : H a = some o) : H' a = some o := s a o h
theorem same_new {H : Hp} {p : Addr} {o : HO} (h : H p = none) : Same H (upd H p o) := fun b u e => by
  rw [upd_ne (ne_of_none e h)]
  exact e
theorem upd_keep {H : Hp} {p a : Addr} {o u : HO} (n : H p = none) (h : H a = some u) : upd H p o a = some u := same_new n a u h
theorem upd_off {H : Hp} {p a : Addr} {o u : HO} (n : a ≠ p) (h : H a = some u) : upd H p o a = some u := by
  rw [upd_ne n]
  exact h
/-- a source of draws: what is true of it, where it stands -/
structure Rg where
  I : Hp → Prop
  S : Addr → Prop
  loc : ∀ H H' : Hp, (∀ a, S a → H' a = H a) → I H → I H'
  has : ∀ (H : Hp) (a : Addr), I H → S a → H a ≠ none
/-- the heap H is the quiet part G and the source -/
structure Sep (R : Rg) (G H : Hp) : Prop where
  inv : R.I H
  same : Same G H
  off : ∀ a, R.S a → G a = none
section
variable {R : Rg} {G G' H H' : Hp} {p a : Addr} {o u : HO}
theorem Sep.get (s : Sep R G H) (h : G a = some o) : H a = some o := s.same a o h
theorem Sep.free (s : Sep R G H) (h : H p = none) : G p = none := s.same.free h
theorem Sep.weak (s : Sep R G H) (h : Same G' G) : Sep R G' H := ⟨s.inv, h.trans s.same, fun a ha => by
  cases q : G' a with
  | none => rfl
  | some o =>
    have z := h a o q
    rw [s.off a ha] at z
    cases z⟩
theorem Sep.new (s : Sep R G H) (h : H p = none) (o : HO) : Sep R (upd G p o) (upd H p o) := by
  have np : ∀ a, R.S a → a ≠ p := fun a ha e => R.has H a s.inv ha (by rw [e]; exact h)
  refine ⟨R.loc H _ (fun a ha => upd_ne (np a ha)) s.inv, fun b x e => ?_, fun a ha => by rw [upd_ne (np a ha)]; exact s.off a ha⟩
  by_cases hb : b = p
  · rw [hb, upd_same] at e
    rw [hb, upd_same]
    exact e
  · rw [upd_ne hb] at e
    rw [upd_ne hb]
    exact s.same b x e
/-- a store into an object of the quiet part -/
theorem Sep.put (s : Sep R G H) (h : G p = some u) (o : HO) : Sep R (upd G p o) (upd H p o) := by
  have np : ∀ a, R.S a → a ≠ p := fun a ha e => by
    have z := s.off a ha
    rw [e, h] at z
    cases z
  refine ⟨R.loc H _ (fun a ha => upd_ne (np a ha)) s.inv, fun b x e => ?_, fun a ha => by rw [upd_ne (np a ha)]; exact s.off a ha⟩
  by_cases hb : b = p
  · rw [hb, upd_same] at e
    rw [hb, upd_same]
    exact e
  · rw [upd_ne hb] at e
    rw [upd_ne hb]
    exact s.same b x e
/-- behind something that only makes new things -/
theorem Sep.on (s : Sep R G H) (h : Same H H') : Sep R G H' := by
  refine ⟨R.loc H _ (fun a ha => ?_) s.inv, s.same.trans h, s.off⟩
  cases q : H a with
  | none => exact absurd q (R.has H a s.inv ha)
  | some o => exact h a o q
theorem Sep.grow (s : Sep R G H) (h : Same H H') (n : H p = none) (e : H' p = some o) : Sep R (upd G p o) H' := by
  have s' := s.on h
  have np : ∀ a, R.S a → a ≠ p := fun a ha z => R.has H a s.inv ha (by rw [z]; exact n)
  refine ⟨s'.inv, fun b x q => ?_, fun a ha => by rw [upd_ne (np a ha)]; exact s.off a ha⟩
  by_cases hb : b = p
  · rw [hb, upd_same] at q
    rw [hb, e]
    exact q
  · rw [upd_ne hb] at q
    exact s'.same b x q
end
/-- a source of draws that is a list of three ints: digits, a mix, a count that is at most N -/
def R3 (r : Addr) (N a b c : Int) (H : Hp) : Prop := H r = some (.lst [.int a, .int b, .int c]) ∧ 0 ≤ a ∧ 0 ≤ b ∧ b < 2 ^ 100 ∧ 0 ≤ c ∧ c ≤ N
def rg3 (r : Addr) (N : Int) : Rg where
  I := fun H => ∃ a b c, R3 r N a b c H
  S := fun x => x = r
  loc := fun H H' e ⟨a, b, c, h1, h2⟩ => ⟨a, b, c, (e r rfl).trans h1, h2⟩
  has := fun H x ⟨a, b, c, h1, _⟩ hx => by
    subst hx
    rw [h1]
    exact fun z => nomatch z
theorem Sep3.redo {r : Addr} {N N' : Int} {G H : Hp} {o : HO} (s : Sep (rg3 r N) G H) (h : ∃ a b c, R3 r N' a b c (upd H r o)) : Sep (rg3 r N') G (upd H r o) := by
  refine ⟨h, fun b u q => ?_, s.off⟩
  have nr : b ≠ r := fun z => by
    have := s.off b z
    rw [q] at this
    cases this
  rw [upd_ne nr]
  exact s.same b u q
theorem Sep3.mono {r : Addr} {N N' : Int} {G H : Hp} (s : Sep (rg3 r N) G H) (h : N ≤ N') : Sep (rg3 r N') G H := by
  obtain ⟨a, b, c, h1, h2, h3, h4, h5, h6⟩ := s.inv
  exact ⟨⟨a, b, c, h1, h2, h3, h4, h5, by omega⟩, s.same, s.off⟩
/-- a draw from it -/
def spDraw3 : Sp := fun vs H Q _ => ∃ (r : Addr) (m N : Int) (G : Hp), vs = [.ref r, .int m] ∧ Sep (rg3 r N) G H ∧ Keep (0 < m ∧ m < 2 ^ 240 ∧ N < 2 ^ 60) ∧ ∀ v H', 0 ≤ v → v < m → Sep (rg3 r (N + 1)) G H' → Q (.int v) H'
theorem seqL_of {K : PySem.W.Frag} {H : Hp} {a : Addr} {xs : List V} (h : H a = some (.lst xs)) : SqL K H a xs := .inl (.inl h)
/-- ints as values -/
abbrev iv (ns : List Int) : List V := ns.map V.int
theorem iv_app (ns : List Int) (x : Int) : iv ns ++ [V.int x] = iv (ns ++ [x]) := by simp
theorem iv_len (ns : List Int) : (iv ns).length = ns.length := List.length_map _
theorem iv_get {ns : List Int} {i : Nat} {x : V} (h : (iv ns)[i]? = some x) : ∃ n, ns[i]? = some n ∧ x = .int n := by
  rw [List.getElem?_map] at h
  cases e : ns[i]? with
  | none =>
    rw [e] at h
    cases h
  | some n =>
    rw [e] at h
    exact ⟨n, rfl, (Option.some.inj h).symm⟩

theorem atI_iv {ns : List Int} {i : Int} (h0 : 0 ≤ i) (h1 : i < ns.length) : ∃ n, atI (iv ns) i = some (.int n) := by
  obtain ⟨j, rfl⟩ := Int.eq_ofNat_of_zero_le h0
  have hj : j < ns.length := by omega
  exact ⟨ns[j], atI_nat (by rw [List.getElem?_map, List.getElem?_eq_getElem hj]; rfl)⟩
theorem seqIx0 {n : Nat} (h : 0 < n) : seqIndex? 0 n = some 0 := by
  unfold seqIndex?
  simp
  omega
theorem lit_len {n : Nat} (h : n ≤ 1000) : n ≤ sizeLine := Nat.le_of_lt (small1000 h)
/-- for i, x in enumerate(xs) -/
theorem for_enum {K : PySem.W.Frag} {a : Addr} {xs : List V} {g : TG} {tb : TS} {D : Ends} {σ : L2.St} {H : Hp} (Pv : Nat → L2.St → Hp → Prop) (h0 : Pv 0 σ H) (hq : ∀ i σ H, Pv i σ H → SqL K H a xs)
    (hs : ∀ (i : Nat) (x : V) (T : Addr) (σ : L2.St) (H : Hp), xs[i]? = some x → Pv i σ H → H T = none → g (.ref T) σ (upd H T (.tup [.int (i : Nat), x])) fun σ2 H2 => tb { D with nx := Pv (i + 1), ct := Pv (i + 1), bk := D.nx } σ2 H2) (hd : ∀ σ H, Pv xs.length σ H → D.nx σ H) :
    ∃ W : Nat → Nat → L2.St → Hp → Prop, (∃ m, W 0 m σ H) ∧ ∀ i m σ H, W i m σ H → ((Ite K a).stop i H ∧ D.nx σ H) ∨
      ((Ite K a).go i H ∧ ∃ N : L2.St → Hp → Prop, (∀ σ' H', N σ' H' → ∃ m', m' < m ∧ W (i + 1) m' σ' H') ∧ ∀ v H', (Ite K a).yld i H v H' → g v σ H' fun σ2 H2 => tb { D with nx := N, ct := N, bk := D.nx } σ2 H2) := by
  refine ⟨fun i m σ H => m + i = xs.length ∧ Pv i σ H, ⟨xs.length, rfl, h0⟩, fun i m σ H hW => ?_⟩
  obtain ⟨em, p⟩ := hW
  have q := hq i σ H p
  by_cases lt : i < xs.length
  · have ex : xs[i]? = some xs[i] := List.getElem?_eq_getElem lt
    refine .inr ⟨⟨xs, _, q, ex⟩, Pv (i + 1), fun σ' H' p' => ⟨m - 1, by omega, by omega, p'⟩, fun v H' hy => ?_⟩
    obtain ⟨T, x, rfl, nT, rfl, f⟩ := hy
    exact hs i x T σ H (f xs q) p nT
  · have ei : i = xs.length := by omega
    subst ei
    exact .inl ⟨⟨xs, q, Nat.le_refl _⟩, hd σ H p⟩

/-! ## repr of data, where no repr is under way -/
@[irreducible] def rReprD (K : PySem.W.Frag) : List V → Hp → VK → Prop := fun xs H Q => ∃ (a : Addr) (d : PyData), xs = [.ref a] ∧ Dp K H (.ref a) d ∧ d.showable = true ∧ d.hasDict = false ∧ d.depth ≤ 30 ∧ d.shown.length ≤ sizeLine ∧ Q (.str d.shown) H
theorem call_reprDK {X : Cx} {K : PySem.W.Frag} (hG : X.A.guards = some []) (hu : X.A.units + 64 < cLine) (h : X.K = K := by rfl) : CallR X (.builtin "repr") (rReprD K) := by
  subst h
  intro pins s σ H xs us Q I r h
  unfold rReprD at h
  obtain ⟨a, d, rfl, hd, hs, hn, hdp, hz, q⟩ := h
  obtain ⟨v, rfl, rv⟩ := vals1 r
  cases rv
  obtain ⟨as, rd⟩ := Dp.reads I d _ _ hd rfl
  refine repr_of_reads' rd hs (PyData.noDict_hsm hn) hG (by omega) (fun b o e => e) (fun h' t tk hk => ?_) hz
  exact ⟨.str d.shown, H, I.kept hk, ⟨_, rfl⟩, q⟩
/-! ## lists of ints as data -/
def dI (ns : List Int) : PyData := .list (ns.map .int)
theorem dpall_iv {K : PySem.W.Frag} {H : Hp} : ∀ ns : List Int, DpAll K H (iv ns) (ns.map .int)
  | [] => .nil
  | n :: r => .cons (.int n) (dpall_iv r)
theorem dp_iv {K : PySem.W.Frag} {H : Hp} {a : Addr} {ns : List Int} (h : SqL K H a (iv ns)) : Dp K H (.ref a) (dI ns) := .lst h (dpall_iv ns)
theorem can_ints : ∀ ns : List Int, PyData.canLayAll0 (ns.map .int) = true
  | [] => by simp [PyData.canLayAll0]
  | n :: r => by simp [PyData.canLayAll0, PyData.canLay0, can_ints r]
theorem dep_ints : ∀ ns : List Int, PyData.depthAll (ns.map .int) = 0
  | [] => by simp [PyData.depthAll]
  | n :: r => by simp [PyData.depthAll, PyData.depth, dep_ints r]
theorem eqv_ints : ∀ xs ys : List Int, PyData.eqvAll (xs.map .int) (ys.map .int) = decide (xs = ys)
  | [], [] => by simp [PyData.eqvAll]
  | [], _ :: _ => by simp [PyData.eqvAll]
  | _ :: _, [] => by simp [PyData.eqvAll]
  | x :: r, y :: t => by
    have ih := eqv_ints r t
    simp only [List.map_cons, PyData.eqvAll, PyData.eqv, ih, List.cons.injEq]
    by_cases e : x = y <;> by_cases e2 : r = t <;> simp [e, e2]
theorem shaped_dI (ns : List Int) : SeqAt.shaped (dI ns) = true := by
  unfold SeqAt.shaped dI
  simp only [PyData.canLay0, can_ints, PyData.depth, dep_ints]
  decide
theorem eqv_dI (xs ys : List Int) : PyData.eqv (dI xs) (dI ys) = decide (xs = ys) := by
  unfold dI
  simp only [PyData.eqv, eqv_ints]
theorem shown_ints_len : ∀ ns : List Int, (∀ n ∈ ns, n.natAbs.log2 < 1920) → ((PyData.shownAll (ns.map .int)).map (·.length)).sum ≤ 2000 * ns.length ∧ (PyData.shownAll (ns.map .int)).length = ns.length
  | [], _ => by simp [PyData.shownAll]
  | n :: r, h => by
    obtain ⟨h1, h2⟩ := shown_ints_len r fun m hm => h m (List.mem_cons_of_mem _ hm)
    have e := int_text_length_le (k := 1920) (by decide) (h n (List.mem_cons_self ..))
    have e2 : (PyData.shown (.int n)).length ≤ 2000 := by
      show (Str.ofString (toString n)).length ≤ 2000
      rw [PySem.ofString_length]
      omega
    simp only [List.map_cons, PyData.shownAll, List.sum_cons, List.length_cons]
    omega
theorem show_ints : ∀ ns : List Int, (∀ n ∈ ns, n.natAbs.log2 < 1920) → PyData.showableAll (ns.map .int) = true
  | [], _ => by simp [PyData.showableAll]
  | n :: r, h => by simp [PyData.showableAll, PyData.showable, h n (List.mem_cons_self ..), show_ints r fun m hm => h m (List.mem_cons_of_mem _ hm)]
theorem nod_ints : ∀ ns : List Int, PyData.hasDictAll (ns.map .int) = false
  | [] => by simp [PyData.hasDictAll]
  | n :: r => by simp [PyData.hasDictAll, PyData.hasDict, nod_ints r]
theorem r_eqI {K : PySem.W.Frag} {H : Hp} {a b : Addr} {xs ys : List Int} {Q : VK} (h1 : SqL K H a (iv xs)) (h2 : SqL K H b (iv ys)) (q : Q (.bl (decide (xs = ys))) H) : rEqQ K (.ref a) (.ref b) H Q :=
  rEqQ_of ⟨dI xs, dI ys, dp_iv h1, dp_iv h2, shaped_dI xs, shaped_dI ys, by rw [eqv_dI]; exact q⟩
theorem r_neI {K : PySem.W.Frag} {H : Hp} {a b : Addr} {xs ys : List Int} {Q : VK} (h1 : SqL K H a (iv xs)) (h2 : SqL K H b (iv ys)) (q : Q (.bl (!decide (xs = ys))) H) : rNeQ K (.ref a) (.ref b) H Q :=
  rNeQ_of ⟨dI xs, dI ys, dp_iv h1, dp_iv h2, shaped_dI xs, shaped_dI ys, by rw [eqv_dI]; exact q⟩
theorem r_repr {K : PySem.W.Frag} {H : Hp} {a : Addr} {ns : List Int} {Q : VK} (h1 : SqL K H a (iv ns)) (hl : ns.length ≤ 5000) (hz : ∀ n ∈ ns, n.natAbs.log2 < 1920) (q : Q (.str (dI ns).shown) H) : rReprD K [.ref a] H Q := by
  unfold rReprD
  refine ⟨a, dI ns, rfl, dp_iv h1, ?_, ?_, ?_, ?_, q⟩
  · simp only [dI, PyData.showable]
    exact show_ints ns hz
  · simp only [dI, PyData.hasDict]
    exact nod_ints ns
  · simp only [dI, PyData.depth, dep_ints]
    decide
  · obtain ⟨e1, e2⟩ := shown_ints_len ns hz
    have e3 := listText_len_le (PyData.shownAll (ns.map .int))
    simp only [dI, PyData.shown]
    rw [sizeLine_eq]
    omega
mutual
theorem dp_same {K : PySem.W.Frag} {H H' : Hp} (s : Same H H') : ∀ (d : PyData) (x : V), Dp K H x d → Dp K H' x d
  | .none, _, h => by cases h; exact .non
  | .bool _, _, h => by cases h; exact .bl _
  | .int _, _, h => by cases h; exact .int _
  | .str _, _, h => by cases h; exact .str _
  | .list ds, _, h => by
    cases h with
    | lst a b => exact .lst (s.seq a) (dpall_same s ds _ b)
  | .tuple ds, _, h => by
    cases h with
    | tup a b =>
      refine .tup ?_ (dpall_same s ds _ b)
      rcases a with (a | ⟨o, a⟩) | a
      · exact .inl (.inl (s _ _ a))
      · exact .inl (.inr ⟨o, s _ _ a⟩)
      · exact .inr a
  | .dict _, _, h => nomatch h
theorem dpall_same {K : PySem.W.Frag} {H H' : Hp} (s : Same H H') : ∀ (ds : List PyData) (xs : List V), DpAll K H xs ds → DpAll K H' xs ds
  | [], _, h => by cases h; exact .nil
  | d :: ds, _, h => by
    cases h with
    | cons a b => exact .cons (dp_same s d _ a) (dpall_same s ds _ b)
end
theorem dpall_len {K : PySem.W.Frag} {H : Hp} : ∀ (ds : List PyData) (xs : List V), DpAll K H xs ds → xs.length = ds.length
  | [], _, h => by cases h; rfl
  | d :: ds, _, h => by
    cases h with
    | cons a b => rw [List.length_cons, List.length_cons, dpall_len ds _ b]
theorem dpall_get {K : PySem.W.Frag} {H : Hp} : ∀ (ds : List PyData) (xs : List V), DpAll K H xs ds → ∀ (i : Nat) (d : PyData), ds[i]? = some d → ∃ x, xs[i]? = some x ∧ Dp K H x d
  | [], _, _, _, _, e => by simp at e
  | d :: ds, _, h, i, d', e => by
    cases h with
    | cons a b =>
      cases i with
      | zero =>
        have z : d = d' := by simpa using e
        subst z
        exact ⟨_, rfl, a⟩
      | succ i => exact dpall_get ds _ b i d' (by simpa using e)
theorem tyx_lst {K : PySem.W.Frag} {H : Hp} {a : Addr} {xs : List V} (h : SqL K H a xs) : TyX K H (.ref a) (.type "list") := by
  rcases h with (h | ⟨o, h⟩) | ⟨o, its, n, h1, h2, _⟩
  · exact .base (.lst h)
  · exact .base (.frz h)
  · exact .kList h1 h2
theorem tyx_tup {K : PySem.W.Frag} {H : Hp} {a : Addr} {xs : List V} (h : SqT K H a xs) : TyX K H (.ref a) (.type "tuple") := by
  rcases h with (h | ⟨o, h⟩) | ⟨o, its, n, h1, h2, _⟩
  · exact .base (.tup h)
  · exact .fTuple h
  · exact .kTuple h1 h2
theorem kit_no {K : PySem.W.Frag} : PySem.W.kitOne K (.type "int") (.type "bool") = some false ∧ PySem.W.kitOne K (.type "str") (.type "bool") = some false ∧ PySem.W.kitOne K (.type "list") (.type "bool") = some false ∧
    PySem.W.kitOne K (.type "bool") (.type "int") = some true ∧ PySem.W.kitOne K (.type "int") (.type "int") = some true := ⟨rfl, rfl, rfl, rfl, rfl⟩
/-! ## tests -/
theorem ifD {p A B : Prop} [Decidable p] (h1 : p → A) (h2 : ¬ p → B) : if decide p = true then A else B := by
  by_cases h : p
  · rw [decide_eq_true h]; exact iteT (h1 h)
  · rw [decide_eq_false h]; exact iteF (h2 h)
theorem ifN {p A B : Prop} [Decidable p] (h1 : ¬ p → A) (h2 : p → B) : if (!decide p) = true then A else B := by
  by_cases h : p
  · rw [decide_eq_true h]; exact iteF (h2 h)
  · rw [decide_eq_false h]; exact iteT (h1 h)
theorem ifI {i j : Int} {A B : Prop} (h1 : i = j → A) (h2 : i ≠ j → B) : if decide (V.int i = V.int j) = true then A else B :=
  ifD (fun e => h1 (V.int.inj e)) fun e => h2 fun z => e (congrArg V.int z)
theorem ifIN {i j : Int} {A B : Prop} (h1 : i ≠ j → A) (h2 : i = j → B) : if (!decide (V.int i = V.int j)) = true then A else B :=
  ifN (fun e => h1 fun z => e (congrArg V.int z)) fun e => h2 (V.int.inj e)
/-! ## defs that may ask for repr: called where no repr is under way -/
structure FnG (P : Program) (w : World) (K : PySem.W.Frag) (mg : Str → Option Value) (base : Heap) (CX : CXT) (k : Nat) (f : Addr) (fd : FuncData) (ps : List Str) (sp : Sp) : Prop where
  len : ∀ vs H Q E, sp vs H Q E → vs.length = ps.length
  run : ∀ (A : Around) (outer : List Env) (s : Shared) (H : Hp) (args : Args) (us : List Value) (vs : List V) (Q : VK) (E : XK), Room k A → A.guards = some [] →
    Env0 P w K mg base A outer s H → BindsTo s fd args (ps.zip us) → Vals vs us → sp vs H Q E → codeAny (model P w) A (.call (.ref f) args) (CR CX outer P w H s Q E) s
section
variable {P : Program} {w : World} {K : PySem.W.Frag} {mg : Str → Option Value} {base : Heap} {CX : CXT}
theorem FnG.of {k : Nat} {f : Addr} {fd : FuncData} {ps : List Str} {sp : Sp} (F : FnOk P w K mg base CX k f fd ps sp) : FnG P w K mg base CX k f fd ps sp :=
  ⟨F.len, fun A outer s H args us vs Q E hr _ => F.run A outer s H args us vs Q E hr⟩
theorem fnG_of {k : Nat} {f : Addr} {nm qual : Str} {pms : Arguments} {body : List Stmt} {sc : Scope} {dV kV dc pm cdv ct oc : Value} {an od : Option Addr} {sl : Array (Option Value)} {N ps : List Str} {sp : Sp}
    (lk : K.lookup f = some ⟨oc, od, .func (PySem.W.fnOf nm qual pms body sc dV kV dc pm an cdv ct), sl⟩) (hcd : PySem.W.codeIn K cdv qual = true) (S : FnScope N ps sc) (len : ∀ vs H Q E, sp vs H Q E → vs.length = ps.length)
    (hb : ∀ (A : Around) (outer : List Env) (s : Shared) (H : Hp) (vs : List V) (Q : VK) (E : XK), A.guards = some [] → Room k (A.deeper (envOfC qual sc s.heap.objs.size f cdv)) → sp vs H Q E →
      ∃ t, PSs (cxOf CX P w K mg base N qual sc f cdv A outer s H E) body t ∧ t { nx := fun _ H' => Q .non H', rt := Q } (start N vs) H) :
    FnG P w K mg base CX (k + 1) f (PySem.W.fnOf nm qual pms body sc dV kV dc pm an cdv ct) ps sp := by
  refine ⟨len, ?_⟩
  intro A out s H args us vs Q E room hG env bnd rel pre
  have ln := len _ _ _ _ pre
  have kin : K.In s.heap := env.mod.kin.keeps fun b o e => (env.bs b o e).1
  have nl : s.heap.NoLimit := env.mod.nolimit.keeps fun b o e => (env.bs b o e).1
  have kinds : ∀ y ∈ ps.zip us, sc.names.lookup y.1 = some .local ∨ (sc.names.lookup y.1 = some .cell ∧ ((cellsFrom (s.heap.objs.size + 1) sc.names []).lookup y.1).isSome = true) := by
    rintro ⟨x, v⟩ hy
    rcases S.par x (List.of_mem_zip hy).1 with z | z
    · exact .inl z
    · exact .inr ⟨z, PySem.W.cellsFrom_some _ _ _ (.inl z)⟩
  refine codeAny_call_function room.depth (kin _ _ lk) rfl S.co S.gen rfl (PySem.W.codeRec_of kin hcd) (bnd _ _ _ _ ?_)
  refine wpAny_newFunctionEnv_cells S.kind kinds fun en hen s1 x1 => ?_
  cases hen
  refine ⟨nl.keeps x1.toInCall.keep, codeAny_func ?_⟩
  obtain ⟨t, ht, hq⟩ := hb A out s H vs Q E hG (room.deeper _) pre
  have J0 : Inv (cxOf CX P w K mg base N qual sc f cdv A out s H E) [] (start N vs) H s1 := inv_start S room.hd env ln rel x1
  refine wpAny_mono (ht.run [] s1 (start N vs) H _ J0 hq) (fun fl s2 hs => ?_) fun e s2 hs => hs
  cases fl with
  | ret u =>
    obtain ⟨v, τ, H2, J, rv, q⟩ := hs
    exact ⟨v, H2, J.os, J.bare, J.base, J.hok, rv, q⟩
  | next =>
    obtain ⟨τ, H2, J, q⟩ := hs
    exact ⟨V.non, H2, J.os, J.bare, J.base, J.hok, rfl, q⟩
  | brk =>
    obtain ⟨_, _, _, q⟩ := hs
    cases q
  | cont =>
    obtain ⟨_, _, _, q⟩ := hs
    cases q
end
/-! ## a def of the text: where it stands; its promise -/
structure DefAt (K : PySem.W.Frag) (mg : Str → Option Value) (x : Str) (st : Stmt) (ps : List Str) : Prop where
  ex : ∃ (f : Addr) (fd : FuncData), Fun K x x st f fd ∧ mg x = some (.ref f) ∧ Binds K fd ps []
/-- a def that may be called by its name; dvs: the defaults that fill up -/
structure Cal (P : Program) (w : World) (K : PySem.W.Frag) (mg : Str → Option Value) (base : Heap) (k : Nat) (x : Str) (sp : Sp) (dvs : List V) : Prop where
  ex : ∃ (f : Addr) (fd : FuncData) (ps : List Str) (ds : List Value), FnOk P w K mg base CX0 k f fd ps sp ∧ mg x = some (.ref f) ∧ PySem.W.keepIn K (.ref f) = true ∧ L2.Binds K fd ps ds ∧ Vals dvs ds
/-- a def that may be called by its name; it may ask for repr -/
structure CalG (P : Program) (w : World) (K : PySem.W.Frag) (mg : Str → Option Value) (base : Heap) (k : Nat) (x : Str) (sp : Sp) : Prop where
  ex : ∃ (f : Addr) (fd : FuncData) (ps : List Str), FnG P w K mg base CX0 k f fd ps sp ∧ mg x = some (.ref f) ∧ PySem.W.keepIn K (.ref f) = true ∧ Binds K fd ps []
section
variable {P : Program} {w : World} {K : PySem.W.Frag} {mg : Str → Option Value} {base : Heap}
theorem DefAt.cal {x : Str} {st : Stmt} {ps N : List Str} {k : Nat} {sp : Sp} (D : DefAt K mg x st ps) (S : FnScope N ps (defScope st)) (len : ∀ vs H Q E, sp vs H Q E → vs.length = ps.length)
    (hb : ∀ (f : Addr) (cdv : Value) (A : Around) (outer : List Env) (s : Shared) (H : Hp) (vs : List V) (Q : VK) (E : XK), Room k (A.deeper (envOfC x (defScope st) s.heap.objs.size f cdv)) → sp vs H Q E →
      ∃ t, PSs (cxOf CX0 P w K mg base N x (defScope st) f cdv A outer s H E).nox (defBody st) t ∧ t { nx := fun _ H' => Q .non H', rt := Q } (start N vs) H) : Cal P w K mg base (k + 1) x sp [] := by
  obtain ⟨f, fd, F, hm, b⟩ := D.ex
  exact ⟨f, fd, ps, [], F.ok S len fun cdv A outer s H vs Q E => hb f cdv A outer s H vs Q E, hm, F.kp, b, .nil⟩
theorem DefAt.calG {x : Str} {st : Stmt} {ps N : List Str} {k : Nat} {sp : Sp} (D : DefAt K mg x st ps) (S : FnScope N ps (defScope st)) (len : ∀ vs H Q E, sp vs H Q E → vs.length = ps.length)
    (hb : ∀ (f : Addr) (cdv : Value) (A : Around) (outer : List Env) (s : Shared) (H : Hp) (vs : List V) (Q : VK) (E : XK), A.guards = some [] → Room k (A.deeper (envOfC x (defScope st) s.heap.objs.size f cdv)) → sp vs H Q E →
      ∃ t, PSs (cxOf CX0 P w K mg base N x (defScope st) f cdv A outer s H E).nox (defBody st) t ∧ t { nx := fun _ H' => Q .non H', rt := Q } (start N vs) H) : CalG P w K mg base (k + 1) x sp := by
  obtain ⟨f, fd, ⟨⟨oc, od, kV, doc, pm, an, cdv, ct, osl, rfl, lk, hcd⟩, kp⟩, hm, b⟩ := D.ex
  refine ⟨f, _, ps, fnG_of lk hcd S len fun A outer s H vs Q E hG hr hsp => ?_, hm, kp, b⟩
  obtain ⟨t, h, q⟩ := hb f cdv A outer s H vs Q E hG hr hsp
  exact ⟨t, h.nox, q⟩
theorem okG {x qual : Str} {st : Stmt} {f : Addr} {fd : FuncData} {N ps : List Str} {k : Nat} {sp : Sp} (F : Fun K x qual st f fd) (S : FnScope N ps (defScope st)) (len : ∀ vs H Q E, sp vs H Q E → vs.length = ps.length)
    (hb : ∀ (cdv : Value) (A : Around) (outer : List Env) (s : Shared) (H : Hp) (vs : List V) (Q : VK) (E : XK), A.guards = some [] → Room k (A.deeper (envOfC qual (defScope st) s.heap.objs.size f cdv)) → sp vs H Q E →
      ∃ t, PSs (cxOf CX0 P w K mg base N qual (defScope st) f cdv A outer s H E).nox (defBody st) t ∧ t { nx := fun _ H' => Q .non H', rt := Q } (start N vs) H) : FnG P w K mg base CX0 (k + 1) f fd ps sp := by
  obtain ⟨⟨oc, od, kV, doc, pm, an, cdv, ct, osl, rfl, lk, hcd⟩, kp⟩ := F
  refine fnG_of lk hcd S len fun A outer s H vs Q E hG hr hsp => ?_
  obtain ⟨t, h, q⟩ := hb cdv A outer s H vs Q E hG hr hsp
  exact ⟨t, h.nox, q⟩
theorem calG_of {x : Str} {k : Nat} {sp : Sp} (c : Cal P w K mg base k x sp []) : CalG P w K mg base k x sp := by
  obtain ⟨f, fd, ps, ds, F, hm, kp, b, d⟩ := c.ex
  cases d
  exact ⟨f, fd, ps, FnG.of F, hm, kp, b⟩
theorem Cal.imp {x : Str} {k j : Nat} {sp sp' : Sp} {dvs : List V} (c : Cal P w K mg base k x sp dvs) (hk : k ≤ j) (h : ∀ vs H Q E, sp' vs H Q E → sp vs H Q E) : Cal P w K mg base j x sp' dvs := by
  obtain ⟨f, fd, ps, ds, F, hm, kp, b, d⟩ := c.ex
  exact ⟨f, fd, ps, ds, (F.mono hk).imp h, hm, kp, b, d⟩
end
section
variable {X : Cx} {k j : Nat} {x : Str} {sp : Sp} {p pos : Pos} {e : Expr} {es : List Expr} {t : TA}
theorem pe_c {dvs : List V} (c : Cal X.prog X.w X.K X.mg X.base k x sp dvs) (hr : Room j X.A) (hk : k ≤ j) (hg : Gl X x) (ha : PA X (e :: es) t)
    (hdb : (x == ("__debug__" : Str)) = false := by decide) (he : starEach (e :: es) X.env = (false, eval e X.env) :: starEach es X.env := by rfl) (hpl : (backTo pos (starEach es X.env)).any (·.1) = false := by rfl) :
    PE X (.Call (.Name x p) (e :: es) [] pos) (tCall sp dvs E0 t) := by
  obtain ⟨f, fd, ps, ds, F, hm, kp, bd, vd⟩ := c.ex
  exact L2.pe_call F (hr.mono hk) hg hm kp bd vd pass0 ha hdb he hpl
/-- a call of a def that may ask for repr -/
theorem pe_cG (c : CalG X.prog X.w X.K X.mg X.base k x sp) (hG : X.A.guards = some []) (hr : Room j X.A) (hk : k ≤ j) (hg : Gl X x) (ha : PA X (e :: es) t)
    (hdb : (x == ("__debug__" : Str)) = false := by decide) (he : starEach (e :: es) X.env = (false, eval e X.env) :: starEach es X.env := by rfl) (hpl : (backTo pos (starEach es X.env)).any (·.1) = false := by rfl) :
    PE X (.Call (.Name x p) (e :: es) [] pos) (tCall sp [] E0 t) := by
  obtain ⟨f, fd, ps, F, hm, kp, b⟩ := c.ex
  refine ⟨fun pins s σ H Q I h => wpAny_Call_Name_kw (ld_glob I hg hm ?_ hdb)⟩
  refine PySem.W.callWith_K (h₀ := X.base) I.ok.mod.kin kp (thn (ha.run pos pins s σ H _ I h) fun us s1 hx => ?_) he hpl
  obtain ⟨vs, H1, I1, r, q⟩ := hx
  rw [List.append_nil] at q
  have ln : us.length = ps.length := by rw [← r.length]; exact F.len _ _ _ _ q
  have bb : BindsTo s1 fd ⟨us, []⟩ (ps.zip us) := by
    have z := b s1 us I1.kIn (by rw [List.append_nil]; exact ln)
    rw [List.append_nil] at z
    exact z
  refine ⟨I1.kIn, wpAny_call (codeAny_mono (F.run X.A X.stack s1 H1 ⟨us, []⟩ us vs Q E0 (hr.mono hk) hG I1.env0 bb r q) fun r s' hq => ?_)⟩
  cases r with
  | error e => exact False.elim hq
  | ok fl =>
    cases fl with
    | ret u => exact I1.after hq
    | next => exact False.elim hq
    | brk => exact False.elim hq
    | cont => exact False.elim hq
end
/-! ## methods, properties, new objects -/
structure Met (P : Program) (w : World) (K : PySem.W.Frag) (mg : Str → Option Value) (base : Heap) (k : Nat) (C : Addr) (m : Str) (sp : Sp) : Prop where
  ex : ∃ (f : Addr) (fd : FuncData) (ps : List Str), Cls K C ∧ Meth K C m f ∧ FnOk P w K mg base CX0 k f fd ps sp ∧ L2.Binds K fd ps []
structure Prp (P : Program) (w : World) (K : PySem.W.Frag) (mg : Str → Option Value) (base : Heap) (k : Nat) (C : Addr) (m : Str) (sp : Sp) : Prop where
  ex : ∃ (f p : Addr) (fd : FuncData) (ps : List Str), Cls K C ∧ PropOf K C m p f ∧ FnOk P w K mg base CX0 k f fd ps sp ∧ L2.Binds K fd ps []
structure Mak (P : Program) (w : World) (K : PySem.W.Frag) (mg : Str → Option Value) (base : Heap) (k : Nat) (x : Str) (C : Addr) (sp : Sp) : Prop where
  ex : ∃ (f : Addr) (fd : FuncData) (ps : List Str), Mk K C f ∧ FnOk P w K mg base CX0 k f fd ps sp ∧ mg x = some (.ref C) ∧ L2.Binds K fd ps []
section
variable {X : Cx} {k j : Nat} {C : Addr} {x m : Str} {sp : Sp} {p pos apos : Pos} {e o : Expr} {es : List Expr} {ta : TE} {t : TA}
theorem pe_m {pl : Sem Bool} (c : Met X.prog X.w X.K X.mg X.base k C m sp) (hr : Room j X.A) (hk : k ≤ j) (he : PE X o ta) (ha : PA X (e :: es) t)
    (ht : eval (.Call (.Attribute o m apos) (e :: es) [] pos) X.env = (do
      let ov ← eval o X.env
      standAt apos.atName
      let (f, first) ← holding [ov] (getMethod ov m pl)
      callWith pos f first (backTo pos (starEach (e :: es) X.env)) (backToKw pos (keywordEach [] X.env))) := by rfl)
    (hst : starEach (e :: es) X.env = (false, eval e X.env) :: starEach es X.env := by rfl) (hpl : (backTo pos (starEach es X.env)).any (·.1) = false := by rfl) : PE X (.Call (.Attribute o m apos) (e :: es) [] pos) (tMeth C m sp [] E0 ta t) := by
  obtain ⟨f, fd, ps, c1, c2, F, b⟩ := c.ex
  exact L2.pe_meth (pl := pl) he c1 c2 F (hr.mono hk) b .nil pass0 ha hst hpl ht
theorem pe_mk (c : Mak X.prog X.w X.K X.mg X.base k x C sp) (hr : Room j X.A) (hk : k + 1 ≤ j) (hg : Gl X x) (ha : PA X (e :: es) t)
    (hdb : (x == ("__debug__" : Str)) = false := by decide) (he : starEach (e :: es) X.env = (false, eval e X.env) :: starEach es X.env := by rfl) (hpl : (backTo pos (starEach es X.env)).any (·.1) = false := by rfl) :
    PE X (.Call (.Name x p) (e :: es) [] pos) (tMake C sp [] E0 t) := by
  obtain ⟨f, fd, ps, M, F, hm, b⟩ := c.ex
  exact L2.pe_make M F (hr.mono hk) hg hm b .nil pass0 ha hdb he hpl
theorem pe_p (c : Prp X.prog X.w X.K X.mg X.base k C m sp) (hr : Room j X.A) (hk : k + 1 ≤ j) (he : PE X e ta) (hab : attributeBase e m X.env (eval e X.env) = eval e X.env := by rfl) : PE X (.Attribute e m pos) (tProp C sp [] E0 ta) := by
  obtain ⟨f, q, fd, ps, c1, c2, F, b⟩ := c.ex
  exact L2.pe_prop he c1 c2 F (hr.mono hk) b .nil pass0 hab
end
section
variable {X : Cx} {K : PySem.W.Frag} {C : Addr} {k j : Nat} {m f : Str} {sp : Sp} {ta tv : TE} {o value : Expr} {pos pos' apos tpos : Pos}
theorem pe_m0 {pl : Sem Bool} (c : Met X.prog X.w X.K X.mg X.base k C m sp) (hr : Room j X.A) (hk : k ≤ j) (he : PE X o ta)
    (ht : eval (.Call (.Attribute o m apos) [] [] pos) X.env = (do
      let ov ← eval o X.env
      standAt apos.atName
      let (f, first) ← holding [ov] (getMethod ov m pl)
      callWith pos f first (backTo pos (starEach [] X.env)) (backToKw pos (keywordEach [] X.env))) := by rfl) : PE X (.Call (.Attribute o m apos) [] [] pos) (tMeth C m sp [] E0 ta tNil) := by
  obtain ⟨f, fd, ps, c1, c2, F, b⟩ := c.ex
  exact L2.pe_meth0 (pl := pl) he c1 c2 F (hr.mono hk) b .nil pass0 ht
theorem ps_fldK (ha : PE X o ta) (hv : PE X value tv) (hs : swapsWith value (some (.Attribute o f pos')) pos.line X.env = pure false) (h : X.K = K := by rfl) : PS X (.Assign [.Attribute o f pos'] value pos) (sFld K ta tv f) := by
  subst h
  exact ps_fld ha hv hs
theorem ps_fldaugK {op : Operator} {rd : V → V → Hp → VK → Prop} (ha : PE X o ta) (hv : PE X value tv) (hop : InOp X op rd) (h : X.K = K := by rfl) : PS X (.AugAssign (.Attribute o f tpos) op value pos) (sFldAug K ta tv rd f) := by
  subst h
  exact ps_fldaug ha hv hop
end
/-- a method of the text -/
structure MetAt (K : PySem.W.Frag) (C : Addr) (m qual : Str) (st : Stmt) (ps : List Str) : Prop where
  ex : ∃ (f : Addr) (fd : FuncData), Fun K m qual st f fd ∧ Meth K C m f ∧ L2.Binds K fd ps []
section
variable {P : Program} {w : World} {K : PySem.W.Frag} {mg : Str → Option Value} {base : Heap} {C : Addr} {m x qual : Str} {st : Stmt} {ps N : List Str} {k : Nat} {sp : Sp}
theorem MetAt.met (D : MetAt K C m qual st ps) (cl : Cls K C) (S : FnScope N ps (defScope st)) (len : ∀ vs H Q E, sp vs H Q E → vs.length = ps.length)
    (hb : ∀ (f : Addr) (cdv : Value) (A : Around) (outer : List Env) (s : Shared) (H : Hp) (vs : List V) (Q : VK) (E : XK), Room k (A.deeper (envOfC qual (defScope st) s.heap.objs.size f cdv)) → sp vs H Q E →
      ∃ t, PSs (cxOf CX0 P w K mg base N qual (defScope st) f cdv A outer s H E).nox (defBody st) t ∧ t { nx := fun _ H' => Q .non H', rt := Q } (start N vs) H) : Met P w K mg base (k + 1) C m sp := by
  obtain ⟨f, fd, F, hm, b⟩ := D.ex
  exact ⟨f, fd, ps, cl, hm, F.ok S len fun cdv A outer s H vs Q E => hb f cdv A outer s H vs Q E, b⟩
end
/-- a class's __init__ of the text -/
structure IniAt (K : PySem.W.Frag) (mg : Str → Option Value) (C : Addr) (x qual : Str) (st : Stmt) (ps : List Str) : Prop where
  ex : ∃ (f : Addr) (fd : FuncData), Fun K "__init__" qual st f fd ∧ Mk K C f ∧ mg x = some (.ref C) ∧ L2.Binds K fd ps []
/-- a property of the text -/
structure PrpAt (K : PySem.W.Frag) (C : Addr) (m qual : Str) (st : Stmt) (ps : List Str) : Prop where
  ex : ∃ (f p : Addr) (fd : FuncData), Fun K m qual st f fd ∧ PropOf K C m p f ∧ L2.Binds K fd ps []
section
variable {P : Program} {w : World} {K : PySem.W.Frag} {mg : Str → Option Value} {base : Heap} {C : Addr} {m x qual : Str} {st : Stmt} {ps N : List Str} {k : Nat} {sp : Sp}
theorem IniAt.mak (D : IniAt K mg C x qual st ps) (S : FnScope N ps (defScope st)) (len : ∀ vs H Q E, sp vs H Q E → vs.length = ps.length)
    (hb : ∀ (f : Addr) (cdv : Value) (A : Around) (outer : List Env) (s : Shared) (H : Hp) (vs : List V) (Q : VK) (E : XK), Room k (A.deeper (envOfC qual (defScope st) s.heap.objs.size f cdv)) → sp vs H Q E →
      ∃ t, PSs (cxOf CX0 P w K mg base N qual (defScope st) f cdv A outer s H E).nox (defBody st) t ∧ t { nx := fun _ H' => Q .non H', rt := Q } (start N vs) H) : Mak P w K mg base (k + 1) x C sp := by
  obtain ⟨f, fd, F, hm, hg, b⟩ := D.ex
  exact ⟨f, fd, ps, hm, F.ok S len fun cdv A outer s H vs Q E => hb f cdv A outer s H vs Q E, hg, b⟩
theorem PrpAt.prp (D : PrpAt K C m qual st ps) (cl : Cls K C) (S : FnScope N ps (defScope st)) (len : ∀ vs H Q E, sp vs H Q E → vs.length = ps.length)
    (hb : ∀ (f : Addr) (cdv : Value) (A : Around) (outer : List Env) (s : Shared) (H : Hp) (vs : List V) (Q : VK) (E : XK), Room k (A.deeper (envOfC qual (defScope st) s.heap.objs.size f cdv)) → sp vs H Q E →
      ∃ t, PSs (cxOf CX0 P w K mg base N qual (defScope st) f cdv A outer s H E).nox (defBody st) t ∧ t { nx := fun _ H' => Q .non H', rt := Q } (start N vs) H) : Prp P w K mg base (k + 1) C m sp := by
  obtain ⟨f, p, fd, F, hm, b⟩ := D.ex
  exact ⟨f, p, fd, ps, cl, hm, F.ok S len fun cdv A outer s H vs Q E => hb f cdv A outer s H vs Q E, b⟩
end
/-- all but o stands -/
def But (o : Addr) (H H' : Hp) : Prop := ∀ b u, b ≠ o → H b = some u → H' b = some u
theorem But.refl (o : Addr) (H : Hp) : But o H H := fun _ _ _ h => h
theorem But.trans {o : Addr} {H H1 H2 : Hp} (a : But o H H1) (b : But o H1 H2) : But o H H2 := fun c u n h => b c u n (a c u n h)
theorem But.of {o : Addr} {H H1 : Hp} (s : Same H H1) : But o H H1 := fun b u _ h => s b u h
theorem But.put {o : Addr} {H : Hp} {u : HO} : But o H (upd H o u) := fun b x n h => by
  rw [upd_ne n]
  exact h
theorem But.seq {K : PySem.W.Frag} {o a : Addr} {H H' : Hp} {xs : List V} (b : But o H H') (n : a ≠ o) (h : H a = some (.lst xs)) : SqL K H' a xs := seqL_of (b a _ n h)
theorem Sep.but {R : Rg} {G H H' : Hp} {o : Addr} {u u' : HO} (s : Sep R G H) (h : G o = some u) (b : But o H H') (e : H' o = some u') : Sep R (upd G o u') H' := by
  have no : ∀ a, R.S a → a ≠ o := fun a ha z => by
    have q := s.off a ha
    rw [z, h] at q
    cases q
  refine ⟨R.loc H _ (fun a ha => ?_) s.inv, fun c x q => ?_, fun a ha => by rw [upd_ne (no a ha)]; exact s.off a ha⟩
  · cases q : H a with
    | none => exact absurd q (R.has H a s.inv ha)
    | some z => exact b a z (no a ha) q
  · by_cases hc : c = o
    · rw [hc, upd_same] at q
      rw [hc, e]
      exact q
    · rw [upd_ne hc] at q
      exact b c x hc (s.same c x q)

theorem Sep.add {R : Rg} {G0 H0 G H : Hp} {l : Addr} {u : HO} (s0 : Sep R G0 H0) (n : H0 l = none) (s : Sep R G H) (e : H l = some u) : Sep R (upd G l u) H := by
  have nl : ∀ a, R.S a → a ≠ l := fun a ha z => R.has H0 a s0.inv ha (by rw [z]; exact n)
  refine ⟨s.inv, fun b x q => ?_, fun a ha => by rw [upd_ne (nl a ha)]; exact s.off a ha⟩
  by_cases hb : b = l
  · rw [hb, upd_same] at q
    rw [hb, e]
    exact q
  · rw [upd_ne hb] at q
    exact s.same b x q

/-! ## calls by keywords alone -/
/-- a def called with the keywords ks alone: sp speaks of their values -/
structure CalK (P : Program) (w : World) (K : PySem.W.Frag) (mg : Str → Option Value) (base : Heap) (k : Nat) (x : Str) (ks : List Str) (sp : Sp) : Prop where
  ex : ∃ (f : Addr) (fd : FuncData) (ps : List Str) (spf : Sp) (g : List Value → List Value → List Value) (gV : List V → List V → List V),
    FnOk P w K mg base CX0 k f fd ps spf ∧ mg x = some (.ref f) ∧ PySem.W.keepIn K (.ref f) = true ∧ KBn K fd ps 0 ks g gV ∧ ∀ zs H Q E, sp zs H Q E → zs.length = ks.length ∧ spf (gV [] zs) H Q E
def tCk (sp : Sp) (tk : TA) : TE := fun σ H Q => tk σ H fun zs H1 => sp zs H1 Q E0
section
variable {X : Cx} {k j : Nat} {x : Str} {ks : List Str} {sp : Sp} {p pos : Pos} {kws : List Keyword} {tk : TA}
theorem pe_ck (c : CalK X.prog X.w X.K X.mg X.base k x ks sp) (hr : Room j X.A) (hk : k ≤ j) (hg : Gl X x) (hkw : PK X kws tk)
    (hall : (backToKw pos (keywordEach kws X.env)).all (·.1.isSome) = true := by rfl) (hks : (backToKw pos (keywordEach kws X.env)).filterMap (·.1) = ks := by rfl) (hdb : (x == ("__debug__" : Str)) = false := by decide)
    (hpl : ((backTo pos (starEach [] X.env)).any (·.1) || (backToKw pos (keywordEach kws X.env)).any (·.1.isNone)) = false := by rfl) : PE X (.Call (.Name x p) [] kws pos) (tCk sp tk) := by
  obtain ⟨f, fd, ps, spf, g, gV, F, hm, kp, hb, hs⟩ := c.ex
  refine ⟨fun pins s σ H Q I h => wpAny_Call_Name_kw (ld_glob I hg hm ?_ hdb)⟩
  refine PySem.W.callWith_KW0 (h₀ := X.base) I.ok.mod.kin kp hall (thn (hkw.run pos pins s σ H _ I h) fun ws s1 hx => ?_) hpl
  obtain ⟨zs, H1, I1, rz, q⟩ := hx
  obtain ⟨lz, q⟩ := hs _ _ _ _ q
  refine ⟨I1.kIn, ?_⟩
  rw [hks]
  exact run_fnN F (hr.mono hk) hb pass0 I1 .nil rz rfl lz q
end

/-! ## a def with defaults, called by place or by keywords -/
section
variable {P : Program} {w : World} {K : PySem.W.Frag} {mg : Str → Option Value} {base : Heap} {x qual : Str} {pms : Arguments} {body : List Stmt} {sc : Scope} {dvs : List V} {f : Addr} {fd : FuncData} {ps ks : List Str}
/-- all parameters by keywords; g brings the values in the parameters' order -/
theorem kbn_dflt (F : FunD K x qual pms body sc dvs [] f fd) (hd : dvs ≠ []) (g : {α : Type} → List α → List α) (hg : ∀ {vs : List V} {us : List Value}, Vals vs us → Vals (g vs) (g us))
    (h : ∀ (T : Addr) (kV doc pm : Value) (an : Option Addr) (cdv ct : Value) (ws its : List Value), ws.length = ks.length → its.length = dvs.length →
      ∃ k, bindArgs (PySem.W.fnOf x qual pms body sc (.ref T) kV doc pm an cdv ct) ⟨[], ks.zip ws⟩ = seqItems? (.ref T) >>= k ∧ k (some its.toArray) = pure (ps.zip (g ws))) : KBn K fd ps 0 ks (fun _ ws => g ws) (fun _ zs => g zs) := by
  obtain ⟨oc, od, dV, kV, doc, pm, an, cdv, ct, osl, rfl, lk, hcd, hD, hK⟩ := F.ex
  rcases hD with ⟨e, _⟩ | ⟨_, T, o, its, m, rfl, lT, oT, rT⟩
  · exact absurd e hd
  · refine ⟨fun s us ws X l1 l2 => ?_, fun r1 r2 => hg r2⟩
    cases us with
    | cons u us => cases l1
    | nil =>
      obtain ⟨k, e1, e2⟩ := h T kV doc pm an cdv ct ws its l2 rT.length.symm
      refine BindsTo.of_looks fun M => ?_
      rw [e1]
      exact looks_items X lT oT (.of_pure e2)
/-- .. of a def without defaults -/
theorem kbn_plain {st : Stmt} (F : Fun K x qual st f fd) (g : {α : Type} → List α → List α) (hg : ∀ {vs : List V} {us : List Value}, Vals vs us → Vals (g vs) (g us))
    (h : ∀ (kV doc pm : Value) (an : Option Addr) (cdv ct : Value) (ws : List Value), ws.length = ks.length →
      bindArgs (PySem.W.fnOf x qual (defArgs st) (defBody st) (defScope st) .none kV doc pm an cdv ct) ⟨[], ks.zip ws⟩ = pure (ps.zip (g ws))) : KBn K fd ps 0 ks (fun _ ws => g ws) (fun _ zs => g zs) := by
  obtain ⟨oc, od, kV, doc, pm, an, cdv, ct, osl, rfl, lk, hcd⟩ := F.ex
  refine ⟨fun s us ws X l1 l2 => ?_, fun r1 r2 => hg r2⟩
  cases us with
  | cons u us => cases l1
  | nil => exact .of_eq (h kV doc pm an cdv ct ws l2)
theorem calK_mk {k : Nat} {spf sp : Sp} {g : List Value → List Value → List Value} {gV : List V → List V → List V} (F : FnOk P w K mg base CX0 k f fd ps spf) (hm : mg x = some (.ref f)) (kp : PySem.W.keepIn K (.ref f) = true) (b : KBn K fd ps 0 ks g gV)
    (h : ∀ zs H Q E, sp zs H Q E → zs.length = ks.length ∧ spf (gV [] zs) H Q E) : CalK P w K mg base k x ks sp := ⟨f, fd, ps, spf, g, gV, F, hm, kp, b, h⟩
end
/-- a def without defaults that is called by place and by keywords -/
structure Def2 (P : Program) (w : World) (K : PySem.W.Frag) (mg : Str → Option Value) (base : Heap) (k : Nat) (x : Str) (st : Stmt) (ps : List Str) (sp : Sp) : Prop where
  ex : ∃ (f : Addr) (fd : FuncData), Fun K x x st f fd ∧ mg x = some (.ref f) ∧ Binds K fd ps [] ∧ FnOk P w K mg base CX0 k f fd ps sp
section
variable {P : Program} {w : World} {K : PySem.W.Frag} {mg : Str → Option Value} {base : Heap} {x : Str} {st : Stmt} {ps ks N : List Str} {k : Nat} {sp sp' : Sp}
theorem DefAt.two (D : DefAt K mg x st ps) (S : FnScope N ps (defScope st)) (len : ∀ vs H Q E, sp vs H Q E → vs.length = ps.length)
    (hb : ∀ (f : Addr) (cdv : Value) (A : Around) (outer : List Env) (s : Shared) (H : Hp) (vs : List V) (Q : VK) (E : XK), Room k (A.deeper (envOfC x (defScope st) s.heap.objs.size f cdv)) → sp vs H Q E →
      ∃ t, PSs (cxOf CX0 P w K mg base N x (defScope st) f cdv A outer s H E).nox (defBody st) t ∧ t { nx := fun _ H' => Q .non H', rt := Q } (start N vs) H) : Def2 P w K mg base (k + 1) x st ps sp := by
  obtain ⟨f, fd, F, hm, b⟩ := D.ex
  exact ⟨f, fd, F, hm, b, F.ok S len fun cdv A outer s H vs Q E => hb f cdv A outer s H vs Q E⟩
theorem Def2.cal (D : Def2 P w K mg base k x st ps sp) : Cal P w K mg base k x sp [] := by
  obtain ⟨f, fd, F, hm, b, ok⟩ := D.ex
  exact ⟨f, fd, ps, [], ok, hm, F.kp, b, .nil⟩
theorem Def2.calK (D : Def2 P w K mg base k x st ps sp) (g : {α : Type} → List α → List α) (hg : ∀ {vs : List V} {us : List Value}, Vals vs us → Vals (g vs) (g us))
    (h : ∀ (kV doc pm : Value) (an : Option Addr) (cdv ct : Value) (ws : List Value), ws.length = ks.length →
      bindArgs (PySem.W.fnOf x x (defArgs st) (defBody st) (defScope st) .none kV doc pm an cdv ct) ⟨[], ks.zip ws⟩ = pure (ps.zip (g ws))) (hs : ∀ zs H Q E, sp' zs H Q E → zs.length = ks.length ∧ sp (g zs) H Q E) : CalK P w K mg base k x ks sp' := by
  obtain ⟨f, fd, F, hm, b, ok⟩ := D.ex
  exact calK_mk ok hm F.kp (kbn_plain F g hg h) hs
end
theorem perm_sorted_eq : ∀ {xs ys : List Int}, xs.Perm ys → xs.Pairwise (· ≤ ·) → ys.Pairwise (· ≤ ·) → xs = ys
  | [], ys, p, _, _ => (List.nil_perm.mp p).symm
  | x :: r, [], p, _, _ => absurd (List.perm_nil.mp p) (by simp)
  | x :: r, y :: t, p, h1, h2 => by
    have a1 := (List.pairwise_cons.mp h1).1
    have a2 := (List.pairwise_cons.mp h2).1
    have m1 : x ∈ y :: t := p.mem_iff.mp (List.mem_cons_self ..)
    have m2 : y ∈ x :: r := p.mem_iff.mpr (List.mem_cons_self ..)
    have e : x = y := by
      rcases List.mem_cons.mp m1 with z | z
      · exact z
      · rcases List.mem_cons.mp m2 with z2 | z2
        · exact z2.symm
        · have := a1 y z2
          have := a2 x z
          omega
    subst e
    rw [perm_sorted_eq (List.Perm.cons_inv p) (List.pairwise_cons.mp h1).2 (List.pairwise_cons.mp h2).2]

/-! ## a law's end, of a law that may ask for repr -/
theorem law_endG {P : Program} {w : World} {K : PySem.W.Frag} {mg mb : Str → Option Value} {k : Nat} {fa a : Addr} {fd : FuncData} {x : Str} {sp : Sp} {s₁ : Shared} {vs : List Value} {ns : List Int}
    (KX : K.In s₁.heap) (hns : s₁.heap.Ns mainGlobals mg) (hb : s₁.heap.Ns builtinsNs mb) (hbb : ∀ x : Str, x ≠ "__name__" → mb x = bootBuiltins x) (hlim : s₁.heap.NoLimit) (hg : s₁.gens = #[])
    (ha : s₁.heap.get? a = some { cls := .type "list", data := .seq vs.toArray }) (hi : IntsAre vs ns) (hl : ns.length ≤ sizeLine) (hr : Room k callerA)
    (F : ∀ base : Heap, K.In base → base.Ns mainGlobals mg → FnG P w K mg base CX0 k fa fd [x] sp) (hbind : ∀ (s : Shared) (u : Value), BindsTo s fd ⟨[u], []⟩ [(x, u)])
    (hsp : ∀ H : Hp, Only H → SqL K H a (iv ns) → sp [.ref a] H (fun v _ => v = .bl true) fun _ _ _ => False) :
    codeAny (model P w) callerA (.call (.ref fa) ⟨[.ref a], []⟩) (fun r s' => r = .ok (.ret (.bool true)) ∧ OldK s₁.heap s'.heap ∧ s'.os = s₁.os ∧ AllBare s'.gens) s₁ := by
  have rel := vals_ints hi
  have same : ∀ H : Hp, Only H → SqL K H a (iv ns) → HOk P w H s₁.heap → (∀ b, H b ≠ none → b = a) → (H a ≠ none → K.lookup a = none) →
      codeAny (model P w) callerA (.call (.ref fa) ⟨[.ref a], []⟩) (fun r s' => r = .ok (.ret (.bool true)) ∧ OldK s₁.heap s'.heap ∧ s'.os = s₁.os ∧ AllBare s'.gens) s₁ := by
    intro H only sq hok at_a k_a
    have nonK : ∀ {b : Addr} {o : Obj}, K.lookup b = some o → H b = none := by
      intro b o e
      cases q : H b with
      | none => rfl
      | some u =>
        have z := at_a b (by rw [q]; simp)
        subst z
        rw [k_a (by rw [q]; simp)] at e
        cases e
    have nonD : ∀ {b : Addr} {o : Obj} {es : Array DictEntry} {ep : Nat}, s₁.heap.get? b = some o → o.data = .dict es ep → H b = none := by
      intro b o es ep e d
      cases q : H b with
      | none => rfl
      | some u =>
        have z := at_a b (by rw [q]; simp)
        subst z
        rw [ha] at e
        cases e
        cases d
    have nsB : ∀ {b : Addr} {m : Str → Option Value}, s₁.heap.Ns b m → (hidT s₁.heap H).Ns b m := by
      rintro b m ⟨o, es, ep, e, d, r⟩
      exact ⟨o, es, ep, hidT_get e (nonD e d), d, r⟩
    have kinB : K.In (hidT s₁.heap H) := fun b o e => hidT_get (KX b o e) (nonK e)
    have md : Mod K mg (hidT s₁.heap H) := by
      obtain ⟨mc, h1, h2⟩ := hlim
      exact ⟨kinB, nsB hns, ⟨mb, nsB hb, hbb⟩, ⟨mc, nsB h1, h2⟩⟩
    have noIn : ∀ b : Addr, b ∉ frs [] := fun b z => by cases z
    have env : Env0 P w K mg (hidT s₁.heap H) callerA [] s₁ H := ⟨rfl, md, fun b o e => of_hidT e, Nat.le_of_eq (hidT_size _ _), trivial, fun b z => absurd z (noIn b), hok, .of_eq hg⟩
    refine codeAny_mono ((F _ kinB (nsB hns)).run callerA [] s₁ H ⟨[.ref a], []⟩ [.ref a] [.ref a] _ _ hr rfl env (hbind s₁ (.ref a)) (.cons rfl .nil) (hsp H only sq)) fun r s' h => ?_
    cases r with
    | error e => exact False.elim h
    | ok fl =>
      cases fl with
      | next => exact False.elim h
      | brk => exact False.elim h
      | cont => exact False.elim h
      | ret u =>
        obtain ⟨v, H', os, bare, un, hok', rv, q⟩ := h
        have ev : v = .bl true := q
        subst ev
        have eu : u = Value.bool true := rv
        subst eu
        refine ⟨rfl, OldK.of_keep fun b o e => ?_, os, bare⟩
        cases q : H b with
        | none => exact un.keep b o e q (noIn b) (by simp)
        | some u =>
          rcases only b with z | ⟨ob, xs, z⟩
          · rw [q] at z
            cases z
          · obtain ⟨e1, _⟩ := hok b _ z
            obtain ⟨e2, _⟩ := hok' b _ (un.frzs b ob _ z)
            rw [e] at e1
            cases e1
            exact e2
  cases hk : K.lookup a with
  | some o =>
    have e := KX a o hk
    rw [ha] at e
    cases e
    refine same (fun _ => none) (fun _ => .inl rfl) (.inr ⟨_, vs.toArray, _, hk, rfl, rfl, rfl, ?_, by simpa using rel⟩) (fun b u z => ?_) (fun b z => absurd rfl z) fun z => absurd rfl z
    · rw [List.size_toArray, hi.length]
      exact hl
    · exact nomatch (show (none : Option HO) = some u from z)
  | none =>
    let H0 : Hp := fun b => if b = a then some (.frz { cls := .type "list", data := .seq vs.toArray } (.lst (iv ns))) else none
    have at1 : H0 a = some (.frz { cls := .type "list", data := .seq vs.toArray } (.lst (iv ns))) := if_pos rfl
    have at0 : ∀ b, b ≠ a → H0 b = none := fun b hb => if_neg hb
    refine same H0 (fun b => ?_) (.inl (.inr ⟨_, at1⟩)) (fun b u z => ?_) (fun b z => ?_) fun _ => hk
    · by_cases hb : b = a
      · exact .inr ⟨_, _, by rw [hb]; exact at1⟩
      · exact .inl (at0 b hb)
    · by_cases hb : b = a
      · subst hb
        rw [at1] at z
        cases z
        exact ⟨ha, by rw [iv_len]; exact hl, vs, _, rel, ha⟩
      · rw [at0 b hb] at z
        cases z
    · by_cases hb : b = a
      · exact hb
      · exact absurd (at0 b hb) z
theorem walk_ofG {l : PySem.W.OpenLaw} {n k : Nat} {q : Program} {loose : List Str} {XP : (Str → Option Value) → Heap → Prop} {YP : World → Heap → Prop} {d : DefRec} {K : Params → PySem.W.Frag} {sp : PySem.W.Frag → Sp} {x : Str}
    (hn : l.most = some n) (hn2 : n ≤ sizeLine) (hdf : d.params.defaults = []) (hr : Room k callerA) (hY : ∀ (w : World) (h : Heap), YP w h → (K w.params).In h)
    (F : ∀ (w : World) (mg : Str → Option Value) (fa : Addr) (h : Heap), (K w.params).In h → h.Ns mainGlobals mg → mg d.name = some (.ref fa) →
      ∃ fd : FuncData, (∀ (s : Shared) (u : Value), BindsTo s fd ⟨[u], []⟩ [(x, u)]) ∧
        ∀ base : Heap, (K w.params).In base → base.Ns mainGlobals mg → FnG l.prog w (K w.params) mg base CX0 k fa fd [x] (sp (K w.params)))
    (hsp : ∀ (K : PySem.W.Frag) (H : Hp) (a : Addr) (ns : List Int), ns.length ≤ n → SqL K H a (iv ns) → sp K [.ref a] H (fun v _ => v = .bl true) fun _ _ _ => False) :
    PySem.W.WalkO q loose XP YP l.row.toRowW d [] (fun f vs => PySem.call f vs) := by
  refine Att.attach_call hn hdf fun w s₀ s₁ mg mb fa o pm cd doc a vs ns G Y ho hd hcd hmg hobj hints hlen hg => ?_
  have KX := hY w _ Y
  obtain ⟨fd, hb, hF⟩ := F w mg fa _ KX G.T.g hmg
  exact law_endG KX G.T.g G.T.b G.T.builtins G.T.nolimit hg hobj hints (Nat.le_trans hlen hn2) hr hF hb fun H _ hS => hsp (K w.params) H a ns hlen hS

/-! ## a def of the text, out of what the top has written -/
theorem DefAt.mk1 {K : PySem.W.Frag} {h : Heap} {mg : Str → Option Value} {x : Str} {st : Stmt} {ps : List Str} {f : Addr} {od an : Option Addr} {sl : Array (Option Value)} {oc kV dc pm cd ct : Value} (X : K.In h) (G : h.Ns mainGlobals mg)
    (a : PySem.W.nsIn K mainGlobals x = some (some (.ref f))) (l : K.lookup f = some ⟨oc, od, .func (PySem.W.fnOf x x (defArgs st) (defBody st) (defScope st) .none kV dc pm an cd ct), sl⟩) (c : PySem.W.codeIn K cd x = true) (k : PySem.W.keepIn K (.ref f) = true)
    (hb : ∀ (kV doc pm : Value) (an : Option Addr) (cdv ct : Value) (us : List Value), us.length = ps.length → bindArgs (PySem.W.fnOf x x (defArgs st) (defBody st) (defScope st) .none kV doc pm an cdv ct) ⟨us, []⟩ = pure (ps.zip us)) : DefAt K mg x st ps :=
  ⟨f, _, fun_mk (st := st) l c k, PySem.W.mg_of X G a, (fun_mk (st := st) l c k).binds hb⟩
theorem cutD {p q : Prop} (h : p) (k : p → q) : q := k h
/-- a class: what its facts say -/
theorem cls_mk {K : PySem.W.Frag} {h : Heap} {mg : Str → Option Value} {x : Str} {C : Addr} (X : K.In h) (hC : mg x = some (.ref C)) (pg : PySem.W.plainGet K C Str.empty = true) (hd : PySem.W.hasDictIn K C = true) (po : PySem.W.plainOver K C = true) (sa : PySem.W.findIn K (.ref C) "__setattr__" = some (some (.builtin "object.__setattr__"))) : Cls K C := ⟨pg, hd, po, sa⟩
theorem noat_mk {K : PySem.W.Frag} {h : Heap} {mg : Str → Option Value} {x : Str} {C : Addr} {m : Str} (X : K.In h) (hC : mg x = some (.ref C)) (n : PySem.W.findIn K (.ref C) m = some none) : NoAttr K C m := n
theorem IniAt.mk1 {K : PySem.W.Frag} {h : Heap} {mg : Str → Option Value} {C : Addr} {x qual : Str} {st : Stmt} {ps : List Str} {f : Addr} {od an : Option Addr} {sl : Array (Option Value)} {oc kV dc pm cd ct : Value} (X : K.In h) (hm : mg x = some (.ref C))
    (a : PySem.W.findIn K (.ref C) "__init__" = some (some (.ref f))) (l : K.lookup f = some ⟨oc, od, .func (PySem.W.fnOf "__init__" qual (defArgs st) (defBody st) (defScope st) .none kV dc pm an cd ct), sl⟩) (c : PySem.W.codeIn K cd qual = true) (k : PySem.W.keepIn K (.ref f) = true)
    (mk : PySem.W.makesIn K C = true) (i : PySem.W.isFn K (.ref f) = true) (kc : PySem.W.keepIn K (.ref C) = true)
    (hb : ∀ (kV doc pm : Value) (an : Option Addr) (cdv ct : Value) (us : List Value), us.length = ps.length → bindArgs (PySem.W.fnOf "__init__" qual (defArgs st) (defBody st) (defScope st) .none kV doc pm an cdv ct) ⟨us, []⟩ = pure (ps.zip us)) : IniAt K mg C x qual st ps :=
  ⟨f, _, fun_mk (st := st) l c k, ⟨mk, a, i, kc⟩, hm, (fun_mk (st := st) l c k).binds hb⟩
theorem MetAt.mk1 {K : PySem.W.Frag} {h : Heap} {mg : Str → Option Value} {x : Str} {C : Addr} {m qual : Str} {st : Stmt} {ps : List Str} {f : Addr} {od an : Option Addr} {sl : Array (Option Value)} {oc kV dc pm cd ct : Value} (X : K.In h) (hC : mg x = some (.ref C))
    (a : PySem.W.findIn K (.ref C) m = some (some (.ref f))) (l : K.lookup f = some ⟨oc, od, .func (PySem.W.fnOf m qual (defArgs st) (defBody st) (defScope st) .none kV dc pm an cd ct), sl⟩) (c : PySem.W.codeIn K cd qual = true) (k : PySem.W.keepIn K (.ref f) = true) (i : PySem.W.isFn K (.ref f) = true)
    (hb : ∀ (kV doc pm : Value) (an : Option Addr) (cdv ct : Value) (us : List Value), us.length = ps.length → bindArgs (PySem.W.fnOf m qual (defArgs st) (defBody st) (defScope st) .none kV doc pm an cdv ct) ⟨us, []⟩ = pure (ps.zip us)) : MetAt K C m qual st ps :=
  ⟨f, _, fun_mk (st := st) l c k, ⟨a, i, k⟩, (fun_mk (st := st) l c k).binds hb⟩
theorem PrpAt.mk1 {K : PySem.W.Frag} {h : Heap} {mg : Str → Option Value} {x : Str} {C : Addr} {m qual : Str} {st : Stmt} {ps : List Str} {f p : Addr} {rest : List Value} {od an : Option Addr} {sl : Array (Option Value)} {oc kV dc pm cd ct : Value} (X : K.In h) (hC : mg x = some (.ref C))
    (a : PySem.W.findIn K (.ref C) m = some (some (.ref p))) (g : PySem.W.specialIn K (.ref p) "__get__" = some (some (.builtin "property.__get__"))) (t : PySem.W.takesIn K (.ref p) = some true) (r : PySem.W.recIn K p "property" = some (.ref f :: rest))
    (l : K.lookup f = some ⟨oc, od, .func (PySem.W.fnOf m qual (defArgs st) (defBody st) (defScope st) .none kV dc pm an cd ct), sl⟩) (c : PySem.W.codeIn K cd qual = true) (k : PySem.W.keepIn K (.ref f) = true)
    (hb : ∀ (kV doc pm : Value) (an : Option Addr) (cdv ct : Value) (us : List Value), us.length = ps.length → bindArgs (PySem.W.fnOf m qual (defArgs st) (defBody st) (defScope st) .none kV doc pm an cdv ct) ⟨us, []⟩ = pure (ps.zip us)) : PrpAt K C m qual st ps :=
  ⟨f, p, _, fun_mk (st := st) l c k, ⟨a, g, t, rest, r⟩, (fun_mk (st := st) l c k).binds hb⟩
theorem glob_mk {K : PySem.W.Frag} {h : Heap} {mg : Str → Option Value} {x : Str} {C : Addr} (X : K.In h) (G : h.Ns mainGlobals mg) (a : PySem.W.nsIn K mainGlobals x = some (some (.ref C))) : mg x = some (.ref C) := PySem.W.mg_of X G a
/-- a def with defaults -/
theorem funD_mk {K : PySem.W.Frag} {h : Heap} {mg : Str → Option Value} {x : Str} {st : Stmt} {dvs : List V} {f T : Addr} {o : Obj} {its : List Value} {n : Nat} {od an : Option Addr} {sl : Array (Option Value)} {oc kV dc pm cd ct : Value} (X : K.In h) (G : h.Ns mainGlobals mg)
    (a : PySem.W.nsIn K mainGlobals x = some (some (.ref f))) (l : K.lookup f = some ⟨oc, od, .func (PySem.W.fnOf x x (defArgs st) (defBody st) (defScope st) (.ref T) kV dc pm an cd ct), sl⟩) (c : PySem.W.codeIn K cd x = true) (k : PySem.W.keepIn K (.ref f) = true)
    (t : K.lookup T = some o) (e : o.data = .seq its.toArray n) (hv : Vals dvs its) (hd : dvs ≠ []) : FunD K x x (defArgs st) (defBody st) (defScope st) dvs [] f (PySem.W.fnOf x x (defArgs st) (defBody st) (defScope st) (.ref T) kV dc pm an cd ct) ∧ mg x = some (.ref f) :=
  ⟨⟨⟨oc, od, _, kV, dc, pm, an, cd, ct, sl, rfl, l, c, .inr ⟨hd, T, o, its, n, rfl, t, e, hv⟩, .inl rfl⟩, k⟩, PySem.W.mg_of X G a⟩
/-- the law's own def -/
theorem DefAt.law {K : PySem.W.Frag} {mg : Str → Option Value} {x : Str} {st : Stmt} {fa : Addr} {p : Str} (D : DefAt K mg x st [p]) (hfa : mg x = some (.ref fa))
    (hb : ∀ (kV doc pm : Value) (an : Option Addr) (cdv ct : Value) (us : List Value), us.length = 1 → bindArgs (PySem.W.fnOf x x (defArgs st) (defBody st) (defScope st) .none kV doc pm an cdv ct) ⟨us, []⟩ = pure ([p].zip us)) :
    ∃ fd : FuncData, Fun K x x st fa fd ∧ ∀ (s : Shared) (u : Value), BindsTo s fd ⟨[u], []⟩ [(p, u)] := by
  obtain ⟨f, fd, F, hm, b⟩ := D.ex
  rw [hfa] at hm
  cases hm
  obtain ⟨oc, od, kV, doc, pm, an, cdv, ct, osl, rfl, lk, hcd⟩ := F.ex
  exact ⟨_, F, fun s u => .of_eq (hb kV doc pm an cdv ct [u] rfl)⟩
end Sq

/-! the mathematics of replacements on lengths of runs -/
namespace Sq
def once (n k : Int) : Int := n / k + n % k
def sqz (n : Int) (row : List Int) : Int := row.foldl once n
def rb (R k : Int) : Int := if k > R + 1 then R else (R + 3 - k) * k - 2
def reachOf (row : List Int) (most : Int) : Int := row.foldr (fun k R => rb R k) most
abbrev Two (row : List Int) : Prop := ∀ k ∈ row, (2 : Int) ≤ k
def Mid (ns : List Int) : Prop := ∀ k ∈ ns, (2 : Int) ≤ k ∧ k < 2 ^ 240
theorem Mid.two {ns : List Int} (h : Mid ns) : Two ns := fun k hk => (h k hk).1
theorem sqz_cons (n k : Int) (r : List Int) : sqz n (k :: r) = sqz (once n k) r := rfl
theorem sqz_app (n : Int) (a b : List Int) : sqz n (a ++ b) = sqz (sqz n a) b := by simp [sqz, List.foldl_append]
theorem sqz_snoc (n k : Int) (a : List Int) : sqz n (a ++ [k]) = once (sqz n a) k := by rw [sqz_app]; rfl
theorem sqz_take {row : List Int} {n k : Int} {i : Nat} (h : row[i]? = some k) : sqz n (row.take (i + 1)) = once (sqz n (row.take i)) k := by
  rw [List.take_add_one, h]
  exact sqz_snoc _ _ _
theorem once_nn {n k : Int} (hn : 0 ≤ n) (hk : 2 ≤ k) : 0 ≤ once n k := by
  unfold once
  have h1 := Int.ediv_nonneg hn (by omega : (0 : Int) ≤ k)
  have h2 := Int.emod_nonneg n (by omega : k ≠ 0)
  omega
/-- quotient and rest -/
theorem qr (n : Int) {k : Int} (hk : 2 ≤ k) : ∃ q r, n = q * k + r ∧ 0 ≤ r ∧ r < k ∧ n / k = q ∧ n % k = r :=
  ⟨n / k, n % k, by have := Int.mul_ediv_add_emod n k; rw [Int.mul_comm] at this; omega, Int.emod_nonneg n (by omega), Int.emod_lt_of_pos n (by omega), rfl, rfl⟩
theorem qr_of {q r k : Int} (h0 : 0 ≤ r) (h1 : r < k) : (q * k + r) / k = q ∧ (q * k + r) % k = r := by
  have hk : k ≠ 0 := by omega
  constructor
  · rw [Int.add_comm, Int.add_mul_ediv_right _ _ hk, Int.ediv_eq_zero_of_lt h0 h1]; omega
  · rw [Int.add_comm, Int.add_mul_emod_self_right, Int.emod_eq_of_lt h0 h1]
theorem once_qr {q r k : Int} (h0 : 0 ≤ r) (h1 : r < k) : once (q * k + r) k = q + r := by
  obtain ⟨a, b⟩ := qr_of (q := q) h0 h1
  unfold once
  rw [a, b]
theorem once_le {n k : Int} (hn : 0 ≤ n) (hk : 2 ≤ k) : once n k ≤ n := by
  obtain ⟨q, r, e, h0, h1, e1, e2⟩ := qr n hk
  unfold once
  rw [e1, e2]
  have hq : 0 ≤ q := by rw [← e1]; exact Int.ediv_nonneg hn (by omega)
  have := Int.mul_le_mul_of_nonneg_left (by omega : (1 : Int) ≤ k) hq
  omega
theorem once_small {n k : Int} (hn : 0 ≤ n) (h : n < k) : once n k = n := by
  unfold once
  rw [Int.ediv_eq_zero_of_lt hn h, Int.emod_eq_of_lt hn h]
  omega
theorem once_pos {n k : Int} (hn : 1 ≤ n) (hk : 2 ≤ k) : 1 ≤ once n k := by
  obtain ⟨q, r, e, h0, h1, e1, e2⟩ := qr n hk
  unfold once
  rw [e1, e2]
  have hq : 0 ≤ q := by rw [← e1]; exact Int.ediv_nonneg (by omega) (by omega)
  rcases Int.lt_or_eq_of_le hq with h | h
  · omega
  · subst h; omega
theorem sqz_nn : ∀ {row : List Int} {n : Int}, 0 ≤ n → Two row → 0 ≤ sqz n row
  | [], n, h, _ => h
  | k :: r, n, h, t => sqz_nn (row := r) (once_nn h (t k (List.mem_cons_self ..))) fun j hj => t j (List.mem_cons_of_mem _ hj)
theorem sqz_le : ∀ {row : List Int} {n : Int}, 0 ≤ n → Two row → sqz n row ≤ n
  | [], n, h, _ => Int.le_refl n
  | k :: r, n, h, t => Int.le_trans (sqz_le (row := r) (once_nn h (t k (List.mem_cons_self ..))) fun j hj => t j (List.mem_cons_of_mem _ hj)) (once_le h (t k (List.mem_cons_self ..)))
theorem sqz_pos : ∀ {row : List Int} {n : Int}, 1 ≤ n → Two row → 1 ≤ sqz n row
  | [], n, h, _ => h
  | k :: r, n, h, t => sqz_pos (row := r) (once_pos h (t k (List.mem_cons_self ..))) fun j hj => t j (List.mem_cons_of_mem _ hj)
/-- one step of the reach -/
theorem rb_pos {R k : Int} (hR : 1 ≤ R) (hk : 2 ≤ k) : R ≤ rb R k := by
  unfold rb
  split
  · omega
  · rename_i h
    have e : (R + 3 - k) * k - 2 - R = (R + 1 - k) * (k - 1) + (k - 1) := by
      have e1 : R + 3 - k = (R + 1 - k) + 2 := by omega
      have e2 : k = (k - 1) + 1 := by omega
      rw [e1]
      have e3 : (R + 1 - k) * k = (R + 1 - k) * (k - 1) + (R + 1 - k) := by
        have := Int.mul_sub (R + 1 - k) k 1
        omega
      have e4 : (R + 1 - k + 2) * k = (R + 1 - k) * k + 2 * k := Int.add_mul _ _ _
      omega
    have := Int.mul_nonneg (by omega : (0 : Int) ≤ R + 1 - k) (by omega : (0 : Int) ≤ k - 1)
    omega
theorem rb_all {R k n : Int} (hR : 1 ≤ R) (hk : 2 ≤ k) (h0 : 0 ≤ n) (h : n ≤ rb R k) : once n k ≤ R := by
  unfold rb at h
  split at h
  · rw [once_small h0 (by omega)]; exact h
  · rename_i hh
    obtain ⟨q, r, e, h1, h2, e1, e2⟩ := qr n hk
    unfold once
    rw [e1, e2]
    have e3 : (R + 3 - k) * k = (R + 2 - k) * k + k := by
      have : R + 3 - k = (R + 2 - k) + 1 := by omega
      rw [this, Int.add_mul, Int.one_mul]
    rcases Int.lt_or_le q (R + 2 - k) with hq | hq
    · omega
    · rcases Int.lt_or_eq_of_le hq with hq | hq
      · have := Int.mul_le_mul_of_nonneg_right (by omega : R + 3 - k ≤ q) (by omega : (0 : Int) ≤ k)
        omega
      · subst hq
        omega
theorem rb_next {R k : Int} (hR : 1 ≤ R) (hk : 2 ≤ k) : once (rb R k + 1) k = R + 1 := by
  unfold rb
  split
  · rw [once_small (by omega) (by omega)]
  · have e3 : (R + 3 - k) * k - 2 + 1 = (R + 2 - k) * k + (k - 1) := by
      have : R + 3 - k = (R + 2 - k) + 1 := by omega
      rw [this, Int.add_mul, Int.one_mul]; omega
    rw [e3, once_qr (by omega) (by omega)]
    omega
theorem reach_pos : ∀ {row : List Int} {m : Int}, 1 ≤ m → Two row → m ≤ reachOf row m
  | [], m, _, _ => Int.le_refl m
  | k :: r, m, h, t => by
    have ih := reach_pos (row := r) h fun j hj => t j (List.mem_cons_of_mem _ hj)
    exact Int.le_trans ih (rb_pos (by omega) (t k (List.mem_cons_self ..)))
theorem reach_all : ∀ {row : List Int} {m n : Int}, 1 ≤ m → Two row → 0 ≤ n → n ≤ reachOf row m → sqz n row ≤ m
  | [], m, n, _, _, _, h => h
  | k :: r, m, n, h, t, h0, hn => by
    have t' : Two r := fun j hj => t j (List.mem_cons_of_mem _ hj)
    have hk := t k (List.mem_cons_self ..)
    have p := reach_pos h t'
    exact reach_all (row := r) h t' (once_nn h0 hk) (rb_all (by omega) hk h0 hn)
theorem reach_next : ∀ {row : List Int} {m : Int}, 1 ≤ m → Two row → sqz (reachOf row m + 1) row = m + 1
  | [], m, _, _ => rfl
  | k :: r, m, h, t => by
    have t' : Two r := fun j hj => t j (List.mem_cons_of_mem _ hj)
    have hk := t k (List.mem_cons_self ..)
    have p := reach_pos h t'
    show sqz (once (rb (reachOf r m) k + 1) k) r = m + 1
    rw [rb_next (by omega) hk]
    exact reach_next h t'
/-- the reach is where the first greater one stands -/
theorem reach_is {row : List Int} {m n : Int} (h : 1 ≤ m) (t : Two row) (h0 : 0 ≤ n) (hn : m < sqz n row) (ha : ∀ j, 0 ≤ j → j < n → sqz j row ≤ m) : reachOf row m = n - 1 := by
  have p := reach_pos h t
  rcases Int.lt_or_le (reachOf row m) n with a | a
  · rcases Int.lt_or_le (reachOf row m + 1) n with b | b
    · have := ha _ (by omega) b
      rw [reach_next h t] at this
      omega
    · omega
  · have := reach_all h t h0 a
    omega
theorem reach_mono {row : List Int} {m m' : Int} (h : 1 ≤ m) (hm : m ≤ m') (t : Two row) : reachOf row m ≤ reachOf row m' := by
  rcases Int.lt_or_le (reachOf row m') (reachOf row m) with a | a
  · have p := reach_pos (m := m') (by omega) t
    have := reach_all h t (n := reachOf row m' + 1) (by omega) (by omega)
    rw [reach_next (by omega) t] at this
    omega
  · exact a
end Sq


namespace Sq
open PySem PySem.Spec PyProof.Rows L2
/-! ## ranges of wide ints -/
theorem turn_wide {P : Program} {w : World} {K : PySem.W.Frag} {tg : Expr} (z : Addr) (lo : Int) (n : Nat) : Turn P w K tg (Itr lo n) [z] z (fun i h => IsLongIter h z (lo + (i : Nat) * 1) ((n : Int) - (i : Nat)) 1) := by
  refine ⟨List.mem_singleton.mpr rfl, fun i h st b hb => ?_, fun i h h2 st k => k z (List.mem_singleton.mpr rfl) _ st, ?_, ?_, fun A i s Q E st h => wpAny_pyIter_longiter st h⟩
  · rw [List.mem_singleton.mp hb]
    exact ⟨_, st, fun v c => by cases (show Data.fields _ = Data.cell v from c)⟩
  · rintro X rfl rfl rfl hc i pins s σ H E I hf st hg
    have f := hf z (List.mem_singleton.mpr rfl)
    refine (Walks.longrange (prog := X.prog) (w := X.w) (I.ok.hd hc) z lo 1 n).item i s _ _ hg st fun v h2 tk hv st2 kk => ?_
    obtain ⟨t, rfl⟩ := hv
    have J : Inv X pins σ H { s with heap := h2, toks := tk } := I.turned (fun b o hb e => kk b o (fun m => hb (List.mem_singleton.mp m)) e) f.1 f.2.1 f.2.2.2.1 f.2.2.2.2.1 f.2.2.2.2.2
    refine ⟨_, rfl, go_of (s := { s with heap := h2, toks := tk }) (n := "longrange_iterator") st2 rfl rfl (by decide) ⟨.int (lo + i), H, J, ⟨t, by rw [Int.mul_one]⟩, ⟨rfl, rfl⟩, st2, fun b hb => (hf b hb).1⟩⟩
  · rintro X rfl rfl rfl hc i pins s σ H E I hf st hg
    have f := hf z (List.mem_singleton.mpr rfl)
    have m : n ≤ i := hg
    exact wpAny_pyNext_long_end (I.ok.hd hc) st (by omega) fun h2 k => ⟨rfl, I.turned (t' := s.toks) (fun b o hb e => k b o hb e) f.1 f.2.1 f.2.2.2.1 f.2.2.2.2.1 f.2.2.2.2.2⟩
section
variable {X : Cx} {tg a b : Expr} {t : TA} {p pos : Pos}
theorem rsz (lo hi : Int) : Builtin.Range.rangeSize lo hi 1 = ((hi - lo).toNat : Int) := by
  rw [rangeSize_one]
  split <;> omega
theorem wide_it {pins : List (Addr × Obj)} {σ : L2.St} {H : Hp} {s : Shared} {R : It → Hp → Prop} {E : Value → Shared → Prop} {lo hi : Int} {t u v : Tok} {tk : Nat} (I : Inv X pins σ H s) (q : R (Itr lo (hi - lo).toNat) H) :
    wpAny (model X.prog X.w) X.A (pyIter (.ref s.heap.objs.size)) (PIE X pins σ tg R) E { s with heap := s.heap.push { cls := .type "range", data := .fields #[.int lo t, .int hi u, .int 1 v] }, toks := tk } := by
  have J : Inv X pins σ H { s with heap := s.heap.push { cls := .type "range", data := .fields #[.int lo t, .int hi u, .int 1 v] }, toks := tk } := I.kept fun b o e => Heap.get?_push_of_some _ e
  have z0 : lo + ((0 : Nat) : Int) * 1 = lo := by omega
  have z1 : (((hi - lo).toNat : Nat) : Int) - ((0 : Nat) : Int) = Builtin.Range.rangeSize lo hi 1 := by
    rw [rsz]
    omega
  by_cases sm : Builtin.Range.small lo hi 1 = true
  · refine wpAny_pyIter_range (IsRange.new ..) sm ⟨(s.heap.push { cls := .type "range", data := .fields #[.int lo t, .int hi u, .int 1 v] }).objs.size, [(s.heap.push { cls := .type "range", data := .fields #[.int lo t, .int hi u, .int 1 v] }).objs.size], _, _, H, rfl,
      J.kept (t' := tk) fun b o e => Heap.get?_push_of_some _ e, turn_range _ lo (hi - lo).toNat, ?_, fun b hb => ?_, q⟩
    · show IsRangeIter _ _ (lo + ((0 : Nat) : Int) * 1) ((((hi - lo).toNat : Nat) : Int) - ((0 : Nat) : Int)) 1
      rw [z0, z1]
      exact Heap.get?_push_size _ rfl
    · rw [List.mem_singleton.mp hb]
      exact J.fpOk (Nat.le_refl _) (J.hok.fresh (Nat.le_refl _))
  · refine wpAny_pyIter_longrange (IsRange.new ..) (Bool.not_eq_true _ ▸ sm) ⟨(s.heap.push { cls := .type "range", data := .fields #[.int lo t, .int hi u, .int 1 v] }).objs.size, [(s.heap.push { cls := .type "range", data := .fields #[.int lo t, .int hi u, .int 1 v] }).objs.size], _, _, H, rfl,
      J.kept (t' := tk) fun b o e => Heap.get?_push_of_some _ e, turn_wide _ lo (hi - lo).toNat, ?_, fun b hb => ?_, q⟩
    · show IsLongIter _ _ (lo + ((0 : Nat) : Int) * 1) ((((hi - lo).toNat : Nat) : Int) - ((0 : Nat) : Int)) 1
      rw [z0, z1]
      exact Heap.get?_push_size _ rfl
    · rw [List.mem_singleton.mp hb]
      exact J.fpOk (Nat.le_refl _) (J.hok.fresh (Nat.le_refl _))
def iRngW (t : TA) : TI := fun σ H R => t σ H fun vs H1 => ∃ i j : Int, vs = [.int i, .int j] ∧ R (Itr i (j - i).toNat) H1
theorem pi_range2W (hg : Gl X "range") (hm : X.mg "range" = none) (ha : PA X [a, b] t) (h1 : starEach [a, b] X.env = [(false, eval a X.env), (false, eval b X.env)] := by rfl) (h2 : starEach [b] X.env = [(false, eval b X.env)] := by rfl) :
    PI X tg (.Call (.Name "range" p) [a, b] [] pos) (iRngW t) := by
  refine ⟨fun pins s σ H R I h => Call_ (ld_blt I hg hm boot_range (PyProof.Rows.callWith_type1 (thn (ha.run pos pins s σ H _ I h) fun us s1 hx => ?_) (by rw [h1, h2]) (by rw [h2]; rfl)))⟩
  obtain ⟨vs, H1, J, r, i, j, rfl, q⟩ := hx
  obtain ⟨u, v, rfl, ⟨c, rfl⟩, ⟨d, rfl⟩⟩ : ∃ u v, us = [u, v] ∧ RelV (.int i) u ∧ RelV (.int j) v := by
    cases r with
    | cons r1 r => cases r with
      | cons r2 r => cases r; exact ⟨_, _, rfl, r1, r2⟩
  exact call_range_2 (wide_it J q)
end
/-! ## parts of a list -/
theorem cut_from (xs : List V) (k : Nat) : cutV xs (some (k : Int)) none = xs.drop k := by
  unfold cutV
  rw [HT.sIx_nat, HT.sIx_none]
  rcases Nat.le_total k xs.length with h | h
  · rw [Nat.min_eq_left h]
    exact List.take_of_length_le (by rw [List.length_drop]; omega)
  · rw [Nat.min_eq_right h, List.drop_eq_nil_of_le (Nat.le_refl _), List.drop_eq_nil_of_le h]
    simp
theorem cut_to (xs : List V) (k : Nat) : cutV xs none (some (k : Int)) = xs.take k := by
  unfold cutV
  rw [HT.sIx_nat, HT.sIx_none, List.drop_zero, Nat.sub_zero]
  rcases Nat.le_total k xs.length with h | h
  · rw [Nat.min_eq_left h]
  · rw [Nat.min_eq_right h, List.take_of_length_le (Nat.le_refl _), List.take_of_length_le h]
theorem cut_mid (xs : List V) (j k : Nat) : cutV xs (some (j : Int)) (some (k : Int)) = (xs.drop j).take (k - j) := by
  unfold cutV
  rw [HT.sIx_nat, HT.sIx_nat]
  rcases Nat.le_total j xs.length with h | h
  · rw [Nat.min_eq_left h]
    rcases Nat.le_total k xs.length with h2 | h2
    · rw [Nat.min_eq_left h2]
    · rw [Nat.min_eq_right h2, List.take_of_length_le (by rw [List.length_drop]; omega), List.take_of_length_le (by rw [List.length_drop]; omega)]
  · rw [Nat.min_eq_right h, List.drop_eq_nil_of_le (Nat.le_refl _), List.drop_eq_nil_of_le h]
    simp
theorem iv_drop (ns : List Int) (k : Nat) : (iv ns).drop k = iv (ns.drop k) := by simp
theorem iv_take (ns : List Int) (k : Nat) : (iv ns).take k = iv (ns.take k) := by simp
/-! ## a op b op c op d -/
def tChain3 (r r' r'' : R2) (ta tb tc td : TE) : TE := fun σ H Q => ta σ H fun x H1 => tb σ H1 fun y H2 => r x y H2 fun z H3 => ∃ k, z = .bl k ∧
  (if k = true then tc σ H3 fun v H4 => r' y v H4 fun z' H5 => ∃ k', z' = .bl k' ∧ (if k' = true then td σ H5 fun u H6 => r'' v u H6 Q else Q (.bl false) H5) else Q (.bl false) H3)
section
variable {X : Cx} {a b c d : Expr} {ta tb tc td : TE} {pos : Pos} {op op' op'' : CmpOp} {r r' r'' : R2}
theorem pt_chain3 (h1 : OpR X (compareOp op) r) (h2 : OpR X (compareOp op') r') (h3 : OpR X (compareOp op'') r'') (ha : PE X a ta) (hb : PE X b tb) (hc : PE X c tc) (hd : PE X d td)
    (hm : lastMarks [op, op', op''] [b, c, d] = false := by with_unfolding_all rfl) : PT X (.Compare a [op, op', op''] [b, c, d] pos) (tTest (tChain3 r r' r'' ta tb tc td)) := by
  refine ⟨fun pins s σ H Q I h => isTrue_chain (thn (ha.run pins s σ H _ I h) fun v s1 ⟨x, H1, I1, r1, q1⟩ => test_link (thn (hb.run pins s1 σ H1 _ I1 q1) fun u s2 ⟨y, H2, I2, r2, q2⟩ =>
    thn (h1 pins s2 σ H2 x y v u _ I2 r1 r2 q2) fun e s3 ⟨z, H3, I3, r3, k, ez, q3⟩ => ?_)) hm⟩
  subst ez
  cases r3
  refine wpAny_truthy_bool ?_
  cases k with
  | false =>
    obtain ⟨k2, e2, q2⟩ := q3
    cases e2
    exact ite_ff ⟨H3, I3, q2⟩
  | true =>
    refine ite_tt (test_link (thn (hc.run pins s3 σ H3 _ I3 q3) fun w4 s4 ⟨y4, H4, I4, r4, q4⟩ => thn (h2 pins s4 σ H4 y y4 u w4 _ I4 r2 r4 q4) fun e5 s5 ⟨z5, H5, I5, r5, k5, e5', q5⟩ => ?_))
    subst e5'
    cases r5
    refine wpAny_truthy_bool ?_
    cases k5 with
    | false =>
      obtain ⟨k2, e2, q2⟩ := q5
      cases e2
      exact ite_ff ⟨H5, I5, q2⟩
    | true =>
      refine ite_tt (test_last (thn (hd.run pins s5 σ H5 _ I5 q5) fun w6 s6 ⟨y6, H6, I6, r6, q6⟩ => thn (h3 pins s6 σ H6 y4 y6 w4 w6 _ I6 r4 r6 q6) fun e7 s7 ⟨z7, H7, I7, r7, k7, e7', q7⟩ => ?_))
      subst e7'
      cases r7
      exact wpAny_truthy_bool ⟨H7, I7, q7⟩
end
end Sq


set_option Elab.async false
set_option maxRecDepth 100000
set_option maxHeartbeats 4000000
namespace Sq
open PySem PySem.Spec PyProof.Rows L2
/-! ## an own exception's __init__(self, value): super().__init__(text); self.value = value -/
section
open PySem.W PySem.Calls
variable {prog : Program} {w : World} {A : Around} {E : Value → Shared → Prop} {h : Heap} {g : Array GenState} {d : Drawn} {t : Nat} {os : OsState}
variable {nm q : Str} {C N : Addr} {bs bm : List Value} {hdct : Bool} {sn : List Str} {sub : List Value} {ab : Bool} {col : Option Bool} {dd : Option Addr} {k0 k1 k2 k3 k5 : Option Value}
/-- ValueError.__init__, bound to e, called -/
theorem call_vw {u e t0 : Addr} {rest : List Value} {Q : Value → Shared → Prop}
    (hC : h.get? C = some (excClassObj nm q C N bs bm hdct sn sub ab col dd k0 k1 k2 k3 k5 "ValueError.__new__")) (he : h.get? e = some (HandSPX.excO C t0)) (hu : h.get? u = some (kxs_mw "ValueError.__init__" e)) (hrest : rest.length ≤ sizeLine)
    (hq : ∀ h' t1, (∀ b o, b ≠ e → h.get? b = some o → h'.get? b = some o) → h'.get? e = some (HandSPX.excO C t1) → Q .none ⟨h', g, d, t, os⟩) :
    wpAny (model prog w) A (call (.ref u) rest) Q E ⟨h, g, d, t, os⟩ := by
  refine wpAny_call (codeAny_of_tree ?_)
  show wpAny _ A.in1 (callAny (.ref u) ⟨rest, []⟩) _ _ _
  simp only [callAny]
  refine wpAny_bind (wpAny_load hu ?_)
  simp only [kxs_mw, show (Value.type "method-wrapper" == Value.type "method" || Value.type "method-wrapper" == Value.type "builtin_function_or_method" || Value.type "method-wrapper" == Value.type "method-wrapper") = true by decide, if_true]
  refine W.KFB.if_so (by decide) ?_
  refine wpAny_bind (check_bound_init F.excBase_ValueError.toExcCallFacts hC he rfl ?_)
  refine wpAny_bind (wpAny_pure (wpAny_pure ⟨Code.quiet_builtin _ (by decide +kernel), codeAny_builtin F.excBase_ValueError.initEntry ?_⟩))
  exact exc_init_tree (cls := .ref C) (t0 := t0) (dv := none) (c2 := .none) (c3 := .none) (b4 := .bool false) he hrest fun h' k e' _ => hq h' h.objs.size k e'
end

def spXI (C : Addr) : Sp := fun vs H Q _ => ∃ (a : Addr) (v : V), vs = [.ref a, v] ∧ H a = some (exo a C none) ∧ ∀ dx, H dx = none → dx ≠ a → Q .non (upd (upd H dx (exd dx [("value", v)])) a (exo a C (some dx)))
/-- what the written part says of such an __init__ -/
structure XIn (P : Program) (K : PySem.W.Frag) (C f cc cda : Addr) (qual file : Str) : Prop where
  code : PySem.W.codeIn K (.ref cda) qual = true
  cell : ∃ cl cld csl, K.lookup cc = some ⟨cl, cld, .cell (some (.ref C)), csl⟩
  rec_ : ∃ ccl cdd vs ccs tf, K.lookup cda = some ⟨ccl, cdd, .fields vs, ccs⟩ ∧ vs[2]? = some (.str file tf)
  file : ((P.main.file : Str) == file) = true
  top : (P.main.scope.names.lookup ("super" : Str)).isSome = false
  opq : PySem.W.nsIn K PySem.cStatics "thirdparty.any" = some none
  sup : PySem.W.ks_superIn K C C "__init__" = some (some (.builtin "ValueError.__init__"))
  veb : PySem.W.subIn K (.ref C) (.type "ValueError") = some true
  self : PySem.W.mroIn K C (.ref C) = some true
  val : PySem.W.findIn K (.ref C) "value" = some none
abbrev xiScope : Scope := ⟨.function, [("self", .local), ("value", .local), ("__class__", .free), ("super", .globalImplicit)], false, false, []⟩
abbrev xiArgs (q0 q1 : Pos) : Arguments := { posonlyargs := [], args := [{ arg := "self", annotation := none, pos := q0 }, { arg := "value", annotation := none, pos := q1 }], vararg := none, kwonlyargs := [], kw_defaults := [], kwarg := none, defaults := [] }
abbrev xiBody (m : Str) (p0 p1 p2 p3 p4 p5 p6 p7 p8 p9 : Pos) : List Stmt := [.Expr (.Call (.Attribute (.Call (.Name "super" p0) [] [] p1) "__init__" p2) [.Constant (.str m) 0 p3] [] p4) p5, .Assign [.Attribute (.Name "self" p6) "value" p7] (.Name "value" p8) p9]
theorem xi_S : NdefX.NScope ["self", "value", "__class__"] ["self", "value"] ["__class__"] xiScope := NdefX.nscope_by (by decide +kernel)
/-- how the call of super().__init__ begins (by rfl, once the places are known) -/
def XiCall (qual : Str) (f cc cda : Addr) (m : Str) (p0 p1 p2 p3 p4 : Pos) : Prop := ∀ L : Addr, eval (.Call (.Attribute (.Call (.Name "super" p0) [] [] p1) "__init__" p2) [.Constant (.str m) 0 p3] [] p4) (PySem.W.ksEnv qual xiScope L f (.ref cda) cc) = (do
  let ov ← attributeBase (.Call (.Name "super" p0) [] [] p1) "__init__" (PySem.W.ksEnv qual xiScope L f (.ref cda) cc) (eval (.Call (.Name "super" p0) [] [] p1) (PySem.W.ksEnv qual xiScope L f (.ref cda) cc))
  standAt p2.atName
  let (g, first) ← holding [ov] (getMethod ov "__init__" (do return (← importBound (.Call (.Name "super" p0) [] [] p1) (PySem.W.ksEnv qual xiScope L f (.ref cda) cc)).getD true))
  callWith p4 g first (backTo p4 (starEach [.Constant (.str m) 0 p3] (PySem.W.ksEnv qual xiScope L f (.ref cda) cc))) [])
theorem ok_xi {P : Program} {w : World} {K : PySem.W.Frag} {mg : Str → Option Value} {base : Heap} {CX : CXT} {k : Nat} {C f cc cda : Addr} {qual file : Str} {kV doc pm ct oc : Value} {an od : Option Addr} {osl : Array (Option Value)}
    {p0 p1 p2 p3 p4 p5 p6 p7 p8 p9 q0 q1 : Pos} {m : Str} (T : OexC K C) (XI : XIn P K C f cc cda qual file)
    (lk : K.lookup f = some ⟨oc, od, .func (PySem.W.ksFn "__init__" qual (xiArgs q0 q1) (xiBody m p0 p1 p2 p3 p4 p5 p6 p7 p8 p9) xiScope .none kV doc pm an (.ref cda) ct cc), osl⟩) (hms : mg "super" = none) (he : XiCall qual f cc cda m p0 p1 p2 p3 p4) :
    FnOk P w K mg base CX (k + 1) f (PySem.W.ksFn "__init__" qual (xiArgs q0 q1) (xiBody m p0 p1 p2 p3 p4 p5 p6 p7 p8 p9) xiScope .none kV doc pm an (.ref cda) ct cc) ["self", "value"] (spXI C) := by
  refine ⟨fun vs H Q E h => by obtain ⟨a, v, rfl, _⟩ := h; rfl, fun A outer s H args us vs Q E hr e0 hbind r hsp => ?_⟩
  obtain ⟨a, v, rfl, ha, hq⟩ := hsp
  have KX : K.In s.heap := e0.mod.kin.keeps fun b o e => (e0.bs b o e).1
  have lim : s.heap.NoLimit := e0.mod.nolimit.keeps fun b o e => (e0.bs b o e).1
  obtain ⟨cl, cld, csl, hcell⟩ := XI.cell
  obtain ⟨ccl, cdd, cvs, ccs, tf, hcode, hvs⟩ := XI.rec_
  refine PySem.ks_codeAny_call_defAt (binds := (["self", "value"] : List Str).zip us) hr.depth (KX _ _ lk) rfl lim (PySem.W.codeRec_of KX XI.code) rfl hbind xi_S.nocell (fun ⟨n, _⟩ hy => xi_S.par n (List.of_mem_zip hy).1) (fun h1 hns kp => ?_) xi_S.co xi_S.gen xi_S.kind
  have S := xi_S
  let F : NdefX.NF := ⟨"__init__", qual, xiArgs q0 q1, xiBody m p0 p1 p2 p3 p4 p5 p6 p7 p8 p9, xiScope, [("__class__", cc)], cda⟩
  have cells : NdefX.CellsAt F.cl ["__class__"] [none] s.heap H := by
    have one : ∀ y c, F.cl.lookup y = some c → y = ("__class__" : Str) ∧ c = cc := fun y c e => by
      have e' : ([("__class__", cc)] : List (Str × Addr)).lookup y = some c := e
      by_cases z : y = ("__class__" : Str)
      · subst z
        simp [List.lookup] at e'
        exact ⟨rfl, e'.symm⟩
      · have z2 : (y == ("__class__" : Str)) = false := by simpa using z
        simp [List.lookup, z2] at e'
    refine ⟨rfl, fun y c e => ?_, fun x y c e1 e2 => ?_, fun i y e => ?_⟩
    · rw [(one y c e).2]
      exact ⟨(e0.bs _ _ (e0.mod.kin _ _ hcell)).2, _, ⟨_, KX _ _ hcell, rfl⟩⟩
    · rw [(one x c e1).1, (one y c e2).1]
    · cases i with
      | zero =>
        obtain rfl : ("__class__" : Str) = y := by simpa using e
        exact ⟨cc, by simp [F, List.lookup], fun v h => by simp at h⟩
      | succ i => simp at e
  have I : Inv (NdefX.ncx CX P w K mg base ["self", "value", "__class__"] F f A outer s H E) [] (NdefX.startF ["self", "value", "__class__"] [.ref a, v] [none]) H { s with heap := h1, toks := s.toks + ((["self", "value"] : List Str).zip us).length } :=
    NdefX.inv_startN (F := F) S hr.hd e0 rfl r cells hns kp
  have K1 : K.In h1 := KX.keeps kp
  show PySem.wpAt (model P w) (A.deeper (PySem.W.ksEnv qual xiScope s.heap.objs.size f (.ref cda) cc)) (.func (xiBody m p0 p1 p2 p3 p4 p5 p6 p7 p8 p9) (PySem.W.ksEnv qual xiScope s.heap.objs.size f (.ref cda) cc)) (execs (xiBody m p0 p1 p2 p3 p4 p5 p6 p7 p8 p9) (PySem.W.ksEnv qual xiScope s.heap.objs.size f (.ref cda) cc)) _ _ _
  refine ks_wpAt_execs_cons (ks_wpAt_Expr_any (ks_wpAt_MethodCall ?_ (he _)))
  refine ks_wpAt_super_base (env := NdefX.envF F f s.heap.objs.size) rfl rfl (by decide) rfl (K1 _ _ lk) rfl rfl rfl (K1 _ _ hcode) rfl hvs XI.file XI.top ?_
  obtain ⟨nm, q, N, bs, bm, sn, sub, ab, col, dd, k0, k1, k2, k3, k5, hC, hbm⟩ := T.cls
  have hcl : PySem.W.clsIn K C = some { name := nm, bases := bs, mro := .ref C :: bm, ns := N, qualname := q, hasDict := true, slotNames := sn, subclasses := sub, abstract := ab, collection := col, hasDel := false } := by unfold PySem.W.clsIn; rw [hC] <;> rfl
  obtain ⟨mb, hb1, hb2⟩ := I.mod.blt
  obtain ⟨t1, hoe⟩ := exo_at I.hok ha
  have hself : (((["self", "value"] : List Str).zip us).reverse.lookup ("self" : Str)) = some (Value.ref a) := by
    cases r with
    | cons r1 r => cases r with
      | cons r2 r =>
        cases r
        obtain rfl := r1
        rfl
  refine PySem.W.ks_loadName_global rfl rfl (Calls.loadGlobal_builtin (I.mod.glob.keeps I.bk) hms (hb1.keeps I.bk) ((hb2 _ (by decide)).trans PyProof.Rows.Boot.«super») ⟨rfl, ?_⟩)
  refine wpAny_loadName_free rfl rfl rfl ⟨_, K1 _ _ hcell, rfl⟩ ?_
  refine wpAny_loadName_local rfl rfl hns hself ?_
  refine ks_wpAny_isType_cls (K1 _ _ hC) rfl ⟨rfl, ?_⟩
  refine ks_wpAny_call_super (K1 _ _ hC) rfl hoe rfl (fun c e => by cases e) (PySem.W.looks_mroIn K1 XI.self) (fun h2 e2 kp2 => ?_)
  have I2 := I.kept (t' := s.toks + ((["self", "value"] : List Str).zip us).length) kp2
  have K2 : K.In h2 := K1.keeps kp2
  obtain ⟨t2, hoe2⟩ := exo_at I2.hok ha
  have at2 : PySem.W.InstAt h2 a { cls := .ref C, dict := none, data := .fields #[.ref t2, .none, .none, .none, .bool false, .none] } C none := ⟨hoe2, rfl, rfl, trivial⟩
  have hsup : PySem.W.alongIn K "__init__" (((.ref C :: bm).dropWhile (· != Value.ref C)).drop 1) = some (some (.builtin "ValueError.__init__")) := by
    have z := XI.sup
    unfold PySem.W.ks_superIn at z
    rw [hcl] at z
    exact z
  refine PySem.W.kxs_getMethod PySem.W.kxs_ValueError e2 (PySem.W.looks_opaque K2 XI.opq) (l₀ := .ref C :: bm) ((PySem.W.looks_clsIn K2 hcl).andThen .now) rfl K2 hsup (at2.type.andThen (PySem.W.looks_subIn K2 XI.veb)) (PySem.W.ks_ne K2 at2 hcl) (by decide) ?_
  have I3 := I2.kept (h' := h2.push (PySem.W.kxs_mw "ValueError.__init__" a)) (t' := s.toks + ((["self", "value"] : List Str).zip us).length + 1) fun b o e => Heap.get?_push_of_some _ e
  refine PySem.W.kxs_callWith (i := "ValueError.__init__") (x := a) rfl (Calls.evalArgs_plain (Calls.spliced_cons (Calls.Constant_str (pos := p3) (k := 0) (Calls.spliced_nil ⟨Heap.get?_push_at rfl rfl, ?_⟩))))
  have I4 := I3.tok (s.toks + ((["self", "value"] : List Str).zip us).length + 1 + 1)
  obtain ⟨t4, hoe4⟩ := exo_at I4.hok ha
  refine call_vw (t0 := t4) (Heap.get?_push_of_some _ (K2 _ _ hC)) hoe4 (Heap.get?_push_at rfl rfl) (by simp [sizeLine_eq]) fun h5 t5 k5 e5 => ?_
  have J0 := I4.write (h' := h5) (t' := s.toks + ((["self", "value"] : List Str).zip us).length + 1 + 1) (x := a) (e := a) (o := exo a C none) (by rw [ha]; exact True.intro) (.inl rfl) k5 ⟨_, e5⟩ (exo_ok e5)
  have eu : upd H a (exo a C none) = H := by
    funext b
    by_cases hb : b = a
    · rw [hb, upd_same, ha]
    · rw [upd_ne hb]
  rw [eu] at J0
  show PySem.wpAt _ _ _ (execs [.Assign [.Attribute (.Name "self" p6) "value" p7] (.Name "value" p8) p9] _) _ _ _
  refine wpAt_of_wpAny ?_
  have pst : PSs (NdefX.ncx CX P w K mg base ["self", "value", "__class__"] F f A outer s H E) [.Assign [.Attribute (.Name "self" p6) "value" p7] (.Name "value" p8) p9] (tOst K "value" (tVar 0) (tVar 1)) := pss_one (ps_ost (pv 0) (pv 1) rfl)
  refine wpAny_mono (pst.run [] _ _ H { nx := fun _ H' => Q .non H', rt := Q } J0 ⟨v, rfl, .ref a, rfl, a, C, rfl, T, XI.val, .inl ⟨ha, fun dx n ne => hq dx n ne⟩⟩) (fun fl s' hs => ?_) fun e s' hs => hs
  cases fl with
  | ret u =>
    obtain ⟨v, σ', H', J, rv, q⟩ := hs
    exact ⟨v, H', J.os, J.bare, J.base, J.hok, rv, q⟩
  | next =>
    obtain ⟨σ', H', J, q⟩ := hs
    exact ⟨.non, H', J.os, J.bare, J.base, J.hok, rfl, q⟩
  | brk =>
    obtain ⟨_, _, _, q⟩ := hs
    exact False.elim q
  | cont =>
    obtain ⟨_, _, _, q⟩ := hs
    exact False.elim q
end Sq


set_option Elab.async false
set_option maxRecDepth 100000
set_option maxHeartbeats 4000000
namespace Sq
open PySem PySem.Spec PyProof.Rows L2
/-! ## an exception that has been caught and is kept -/
/-- at a: an exception of the class cls with the dict d, at rest -/
def Xo (a : Addr) (cls : Value) (d : Option Addr) : HO := .ext fun h => ∃ (oe : Obj) (vs : Array Value), h.get? a = some oe ∧ Zc cls d oe ∧ oe.data = .fields vs
theorem xo_ok {P : Program} {w : World} {H : Hp} {h : Heap} {a : Addr} {cls : Value} {d : Option Addr} {oe : Obj} {vs : Array Value} (e : h.get? a = some oe) (z : Zc cls d oe) (f : oe.data = .fields vs) : ObjOk P w H h a (Xo a cls d) :=
  ⟨⟨oe, vs, e, z, f⟩, ⟨_, e⟩, fun _ _ ⟨o2, v2, e2, z2, f2⟩ k => ⟨o2, v2, k _ e2, z2, f2⟩⟩
theorem xo_at {P : Program} {w : World} {H : Hp} {h : Heap} {a : Addr} {cls : Value} {d : Option Addr} (hok : HOk P w H h) (e : H a = some (Xo a cls d)) : ∃ (oe : Obj) (vs : Array Value), h.get? a = some oe ∧ Zc cls d oe ∧ oe.data = .fields vs := by
  have x : ObjOk P w H h a (.ext fun h => ∃ (oe : Obj) (vs : Array Value), h.get? a = some oe ∧ Zc cls d oe ∧ oe.data = .fields vs) := hok a _ e
  exact x.1
section
variable {X : Cx} {pins : List (Addr × Obj)} {σ : L2.St} {H : Hp} {s : Shared} {a : Addr} {cls : Value} {d : Option Addr} {oe : Obj} {vs : Array Value}
/-- an object that is younger than the entry and that nothing holds is kept from now on -/
theorem track (J : Inv X pins σ H s) (e : s.heap.get? a = some oe) (na : H a = none) (nL : a ≠ X.env.locals) (np : ∀ p ∈ X.pn ++ pins, p.1 ≠ a) (young : X.s_0.heap.get? a = none) (z : Zc cls d oe) (f : oe.data = .fields vs) : Inv X pins σ (upd H a (Xo a cls d)) s := by
  have old : ∀ {b : Addr} {o : Obj}, X.s_0.heap.get? b = some o → b ≠ a := fun {b o} q c => by
    rw [c, young] at q
    cases q
  have set : ∀ {b : Addr} {o : HO}, H b = some o → b ≠ a := fun {b o} q c => by
    rw [c, na] at q
    cases q
  refine ⟨J.ok, J.os, J.bare, ⟨J.base.keep, J.base.slot, fun b o q n x => ?_, J.base.there, fun b xs q => ?_, fun b o v q => ?_, fun b ps q => ?_⟩, J.loc, J.cell, ?_, fun y c q => ?_, fun p hp => ?_, fun b o q => ?_, J.len⟩
  · rw [upd_ne (old q)]
    exact J.base.free b o q n x
  · have z := J.base.tups b xs q
    rw [upd_ne (set z)]
    exact z
  · have z := J.base.frzs b o v q
    rw [upd_ne (set z)]
    exact z
  · obtain ⟨more, z⟩ := J.base.tbls b ps q
    exact ⟨more, by rw [upd_ne (set z)]; exact z⟩
  · rw [upd_ne (Ne.symm nL)]
    exact J.free
  · have nc : c ≠ a := fun h => by
      obtain ⟨w, o, e2, d2⟩ := J.cell y c q
      rw [h, e] at e2
      cases e2
      rw [f] at d2
      cases d2
    rw [upd_ne nc]
    exact J.freeC y c q
  · obtain ⟨e1, n1, r1⟩ := J.pin p hp
    exact ⟨e1, by rw [upd_ne (np p hp)]; exact n1, r1⟩
  · by_cases hb : b = a
    · subst hb
      rw [upd_same] at q
      cases q
      exact xo_ok e z f
    · rw [upd_ne hb] at q
      have own : ∀ c, H c = some (.own b) → c ≠ a := fun c hc h => by
        rw [h, na] at hc
        cases hc
      exact (J.hok b o q).stay (fun c v _ k => k) (fun c hc => by rw [upd_ne (own c hc)]; exact hc) fun c xs hc => by rw [upd_ne fun h => by rw [h, na] at hc; cases hc]; exact hc
end

/-- what is wished behind the suite of 'except x as n' -/
def keepD (D : Ends) (i : Nat) : Ends where
  nx := fun τ G => D.nx (τ.set i none) G
  rt := D.rt
  bk := fun τ G => D.bk (τ.set i none) G
  ct := fun τ G => D.ct (τ.set i none) G
def wKeep (K : PySem.W.Frag) (c : Value) (i : Nat) (ts : Addr → Value → Option Addr → TS) (Wout : WX) (D : Ends) : WX := fun cls d σ H => ∃ b, PySem.W.exmOne K cls c = some b ∧
  (b = true → ∀ a, H a = none → ts a cls d (keepD D i) (σ.set i (some (.ref a))) (upd H a (Xo a cls d))) ∧ (b = false → Wout cls d σ H)
/-- into the suite and out of it -/
theorem suite_in {X : Cx} {pins : List (Addr × Obj)} {σ : L2.St} {H : Hp} {s : Shared} {a : Addr} (I : Inv X pins σ H s) : Inv (X.suite a (X.pn ++ pins)) [] σ H s :=
  ⟨I.ok.suite _ _, I.os, I.bare, I.base, I.loc, I.cell, I.free, I.freeC, fun p hp => I.pin p (by rw [List.append_nil] at hp; exact hp), I.hok, I.len⟩
theorem suite_out {X : Cx} {pins : List (Addr × Obj)} {σ : L2.St} {H : Hp} {s : Shared} {a : Addr} (I : Inv (X.suite a (X.pn ++ pins)) [] σ H s) (ok : X.Ok) : Inv X pins σ H s :=
  ⟨ok, I.os, I.bare, I.base, I.loc, I.cell, I.free, I.freeC, fun p hp => I.pin p (by rw [List.append_nil]; exact hp), I.hok, I.len⟩
section
variable {X : Cx} {x n : Str} {c : Value} {i : Nat} {body rest : List Stmt} {st : Stmt} {np pos pos2 : Pos} {tb : WX → TS} {ts : Addr → Value → Option Addr → TS} {Wout : WX}
/-- as ps_try_as; the exception stays behind the suite -/
theorem ps_try_keep (hs : X.stack = X.env :: X.outer) (hf : X.env.frame = some X.env.locals) (hN : X.N.Nodup) (hi : X.N[i]? = some n) (hln : X.env.kindOf n = some .local) (hex : X.ex = []) (hc : Names X x c) (tk : Takes X Wout)
    (hb : ∀ (W : WX) (pn : List (Addr × Obj)) (xe : Value → Shared → Prop), Takes (X.tr pn xe) W → PassesOwn (model X.prog X.w) X.A X.env xe → PSs (X.tr pn xe) body (tb W))
    (hsu : ∀ (a : Addr) (cls : Value) (d : Option Addr) (pn : List (Addr × Obj)), PSs (X.suite a pn) (st :: rest) (ts a cls d)) :
    PS X (.Try body [.ExceptHandler (some (.Name x np)) (some n) (st :: rest) pos2] [] [] pos) (fun D σ H => tb (wKeep X.K c i ts Wout D) D σ H) := by
  refine ⟨fun pins s σ H D I h => wpAny_Try_except ?_⟩
  have ok := I.ok
  have hfr : X.A.frames = some (X.env :: X.outer) := by rw [ok.frames, hs]
  have hlc : Loc X.env.scope n := .inl hln
  have seen : ∀ {C : Heap} {h : Heap} {q : Addr} {o : Obj} {vs : Array Value}, h.FunFrames C (X.env :: X.outer) → h.get? q = some o → o.data = .fields vs → q ∉ frs (X.env :: X.outer) := fun {C h q o vs} ff e dd hm => by
    obtain ⟨_, o2, e2, nn⟩ := ff.mem hm
    rw [e] at e2
    cases e2
    exact nn _ dd
  refine wpAny_mono ((hb (wKeep X.K c i ts Wout D) (X.pn ++ pins) _ (fun u s2 air => ?_) PassesOwn.looking).run [] s σ H D (I.toTry _) h) (fun fl s2 q => ?_) fun _ _ z => z
  · obtain ⟨a, G, sI, pins2, τ, H2, cls, d, rfl, J2, nb, up, sky, na, os, ag, b, hb1, yes, no⟩ := air
    have J : Inv X pins τ H2 sI := J2.ofTry ok
    rw [hs] at sky
    refine Sky.land Zc.steady hfr hf sky fun h3 l3 up3 => ?_
    have J3 : Inv X pins τ H2 { s2 with heap := h3 } := J.landed nb l3.1 (up.trans up3) os ag
    obtain ⟨o3, v3, e3, z3, d3⟩ := l3.there
    have out := seen l3.2.2.1 e3 d3
    have nL : a ≠ X.env.locals := fun z => out (List.mem_filterMap.mpr ⟨X.env, List.mem_cons_self, by rw [hf, z]⟩)
    have nF : a ∉ X.fs := fun hm => by
      obtain ⟨e, he, q⟩ := List.mem_filterMap.mp hm
      exact out (List.mem_filterMap.mpr ⟨e, List.mem_cons_of_mem _ he, q⟩)
    have young : sI.heap.get? a = none := by
      cases q : sI.heap.get? a with
      | none => rfl
      | some o =>
        have z := nb a o q (by rw [hs]; exact out)
        rw [l3.2.1] at z
        cases z
    have young0 : X.s_0.heap.get? a = none := by
      cases q : X.s_0.heap.get? a with
      | none => rfl
      | some o =>
        obtain ⟨o2, z⟩ := J.base.there a o q (by rw [hex]; simp)
        rw [young] at z
        cases z
    have off : ∀ p ∈ X.pn ++ pins, p.1 ≠ a := fun p hp z => by
      have y := (J.pin p hp).1
      rw [z, young] at y
      cases y
    have S3 := J3.suite e3 d3 na nL nF
    have LT : PySem.W.Looks (model X.prog X.w) h3 (typeOf (.ref a)) cls := fun _ _ _ s k q => wpAny_typeOf_ref (k _ _ e3) (by rw [z3.1]; exact q)
    have LM := PySem.W.exm_one (M := model X.prog X.w) J3.kIn LT hb1
    have ask : ∀ {Q2 : Value → Shared → Prop} {E2 : Value → Shared → Prop}, Q2 c { s2 with heap := h3 } → wpAny (model X.prog X.w) (X.A.mark (some (.ref a))) (eval (.Name x np) X.env) Q2 E2 { s2 with heap := h3 } := fun {Q2 E2} q => by
      obtain ⟨hg, hdb, hm | ⟨hm, hv, hnn⟩⟩ := hc
      · exact ld_glob (X := X.suite a ((a, o3) :: (X.pn ++ pins))) S3 hg hm q hdb
      · exact ld_blt (X := X.suite a ((a, o3) :: (X.pn ++ pins))) S3 hg hm hv q hnn hdb
    refine wpAny_handleBy_cons (codeAny_handlers_test (ask (LM.here ?_))) (by intro q; cases q)
    cases b with
    | true =>
      refine codeAny_handlers_suite_as (HandSPX.lands_againZ l3 fun h4 l4 up4 => ?_)
      have J4 : Inv X pins τ H2 { s2 with heap := h4 } := J.landed nb l4.1 ((up.trans up3).trans up4) os ag
      obtain ⟨o4, v4, e4, z4, d4⟩ := l4.there
      have S4 : Inv (X.suite a (X.pn ++ pins)) [] τ (upd H2 a (Xo a cls d)) { s2 with heap := h4 } := suite_in (track J4 e4 na nL off young0 z4 d4)
      refine store_ok (X := X.suite a (X.pn ++ pins)) (v := .ref a) S4 hN hi hlc rfl (fun s5 S5 => ?_) (.inr hln)
      refine wpAny_mono ((hsu a cls d (X.pn ++ pins)).run [] s5 _ _ _ S5 (yes rfl a na)) (fun fl s6 hsp => ?_) fun _ _ z => z.elim
      have fin : ∀ {σ6 : L2.St} {H6 : Hp} {Q2 : Shared → Prop}, Inv (X.suite a (X.pn ++ pins)) [] σ6 H6 s6 → (∀ s7, Inv X pins (σ6.set i none) H6 s7 → Q2 s7) →
          wpAny (model X.prog X.w) X.A (do bindName X.env n .none; unbindBehindTheSuite X.env n pos2) (fun _ s7 => Q2 s7) X.xe s6 := fun {σ6 H6 Q2} S6 hq =>
        gone_ok (X := X.suite a (X.pn ++ pins)) S6 hN hi hln fun s7 S7 => hq s7 (suite_out S7 ok)
      cases fl with
      | next =>
        obtain ⟨σ6, H6, S6, q6⟩ := hsp
        exact fin S6 fun s7 J7 => ⟨_, _, J7, q6⟩
      | brk =>
        obtain ⟨σ6, H6, S6, q6⟩ := hsp
        exact fin S6 fun s7 J7 => ⟨_, _, J7, q6⟩
      | cont =>
        obtain ⟨σ6, H6, S6, q6⟩ := hsp
        exact fin S6 fun s7 J7 => ⟨_, _, J7, q6⟩
      | ret u =>
        obtain ⟨v6, σ6, H6, S6, r6, q6⟩ := hsp
        exact fin S6 fun s7 J7 => ⟨_, _, _, J7, r6, q6⟩
    | false =>
      refine wpAny_handleBy_nil ?_
      obtain ⟨_, _, _, oe, vs, T, _, _, he, _, hd, h1, _⟩ := id l3
      unfold PySem.passOn
      refine wpAny_bind (wpAny_field he hd h1 ?_)
      rw [if_neg (show ¬ ((Value.ref T == Value.none) = true) from by simp)]
      have go : wpAny (model X.prog X.w) X.A (setFlight (.ref a) X.env.frame) (fun _ s4 => wpAny (model X.prog X.w) X.A (throw (.ref a) : Sem Flow) (SP X pins D) X.xe s4) X.xe { s2 with heap := h3 } := by
        rw [hf]
        exact HandSPX.setFlight_upZ l3 fun h4 g4 up4 => wpAny_throw (tk _ _ ⟨a, G, sI, pins, τ, H2, cls, d, rfl, J, nb, (up.trans up3).trans up4, .inr (.inr (by rw [hs]; exact g4)), na, os, ag, no rfl⟩)
      first
        | exact wpAny_bind (wpAny_pure (wpAny_bind go))
        | exact wpAny_bind go
  · cases fl with
    | next =>
      obtain ⟨τ, H2, J, q⟩ := q
      exact wpAny_execs_nil ⟨τ, H2, J.ofTry ok, q⟩
    | brk =>
      obtain ⟨τ, H2, J, q⟩ := q
      exact ⟨τ, H2, J.ofTry ok, q⟩
    | cont =>
      obtain ⟨τ, H2, J, q⟩ := q
      exact ⟨τ, H2, J.ofTry ok, q⟩
    | ret u =>
      obtain ⟨v, τ, H2, J, r, q⟩ := q
      exact ⟨v, τ, H2, J.ofTry ok, r, q⟩
end

/-! ## a kept exception looked at -/
/-- at a: a kept exception of the own class C with the attributes fs -/
def Kept (H : Hp) (a C : Addr) (fs : List (Str × V)) : Prop := ∃ d, (H a = some (Xo a (.ref C) (some d)) ∧ H d = some (.xd fs)) ∨ (H a = some (exo a C (some d)) ∧ H d = some (exd d fs))
theorem kept_at {X : Cx} {pins : List (Addr × Obj)} {σ : L2.St} {H : Hp} {s : Shared} {a C : Addr} {fs : List (Str × V)} (I : Inv X pins σ H s) (k : Kept H a C fs) :
    ∃ (oe od : Obj) (d : Addr) (mA : Str → Option Value), PySem.W.InstAt s.heap a oe C (some od) ∧ s.heap.get? d = some od ∧ s.heap.Ns1 d mA ∧ ∀ f, RelO (fs.lookup f) (mA f) := by
  obtain ⟨d, ⟨h1, h2⟩ | ⟨h1, h2⟩⟩ := k
  · obtain ⟨oe, vs, e, z, f⟩ := xo_at I.hok h1
    have hx : ObjOk X.prog X.w H s.heap d (.xd fs) := I.hok d _ h2
    obtain ⟨mA, hns, hr⟩ := hx
    obtain ⟨od, ho, _⟩ := lookIn_ns hns
    exact ⟨oe, od, d, mA, ⟨e, z.1, by unfold PySem.W.notCls; rw [f] <;> rfl, by rw [z.2]; exact ho⟩, ho, hns, hr⟩
  · obtain ⟨t1, e⟩ := exo_at I.hok h1
    obtain ⟨mA, hns, hr⟩ := exd_at I.hok h2
    obtain ⟨od, ho, _⟩ := lookIn_ns hns
    exact ⟨_, od, d, mA, ⟨e, rfl, rfl, ho⟩, ho, hns, hr⟩
def rIsX (K : PySem.W.Frag) : List V → Hp → VK → Prop := fun xs H Q => ∃ (a C : Addr) (fs : List (Str × V)) (c : V) (cv : Value) (b : Bool), xs = [.ref a, c] ∧ Kept H a C fs ∧ ExcC K C ∧ ClsV c cv ∧ PySem.W.kitOne K (.ref C) cv = some b ∧ Q (.bl b) H
theorem call_isX {X : Cx} {K : PySem.W.Frag} (h : X.K = K := by rfl) : CallR X (.builtin "isinstance") (rIsX K) := by
  subst h
  intro pins s σ H xs us Q I r h
  obtain ⟨a, C, fs, c, cv, b, rfl, k, EC, hc, e, q⟩ := h
  obtain ⟨oe, od, d, mA, J, _⟩ := kept_at I k
  cases r with
  | @cons _ u0 _ ur rx rr =>
    cases rr with
    | @cons _ u1 _ _ rt rr =>
      cases rr
      cases rx
      have ec : u1 = cv := by
        cases hc <;> exact rt
      subst ec
      obtain ⟨cd, hcd, _⟩ := PySem.W.any_some EC.hd
      exact PySem.W.kia_one (PySem.W.kitx_exc (by rw [hcd]; rfl) EC.hg EC.hk EC.hs EC.ha EC.hn EC.ht EC.hm) I.kIn J e (fun z => nomatch z) fun tk => ⟨.bl b, H, I.kept (t' := tk) fun _ _ z => z, rfl, q⟩
def tXv (K : PySem.W.Frag) (te : TE) (f : Str) : TE := fun σ H Q => te σ H fun x H1 => ∃ (a C : Addr) (fs : List (Str × V)) (v : V), x = .ref a ∧ Kept H1 a C fs ∧ XfC K C ∧ PySem.W.findIn K (.ref C) f = some none ∧ fs.lookup f = some v ∧ Q v H1
theorem pe_xv {X : Cx} {K : PySem.W.Frag} {e : Expr} {te : TE} {f : Str} {pos : Pos} (he : PE X e te) (hb : attributeBase e f X.env (eval e X.env) = eval e X.env := by rfl) (h : X.K = K := by rfl) : PE X (.Attribute e f pos) (tXv K te f) := by
  subst h
  refine ⟨fun pins s σ H Q I h => attr_of hb (thn (he.run pins s σ H _ I h) fun u s1 hh => ?_)⟩
  obtain ⟨x, H1, I1, rx, a, C, fs, v, rfl, k, T, hno, l, q⟩ := hh
  obtain rfl : u = Value.ref a := rx
  obtain ⟨oe, od, d, mA, J, ho, hns, hr⟩ := kept_at I1 k
  obtain ⟨od2, ho2, hl⟩ := lookIn_ns hns
  rw [ho] at ho2
  cases ho2
  obtain ⟨u, hu, ru⟩ := RelO.some_of (v := v) (o := mA f) (by rw [← l]; exact hr f)
  exact HandSPX.exc_get I1.kIn J T.ga T.gg T.exC (PySem.W.findObj_own T.hdC hno rfl (by rw [hl, hu])) (handed_of ru) ⟨v, H1, I1.tok _, ru, q⟩
end Sq


set_option Elab.async false
set_option maxRecDepth 100000
set_option maxHeartbeats 4000000
namespace Sq
open PySem PySem.Spec PyProof.Rows L2
/-! ## raise C(e), C an own class with the __init__ of MExc -/
structure Rai (P : Program) (w : World) (K : PySem.W.Frag) (mg : Str → Option Value) (base : Heap) (k : Nat) (x : Str) (C : Addr) : Prop where
  ex : ∃ (f : Addr) (fd : FuncData), OexC K C ∧ PySem.W.findIn K (.ref C) "__init__" = some (some (.ref f)) ∧ PySem.W.typeIn K (.ref f) = some (.type "function") ∧ FnOk P w K mg base CX0 k f fd ["self", "value"] (spXI C) ∧ mg x = some (.ref C) ∧ L2.Binds K fd ["self", "value"] []
def tRx (W : WX) (C : Addr) (te : TE) : TS := fun _ σ H => te σ H fun v H1 => ∀ d, H1 d = none → W (.ref C) (some d) σ (upd H1 d (.xd [("value", v)]))
theorem heap_rx {H : Hp} {a d : Addr} {u z o : HO} (na : H a = none) (n : d ≠ a) : upd (del (upd (upd (upd H a u) d z) a o) a) d (.xd [("value", v)]) = upd H d (.xd [("value", v)]) := by
  funext b
  by_cases h1 : b = d
  · rw [h1, upd_same, upd_same]
  · rw [upd_ne h1, upd_ne h1]
    by_cases h2 : b = a
    · rw [h2, del_same, na]
    · rw [del_ne h2, upd_ne h2, upd_ne h1, upd_ne h2]
/-- a reading that may be weakened -/
def tWk (te : TE) : TE := fun σ H Q => ∃ R : VK, te σ H R ∧ ∀ v G, R v G → Q v G
theorem pe_wk {X : Cx} {e : Expr} {te : TE} (h : PE X e te) : PE X e (tWk te) := ⟨fun pins s σ H Q I ⟨R, q, k⟩ => wpAny_mono (h.run pins s σ H R I q) (fun u s1 ⟨x, G, J, r, z⟩ => ⟨x, G, J, r, k _ _ z⟩) fun _ _ z => z⟩
section
variable {X : Cx} {W : WX} {k j : Nat} {C : Addr} {x : Str} {p pos pos2 : Pos} {e : Expr} {te : TE}
theorem ps_rx (c : Rai X.prog X.w X.K X.mg X.base k x C) (hr : Room j X.A) (hk : k + 1 ≤ j) (hg : Gl X x) (tk : Takes X W) (ha : PE X e te) (hc : X.calm = true := by rfl)
    (hdb : (x == ("__debug__" : Str)) = false := by decide) (he : starEach [e] X.env = (false, eval e X.env) :: starEach [] X.env := by rfl) (hpl : (backTo pos (starEach [] X.env)).any (·.1) = false := by rfl) : PS X (.Raise (some (.Call (.Name x p) [e] [] pos)) none pos2) (tRx W C te) := by
  obtain ⟨f, fd, T, iC, tI, F, hm, b⟩ := c.ex
  have mk := pmk_oex (pos := pos) (p := p) T iC tI F (hr.mono hk) b .nil pass0 hg hm (pa_cons (pe_wk ha) pa_nil he) hdb he hpl
  have r := ps_raise (pos := pos2) hc tk mk
  refine ⟨fun pins s σ H D I h => r.run pins s σ H D I ⟨_, h, fun v G q => ⟨Nat.le_of_ble_eq_true rfl, fun a na => ⟨a, v, rfl, upd_same, fun dx nd ne => ?_⟩⟩⟩⟩
  have nd' : G dx = none := by
    rw [upd_ne ne] at nd
    exact nd
  refine ⟨rfl, dx, _, upd_same, by rw [upd_ne ne, upd_same], nd', ?_⟩
  rw [heap_rx na ne]
  exact q dx nd'
end

/-! ## defs that may raise -/
structure CalX (P : Program) (w : World) (K : PySem.W.Frag) (mg : Str → Option Value) (base : Heap) (k : Nat) (x : Str) (sp : Sp) : Prop where
  ex : ∃ (f : Addr) (fd : FuncData) (ps : List Str), FnOk P w K mg base (L2.CX P w) k f fd ps sp ∧ mg x = some (.ref f) ∧ PySem.W.keepIn K (.ref f) = true ∧ L2.Binds K fd ps []
section
variable {P : Program} {w : World} {K : PySem.W.Frag} {mg : Str → Option Value} {base : Heap}
theorem DefAt.calX {x : Str} {st : Stmt} {ps N : List Str} {k : Nat} {sp : Sp} (D : DefAt K mg x st ps) (S : FnScope N ps (defScope st)) (len : ∀ vs H Q E, sp vs H Q E → vs.length = ps.length)
    (hb : ∀ (f : Addr) (cdv : Value) (A : Around) (outer : List Env) (s : Shared) (H : Hp) (vs : List V) (Q : VK) (E : XK), Room k (A.deeper (envOfC x (defScope st) s.heap.objs.size f cdv)) → sp vs H Q E →
      (Takes (cxOf (L2.CX P w) P w K mg base N x (defScope st) f cdv A outer s H E) fun cls d _ G => E cls d G) →
      ∃ t, PSs (cxOf (L2.CX P w) P w K mg base N x (defScope st) f cdv A outer s H E) (defBody st) t ∧ t { nx := fun _ H' => Q .non H', rt := Q } (start N vs) H) : CalX P w K mg base (k + 1) x sp := by
  obtain ⟨f, fd, F, hm, b⟩ := D.ex
  exact ⟨f, fd, ps, F.okX S len fun cdv A outer s H vs Q E hr hsp => hb f cdv A outer s H vs Q E hr hsp (takes_of rfl rfl rfl rfl), hm, F.kp, b⟩
/-- where it raises nothing it is a plain def -/
theorem fn_calm {k : Nat} {f : Addr} {fd : FuncData} {ps : List Str} {sp sp' : Sp} (F : FnOk P w K mg base (L2.CX P w) k f fd ps sp) (h : ∀ vs H Q E, sp' vs H Q E → sp vs H Q E0) : FnOk P w K mg base CX0 k f fd ps sp' := by
  refine ⟨fun vs H Q E q => F.len _ _ _ _ (h _ _ _ _ q), fun A outer s H args us vs Q E hr e0 b r q => codeAny_mono (F.run A outer s H args us vs Q E0 hr e0 b r (h _ _ _ _ q)) fun res s' z => ?_⟩
  cases res with
  | ok fl => cases fl <;> exact z
  | error e =>
    obtain ⟨_, _, _, _, _, _, _, _, _, _, _, _, no⟩ := z
    exact no.elim
theorem CalX.calm {x : Str} {k : Nat} {sp sp' : Sp} (c : CalX P w K mg base k x sp) (h : ∀ vs H Q E, sp' vs H Q E → sp vs H Q E0) : Cal P w K mg base k x sp' [] := by
  obtain ⟨f, fd, ps, F, hm, kp, b⟩ := c.ex
  exact ⟨f, fd, ps, [], fn_calm F h, hm, kp, b, .nil⟩
theorem CalX.imp {x : Str} {k j : Nat} {sp sp' : Sp} (c : CalX P w K mg base k x sp) (hk : k ≤ j) (h : ∀ vs H Q E, sp' vs H Q E → sp vs H Q E) : CalX P w K mg base j x sp' := by
  obtain ⟨f, fd, ps, F, hm, kp, b⟩ := c.ex
  exact ⟨f, fd, ps, (F.mono hk).imp h, hm, kp, b⟩
end
section
variable {X : Cx} {W : WX} {k j : Nat} {x : Str} {sp : Sp} {p pos : Pos} {e : Expr} {es : List Expr} {t : TA}
/-- a call that may raise, where W is wished of what is raised -/
theorem pe_cx (c : CalX X.prog X.w X.K X.mg X.base k x sp) (hr : Room j X.A) (hk : k ≤ j) (tk : Takes X W) (hg : Gl X x) (ha : PA X (e :: es) t)
    (hdb : (x == ("__debug__" : Str)) = false := by decide) (he : starEach (e :: es) X.env = (false, eval e X.env) :: starEach es X.env := by rfl) (hpl : (backTo pos (starEach es X.env)).any (·.1) = false := by rfl) :
    PE X (.Call (.Name x p) (e :: es) [] pos) (tCallS sp (WE W) t) := by
  obtain ⟨f, fd, ps, F, hm, kp, b⟩ := c.ex
  exact pe_callS F (hr.mono hk) hg hm kp b (passAt tk) ha hdb he hpl
/-- a call of such a def that raises nothing -/
theorem pe_cx0 (c : CalX X.prog X.w X.K X.mg X.base k x sp) (hr : Room j X.A) (hk : k ≤ j) (hg : Gl X x) (ha : PA X (e :: es) t)
    (hdb : (x == ("__debug__" : Str)) = false := by decide) (he : starEach (e :: es) X.env = (false, eval e X.env) :: starEach es X.env := by rfl) (hpl : (backTo pos (starEach es X.env)).any (·.1) = false := by rfl) :
    PE X (.Call (.Name x p) (e :: es) [] pos) (tCall sp [] E0 t) := by
  obtain ⟨f, fd, ps, F, hm, kp, b⟩ := c.ex
  exact L2.pe_call F (hr.mono hk) hg hm kp b .nil passL ha hdb he hpl
end

/-! ## methods and new objects that may raise -/
structure MetX (P : Program) (w : World) (K : PySem.W.Frag) (mg : Str → Option Value) (base : Heap) (k : Nat) (C : Addr) (m : Str) (sp : Sp) : Prop where
  ex : ∃ (f : Addr) (fd : FuncData) (ps : List Str), Cls K C ∧ Meth K C m f ∧ FnOk P w K mg base (L2.CX P w) k f fd ps sp ∧ L2.Binds K fd ps []
structure MakX (P : Program) (w : World) (K : PySem.W.Frag) (mg : Str → Option Value) (base : Heap) (k : Nat) (x : Str) (C : Addr) (sp : Sp) : Prop where
  ex : ∃ (f : Addr) (fd : FuncData) (ps : List Str), Mk K C f ∧ FnOk P w K mg base (L2.CX P w) k f fd ps sp ∧ mg x = some (.ref C) ∧ L2.Binds K fd ps []
section
variable {P : Program} {w : World} {K : PySem.W.Frag} {mg : Str → Option Value} {base : Heap} {C : Addr} {m x qual : Str} {st : Stmt} {ps N : List Str} {k : Nat} {sp : Sp}
theorem MetAt.metX (D : MetAt K C m qual st ps) (cl : Cls K C) (S : FnScope N ps (defScope st)) (len : ∀ vs H Q E, sp vs H Q E → vs.length = ps.length)
    (hb : ∀ (f : Addr) (cdv : Value) (A : Around) (outer : List Env) (s : Shared) (H : Hp) (vs : List V) (Q : VK) (E : XK), Room k (A.deeper (envOfC qual (defScope st) s.heap.objs.size f cdv)) → sp vs H Q E →
      (Takes (cxOf (L2.CX P w) P w K mg base N qual (defScope st) f cdv A outer s H E) fun cls d _ G => E cls d G) →
      ∃ t, PSs (cxOf (L2.CX P w) P w K mg base N qual (defScope st) f cdv A outer s H E) (defBody st) t ∧ t { nx := fun _ H' => Q .non H', rt := Q } (start N vs) H) : MetX P w K mg base (k + 1) C m sp := by
  obtain ⟨f, fd, F, hm, b⟩ := D.ex
  exact ⟨f, fd, ps, cl, hm, F.okX S len fun cdv A outer s H vs Q E hr hsp => hb f cdv A outer s H vs Q E hr hsp (takes_of rfl rfl rfl rfl), b⟩
theorem IniAt.makX (D : IniAt K mg C x qual st ps) (S : FnScope N ps (defScope st)) (len : ∀ vs H Q E, sp vs H Q E → vs.length = ps.length)
    (hb : ∀ (f : Addr) (cdv : Value) (A : Around) (outer : List Env) (s : Shared) (H : Hp) (vs : List V) (Q : VK) (E : XK), Room k (A.deeper (envOfC qual (defScope st) s.heap.objs.size f cdv)) → sp vs H Q E →
      (Takes (cxOf (L2.CX P w) P w K mg base N qual (defScope st) f cdv A outer s H E) fun cls d _ G => E cls d G) →
      ∃ t, PSs (cxOf (L2.CX P w) P w K mg base N qual (defScope st) f cdv A outer s H E) (defBody st) t ∧ t { nx := fun _ H' => Q .non H', rt := Q } (start N vs) H) : MakX P w K mg base (k + 1) x C sp := by
  obtain ⟨f, fd, F, hm, hg, b⟩ := D.ex
  exact ⟨f, fd, ps, hm, F.okX S len fun cdv A outer s H vs Q E hr hsp => hb f cdv A outer s H vs Q E hr hsp (takes_of rfl rfl rfl rfl), hg, b⟩
end
theorem MetX.calm {P : Program} {w : World} {K : PySem.W.Frag} {mg : Str → Option Value} {base : Heap} {C : Addr} {m : Str} {k : Nat} {sp sp' : Sp} (c : MetX P w K mg base k C m sp) (h : ∀ vs H Q E, sp' vs H Q E → sp vs H Q E0) : Met P w K mg base k C m sp' := by
  obtain ⟨f, fd, ps, c1, c2, F, b⟩ := c.ex
  exact ⟨f, fd, ps, c1, c2, fn_calm F h, b⟩
theorem MakX.calm {P : Program} {w : World} {K : PySem.W.Frag} {mg : Str → Option Value} {base : Heap} {C : Addr} {x : Str} {k : Nat} {sp sp' : Sp} (c : MakX P w K mg base k x C sp) (h : ∀ vs H Q E, sp' vs H Q E → sp vs H Q E0) : Mak P w K mg base k x C sp' := by
  obtain ⟨f, fd, ps, M, F, hm, b⟩ := c.ex
  exact ⟨f, fd, ps, M, fn_calm F h, hm, b⟩
def tMethS (C : Addr) (m : Str) (sp : Sp) (E : L2.St → XK) (ta : TE) (t : TA) : TE := fun σ H Q => ta σ H fun x H1 => ∃ a dx fs, x = .ref a ∧ H1 a = some (.ins C dx fs) ∧ fs.lookup m = none ∧ t σ H1 fun vs H2 => sp (x :: vs) H2 Q (E σ)
def tMakeS (C : Addr) (sp : Sp) (E : L2.St → XK) (t : TA) : TE := fun σ H Q => t σ H fun vs H1 => ∀ x dx, H1 x = none → H1 dx = none → dx ≠ x →
  sp (.ref x :: vs) (upd (upd H1 dx (.own x)) x (.ins C dx [])) (fun v H2 => v = .non ∧ Q (.ref x) H2) (E σ)
section
variable {X : Cx} {W : WX} {k j : Nat} {C : Addr} {x m : Str} {sp : Sp} {p pos apos : Pos} {e o : Expr} {es : List Expr} {ta : TE} {t : TA}
theorem pe_mx {pl : Sem Bool} (c : MetX X.prog X.w X.K X.mg X.base k C m sp) (hr : Room j X.A) (hk : k ≤ j) (tk : Takes X W) (he : PE X o ta) (ha : PA X (e :: es) t)
    (ht : eval (.Call (.Attribute o m apos) (e :: es) [] pos) X.env = (do
      let ov ← eval o X.env
      standAt apos.atName
      let (f, first) ← holding [ov] (getMethod ov m pl)
      callWith pos f first (backTo pos (starEach (e :: es) X.env)) (backToKw pos (keywordEach [] X.env))) := by rfl)
    (hst : starEach (e :: es) X.env = (false, eval e X.env) :: starEach es X.env := by rfl) (hpl : (backTo pos (starEach es X.env)).any (·.1) = false := by rfl) : PE X (.Call (.Attribute o m apos) (e :: es) [] pos) (tMethS C m sp (WE W) ta t) := by
  obtain ⟨f, fd, ps, cl, hm, F, b⟩ := c.ex
  refine ⟨fun pins s σ H Q I h => PySem.W.methodCall_KW (pl := pl) (thn (he.run pins s σ H _ I h) fun u s1 hh => ?_) ht⟩
  obtain ⟨x, H1, I1, rx, a, dx, fs, rfl, ea, l, q⟩ := hh
  obtain rfl : u = Value.ref a := rx
  refine getmeth_ok I1 ea cl hm l (PySem.W.callWith_K (first := [.ref a]) (h₀ := X.base) I.ok.mod.kin hm.kp (thn (ha.run pos pins s1 σ H1 _ I1 q) fun us s2 hh => ?_) hst hpl)
  obtain ⟨vs, H2, I2, r, q2⟩ := hh
  exact ⟨I2.kIn, run_fnS (us := .ref a :: us) (vs := .ref a :: vs) F (hr.mono hk) b (passAt tk σ) I2 (.cons rfl r) q2⟩
theorem pe_mkx (c : MakX X.prog X.w X.K X.mg X.base k x C sp) (hr : Room j X.A) (hk : k + 1 ≤ j) (tk : Takes X W) (hg : Gl X x) (ha : PA X (e :: es) t)
    (hdb : (x == ("__debug__" : Str)) = false := by decide) (he : starEach (e :: es) X.env = (false, eval e X.env) :: starEach es X.env := by rfl) (hpl : (backTo pos (starEach es X.env)).any (·.1) = false := by rfl) :
    PE X (.Call (.Name x p) (e :: es) [] pos) (tMakeS C sp (WE W) t) := by
  obtain ⟨f, fd, ps, M, F, hm, b⟩ := c.ex
  refine ⟨fun pins s σ H Q I h => wpAny_Call_Name_kw (ld_glob I hg hm ?_ hdb)⟩
  refine PySem.W.callWith_K (h₀ := X.base) I.ok.mod.kin M.kp (thn (ha.run pos pins s σ H _ I h) fun us s1 hh => ?_) he hpl
  obtain ⟨vs, H1, I1, r, q⟩ := hh
  refine ⟨I1.kIn, ?_⟩
  have hq := q (s1.heap.objs.size + 1) s1.heap.objs.size (I1.hok.fresh (Nat.le_succ _)) (I1.hok.fresh (Nat.le_refl _)) (Nat.ne_of_lt (Nat.lt_succ_self _))
  have I2 := Inv.made (C := C) I1
  have r2 : Vals (V.ref (s1.heap.objs.size + 1) :: vs) (Value.ref (s1.heap.objs.size + 1) :: us) := .cons rfl r
  have ln : (Value.ref (s1.heap.objs.size + 1) :: us).length = ps.length := by
    rw [← r2.length]
    exact F.len _ _ _ _ hq
  have bb := b _ (Value.ref (s1.heap.objs.size + 1) :: us) I2.kIn (by rw [List.append_nil]; exact ln)
  rw [List.append_nil] at bb
  show wpAny _ _ (call (.ref C) us) _ _ _
  refine wpAny_call (make_map (f := f) I1.kIn M.makes M.init (beq_iff_eq.mp M.fn) (codeAny_mono (F.run _ X.stack _ _ ⟨Value.ref (s1.heap.objs.size + 1) :: us, []⟩ _ _ _ (WE W σ) ((hr.mono hk).make C us []) (I2.env0.make C us []) bb r2 hq) fun r s' hq2 => ?_))
  cases r with
  | error er => exact passAt tk σ pins _ _ er s' I2 hq2
  | ok fl =>
    cases fl with
    | ret u =>
      obtain ⟨v, H', I3, rv, ev, q3⟩ := I2.after hq2
      subst ev
      exact ⟨rv, ⟨V.ref (s1.heap.objs.size + 1), H', I3, rfl, q3⟩⟩
    | next => exact False.elim hq2
    | brk => exact False.elim hq2
    | cont => exact False.elim hq2
theorem pe_mx0 {pl : Sem Bool} (c : MetX X.prog X.w X.K X.mg X.base k C m sp) (hr : Room j X.A) (hk : k ≤ j) (he : PE X o ta) (ha : PA X (e :: es) t)
    (ht : eval (.Call (.Attribute o m apos) (e :: es) [] pos) X.env = (do
      let ov ← eval o X.env
      standAt apos.atName
      let (f, first) ← holding [ov] (getMethod ov m pl)
      callWith pos f first (backTo pos (starEach (e :: es) X.env)) (backToKw pos (keywordEach [] X.env))) := by rfl)
    (hst : starEach (e :: es) X.env = (false, eval e X.env) :: starEach es X.env := by rfl) (hpl : (backTo pos (starEach es X.env)).any (·.1) = false := by rfl) : PE X (.Call (.Attribute o m apos) (e :: es) [] pos) (tMeth C m sp [] E0 ta t) := by
  obtain ⟨f, fd, ps, c1, c2, F, b⟩ := c.ex
  exact L2.pe_meth (pl := pl) he c1 c2 F (hr.mono hk) b .nil passL ha hst hpl ht
theorem pe_mkx0 (c : MakX X.prog X.w X.K X.mg X.base k x C sp) (hr : Room j X.A) (hk : k + 1 ≤ j) (hg : Gl X x) (ha : PA X (e :: es) t)
    (hdb : (x == ("__debug__" : Str)) = false := by decide) (he : starEach (e :: es) X.env = (false, eval e X.env) :: starEach es X.env := by rfl) (hpl : (backTo pos (starEach es X.env)).any (·.1) = false := by rfl) :
    PE X (.Call (.Name x p) (e :: es) [] pos) (tMake C sp [] E0 t) := by
  obtain ⟨f, fd, ps, M, F, hm, b⟩ := c.ex
  exact L2.pe_make M F (hr.mono hk) hg hm b .nil passL ha hdb he hpl
end

/-! ## an exception class of the text, out of what the top has written -/
theorem rai_mk {P : Program} {w : World} {K : PySem.W.Frag} {h base : Heap} {mg : Str → Option Value} {x : Str} {C f cc cda N : Addr} {nm q qual m file : Str} {bs bm sub : List Value} {sn : List Str} {ab : Bool} {col : Option Bool} {dd cld cdd od an : Option Addr} {k0 k1 k2 k3 k5 : Option Value}
    {cl ccl oc kV doc pm ct : Value} {csl ccs osl : Array (Option Value)} {cvs : Array Value} {tf : Tok} {p0 p1 p2 p3 p4 p5 p6 p7 p8 p9 q0 q1 : Pos} (X : K.In h) (G : h.Ns mainGlobals mg) (hm : mg x = some (.ref C))
    (lC : K.lookup C = some (excClassObj nm q C N bs bm true sn sub ab col dd k0 k1 k2 k3 k5 "ValueError.__new__")) (rC : PySem.HandSPX.refsVE bm = true) (sa : PySem.W.findIn K (.ref C) "__setattr__" = some (some (.builtin "object.__setattr__")))
    (ex : PySem.W.subIn K (.ref C) (.type "BaseException") = some true) (ty : PySem.W.typeIn K (.ref C) = some (.type "type")) (kc : PySem.W.keepIn K (.ref C) = true)
    (ini : PySem.W.findIn K (.ref C) "__init__" = some (some (.ref f))) (tyf : PySem.W.typeIn K (.ref f) = some (.type "function"))
    (l : K.lookup f = some ⟨oc, od, .func (PySem.W.ksFn "__init__" qual (xiArgs q0 q1) (xiBody m p0 p1 p2 p3 p4 p5 p6 p7 p8 p9) xiScope .none kV doc pm an (.ref cda) ct cc), osl⟩)
    (co : PySem.W.codeIn K (.ref cda) qual = true) (cell : K.lookup cc = some ⟨cl, cld, .cell (some (.ref C)), csl⟩) (rec_ : K.lookup cda = some ⟨ccl, cdd, .fields cvs, ccs⟩) (v2 : cvs[2]? = some (.str file tf)) (fl : ((P.main.file : Str) == file) = true)
    (top : (P.main.scope.names.lookup ("super" : Str)).isSome = false) (opq : PySem.W.nsIn K PySem.cStatics "thirdparty.any" = some none) (sup : PySem.W.ks_superIn K C C "__init__" = some (some (.builtin "ValueError.__init__"))) (veb : PySem.W.subIn K (.ref C) (.type "ValueError") = some true)
    (slf : PySem.W.mroIn K C (.ref C) = some true) (val : PySem.W.findIn K (.ref C) "value" = some none) (ms : PySem.W.nsIn K mainGlobals "super" = some none) (he : XiCall qual f cc cda m p0 p1 p2 p3 p4)
    (hb : ∀ us : List Value, us.length = 2 → bindArgs (PySem.W.ksFn "__init__" qual (xiArgs q0 q1) (xiBody m p0 p1 p2 p3 p4 p5 p6 p7 p8 p9) xiScope .none kV doc pm an (.ref cda) ct cc) ⟨us, []⟩ = pure ((["self", "value"] : List Str).zip us)) : Rai P w K mg base 1 x C :=
  ⟨f, _, ⟨⟨nm, q, N, bs, bm, sn, sub, ab, col, dd, k0, k1, k2, k3, k5, lC, rC⟩, sa, ex, ty, kc⟩, ini, tyf,
    ok_xi ⟨⟨nm, q, N, bs, bm, sn, sub, ab, col, dd, k0, k1, k2, k3, k5, lC, rC⟩, sa, ex, ty, kc⟩ ⟨co, ⟨cl, cld, csl, cell⟩, ⟨ccl, cdd, cvs, ccs, tf, rec_, v2⟩, fl, top, opq, sup, veb, slf, val⟩ l (PySem.W.mg_none_of X G ms) he, hm, L2.Binds.all hb⟩
end Sq


set_option Elab.async false
set_option maxRecDepth 100000
set_option maxHeartbeats 4000000
namespace Sq
open PySem PySem.Spec PyProof.Rows L2
/-! ## methods called by keywords alone -/
structure MetKX (P : Program) (w : World) (K : PySem.W.Frag) (mg : Str → Option Value) (base : Heap) (k : Nat) (C : Addr) (m : Str) (ks : List Str) (sp : Sp) : Prop where
  ex : ∃ (f : Addr) (fd : FuncData) (ps : List Str) (spf : Sp) (g : List Value → List Value → List Value) (gV : List V → List V → List V),
    Cls K C ∧ Meth K C m f ∧ FnOk P w K mg base (L2.CX P w) k f fd ps spf ∧ KBn K fd ps 1 ks g gV ∧ ∀ x zs H Q E, sp (x :: zs) H Q E → zs.length = ks.length ∧ spf (gV [x] zs) H Q E
def tMetK (C : Addr) (m : Str) (sp : Sp) (E : L2.St → XK) (ta : TE) (tk : TA) : TE := fun σ H Q => ta σ H fun x H1 => ∃ a dx fs, x = .ref a ∧ H1 a = some (.ins C dx fs) ∧ fs.lookup m = none ∧ tk σ H1 fun zs H2 => sp (x :: zs) H2 Q (E σ)
section
variable {X : Cx} {W : WX} {k j : Nat} {C : Addr} {m : Str} {ks : List Str} {sp : Sp} {pos apos : Pos} {o : Expr} {kws : List Keyword} {ta : TE} {t : TA}
theorem pe_mkwx {pl : Sem Bool} (c : MetKX X.prog X.w X.K X.mg X.base k C m ks sp) (hr : Room j X.A) (hk : k ≤ j) (tk : Takes X W) (he : PE X o ta) (ha : PK X kws t)
    (ht : eval (.Call (.Attribute o m apos) [] kws pos) X.env = (do
      let ov ← eval o X.env
      standAt apos.atName
      let (f, first) ← holding [ov] (getMethod ov m pl)
      callWith pos f first (backTo pos (starEach [] X.env)) (backToKw pos (keywordEach kws X.env))) := by rfl)
    (hall : (backToKw pos (keywordEach kws X.env)).all (·.1.isSome) = true := by rfl) (hks : (backToKw pos (keywordEach kws X.env)).filterMap (·.1) = ks := by rfl)
    (hpl : ((backTo pos (starEach [] X.env)).any (·.1) || (backToKw pos (keywordEach kws X.env)).any (·.1.isNone)) = false := by rfl) : PE X (.Call (.Attribute o m apos) [] kws pos) (tMetK C m sp (WE W) ta t) := by
  obtain ⟨f, fd, ps, spf, g, gV, cl, hm, F, hb, hs⟩ := c.ex
  refine ⟨fun pins s σ H Q I h => PySem.W.methodCall_KW (pl := pl) (thn (he.run pins s σ H _ I h) fun u s1 hh => ?_) ht⟩
  obtain ⟨x, H1, I1, rx, a, dx, fs, rfl, ea, l, q⟩ := hh
  obtain rfl : u = Value.ref a := rx
  refine getmeth_ok I1 ea cl hm l (PySem.W.callWith_KW0 (first := [.ref a]) (h₀ := X.base) I.ok.mod.kin hm.kp hall (thn (ha.run pos pins s1 σ H1 _ I1 q) fun ws s2 hh => ?_) hpl)
  obtain ⟨zs, H2, I2, rz, q2⟩ := hh
  obtain ⟨lz, q3⟩ := hs _ _ _ _ _ q2
  refine ⟨I2.kIn, ?_⟩
  rw [hks]
  have r1 : Vals [V.ref a] [Value.ref a] := .cons rfl .nil
  refine wpAny_call (codeAny_mono (F.run X.A X.stack s2 H2 ⟨[.ref a], ks.zip ws⟩ (g [.ref a] ws) (gV [.ref a] zs) Q (WE W σ) (hr.mono hk) I2.env0 (hb.to s2 [.ref a] ws I2.kIn rfl (rz.length.symm.trans lz)) (hb.rel r1 rz) q3) fun r s3 hq => ?_)
  cases r with
  | error er => exact passAt tk σ pins H2 s2 er s3 I2 hq
  | ok fl =>
    cases fl with
    | ret u => exact I2.after hq
    | next => exact False.elim hq
    | brk => exact False.elim hq
    | cont => exact False.elim hq
end
/-! ## new objects made by keywords alone -/
structure MakK (P : Program) (w : World) (K : PySem.W.Frag) (mg : Str → Option Value) (base : Heap) (k : Nat) (x : Str) (C : Addr) (ks : List Str) (sp : Sp) : Prop where
  ex : ∃ (f : Addr) (fd : FuncData) (ps : List Str) (spf : Sp) (g : List Value → List Value → List Value) (gV : List V → List V → List V),
    Mk K C f ∧ FnOk P w K mg base CX0 k f fd ps spf ∧ mg x = some (.ref C) ∧ KBn K fd ps 1 ks g gV ∧ ∀ x zs H Q E, sp (x :: zs) H Q E → zs.length = ks.length ∧ spf (gV [x] zs) H Q E
def tMakK (C : Addr) (sp : Sp) (tk : TA) : TE := fun σ H Q => tk σ H fun zs H1 => ∀ x dx, H1 x = none → H1 dx = none → dx ≠ x → sp (.ref x :: zs) (upd (upd H1 dx (.own x)) x (.ins C dx [])) (fun v H3 => v = .non ∧ Q (.ref x) H3) E0
section
variable {X : Cx} {k j : Nat} {C : Addr} {x : Str} {ks : List Str} {sp : Sp} {p pos : Pos} {kws : List Keyword} {t : TA}
theorem pe_mkk (c : MakK X.prog X.w X.K X.mg X.base k x C ks sp) (hr : Room j X.A) (hk : k + 1 ≤ j) (hg : Gl X x) (ha : PK X kws t)
    (hall : (backToKw pos (keywordEach kws X.env)).all (·.1.isSome) = true := by rfl) (hks : (backToKw pos (keywordEach kws X.env)).filterMap (·.1) = ks := by rfl) (hdb : (x == ("__debug__" : Str)) = false := by decide)
    (hpl : ((backTo pos (starEach [] X.env)).any (·.1) || (backToKw pos (keywordEach kws X.env)).any (·.1.isNone)) = false := by rfl) : PE X (.Call (.Name x p) [] kws pos) (tMakK C sp t) := by
  obtain ⟨f, fd, ps, spf, g, gV, M, F, hm, hb, hs⟩ := c.ex
  refine ⟨fun pins s σ H Q I h => wpAny_Call_Name_kw (ld_glob I hg hm (PySem.W.callWith_KW0 (h₀ := X.base) I.ok.mod.kin M.kp hall (thn (ha.run pos pins s σ H _ I h) fun ws s2 hh => ?_) hpl) hdb)⟩
  obtain ⟨zs, H2, I2, rz, q2⟩ := hh
  refine ⟨I2.kIn, ?_⟩
  rw [hks]
  have lz : zs.length = ks.length := (hs _ _ _ _ _ (q2 (s2.heap.objs.size + 1) s2.heap.objs.size (I2.hok.fresh (Nat.le_succ _)) (I2.hok.fresh (Nat.le_refl _)) (Nat.ne_of_lt (Nat.lt_succ_self _)))).1
  exact run_makeK (us := []) (vs := []) M F (hr.mono hk) hb pass0 I2 .nil rz rfl lz fun x dx n1 n2 n3 => (hs _ _ _ _ _ (q2 x dx n1 n2 n3)).2
end
/-! ## list.count of plain values -/
def rCntF (K : PySem.W.Frag) : V → List V → Hp → VK → Prop := fun x xs H Q => ∃ (a : Addr) (ys : List V) (y : V), x = .ref a ∧ xs = [y] ∧ SqL K H a ys ∧ flatV y = true ∧ ys.all flatV = true ∧ Q (.int ((ys.countP fun z => eqV z y : Nat) : Int)) H
theorem count_flat {y : V} : ∀ {ys : List V} {us : List Value}, Vals ys us → ys.all flatV = true → us.countP (eqU y) = ys.countP fun z => eqV z y
  | _, _, .nil, _ => rfl
  | _, _, .cons (a := z) (b := u) r t, f => by
    rw [List.all_cons, Bool.and_eq_true] at f
    rw [List.countP_cons, List.countP_cons, count_flat t f.2, eqU_of r f.1]
theorem mt_countF {X : Cx} : MtR X "list.count" (rCntF X.K) := by
  intro pins s σ H x xs v us Q I rx rxs h
  obtain ⟨a, ys, y, rfl, rfl, hs, fy, fys, q⟩ := h
  cases rx
  obtain ⟨uy, rfl, ry⟩ := rxs.one
  obtain ⟨its, rv, ⟨⟨cls, dd, data, sl⟩, n, ho, hc, hdn, hd⟩, hlen⟩ := I.list hs
  simp only at hc hd
  subst hc hd
  refine call_meets PySem.F.slot_list_count ⟨_, ho, rfl⟩ PySem.F.entry_list_count (PySem.F.args_list_count_2 _ _) (SeqAt.list_countAt a its.toArray n dd sl uy (eqU y)) ⟨ho, fun u2 hu2 => mem_eqAt ry fy rv fys u2 (by simpa using hu2), ?_⟩
  refine ⟨.int ((ys.countP fun z => eqV z y : Nat) : Int), H, I.tok _, ⟨s.toks, ?_⟩, q⟩
  show Value.int ((its.toArray.toList.countP (eqU y) : Nat) : Int) s.toks = _
  rw [List.toList_toArray, count_flat rv fys]
/-! ## a method, an __init__ called by place and by keywords -/
theorem kbn_self {K : PySem.W.Frag} {x qual : Str} {st : Stmt} {f : Addr} {fd : FuncData} {ps ks : List Str} (F : Fun K x qual st f fd) (g : {α : Type} → α → List α → List α) (hg : ∀ {v : V} {u : Value} {vs : List V} {us : List Value}, RelV v u → Vals vs us → Vals (g v vs) (g u us))
    (h : ∀ (kV doc pm : Value) (an : Option Addr) (cdv ct u : Value) (ws : List Value), ws.length = ks.length →
      bindArgs (PySem.W.fnOf x qual (defArgs st) (defBody st) (defScope st) .none kV doc pm an cdv ct) ⟨[u], ks.zip ws⟩ = pure (ps.zip (g u ws))) : KBn K fd ps 1 ks (fun us ws => match us with | [u] => g u ws | _ => ws) (fun us ws => match us with | [u] => g u ws | _ => ws) := by
  obtain ⟨oc, od, kV, doc, pm, an, cdv, ct, osl, rfl, lk, hcd⟩ := F.ex
  refine ⟨fun s us ws X l1 l2 => ?_, fun r1 r2 => ?_⟩
  · match us, l1 with
    | [u], _ => exact .of_eq (h kV doc pm an cdv ct u ws l2)
  · cases r1 with
    | nil => exact r2
    | cons a r => cases r with
      | nil => exact hg a r2
      | cons b r => exact r2
section
variable {P : Program} {w : World} {K : PySem.W.Frag} {mg : Str → Option Value} {base : Heap} {C : Addr} {m x qual : Str} {st : Stmt} {ps ks N : List Str} {k : Nat} {sp spk : Sp}
theorem MetAt.metKX (D : MetAt K C m qual st ps) (cl : Cls K C) (S : FnScope N ps (defScope st)) (len : ∀ vs H Q E, sp vs H Q E → vs.length = ps.length)
    (hb : ∀ (f : Addr) (cdv : Value) (A : Around) (outer : List Env) (s : Shared) (H : Hp) (vs : List V) (Q : VK) (E : XK), Room k (A.deeper (envOfC qual (defScope st) s.heap.objs.size f cdv)) → sp vs H Q E →
      (Takes (cxOf (L2.CX P w) P w K mg base N qual (defScope st) f cdv A outer s H E) fun cls d _ G => E cls d G) →
      ∃ t, PSs (cxOf (L2.CX P w) P w K mg base N qual (defScope st) f cdv A outer s H E) (defBody st) t ∧ t { nx := fun _ H' => Q .non H', rt := Q } (start N vs) H)
    (g : {α : Type} → α → List α → List α) (hg : ∀ {v : V} {u : Value} {vs : List V} {us : List Value}, RelV v u → Vals vs us → Vals (g v vs) (g u us))
    (h : ∀ (kV doc pm : Value) (an : Option Addr) (cdv ct u : Value) (ws : List Value), ws.length = ks.length →
      bindArgs (PySem.W.fnOf m qual (defArgs st) (defBody st) (defScope st) .none kV doc pm an cdv ct) ⟨[u], ks.zip ws⟩ = pure (ps.zip (g u ws)))
    (hs : ∀ x zs H Q E, spk (x :: zs) H Q E → zs.length = ks.length ∧ sp (g x zs) H Q E) : MetX P w K mg base (k + 1) C m sp ∧ MetKX P w K mg base (k + 1) C m ks spk := by
  obtain ⟨f, fd, F, hm, b⟩ := D.ex
  have ok := F.okX S len fun cdv A outer s H vs Q E hr hsp => hb f cdv A outer s H vs Q E hr hsp (takes_of rfl rfl rfl rfl)
  exact ⟨⟨f, fd, ps, cl, hm, ok, b⟩, ⟨f, fd, ps, sp, _, _, cl, hm, ok, kbn_self F g hg h, hs⟩⟩
theorem IniAt.makK (D : IniAt K mg C x qual st ps) (S : FnScope N ps (defScope st)) (len : ∀ vs H Q E, sp vs H Q E → vs.length = ps.length)
    (hb : ∀ (f : Addr) (cdv : Value) (A : Around) (outer : List Env) (s : Shared) (H : Hp) (vs : List V) (Q : VK) (E : XK), Room k (A.deeper (envOfC qual (defScope st) s.heap.objs.size f cdv)) → sp vs H Q E →
      (Takes (cxOf (L2.CX P w) P w K mg base N qual (defScope st) f cdv A outer s H E) fun cls d _ G => E cls d G) →
      ∃ t, PSs (cxOf (L2.CX P w) P w K mg base N qual (defScope st) f cdv A outer s H E) (defBody st) t ∧ t { nx := fun _ H' => Q .non H', rt := Q } (start N vs) H)
    (g : {α : Type} → α → List α → List α) (hg : ∀ {v : V} {u : Value} {vs : List V} {us : List Value}, RelV v u → Vals vs us → Vals (g v vs) (g u us))
    (h : ∀ (kV doc pm : Value) (an : Option Addr) (cdv ct u : Value) (ws : List Value), ws.length = ks.length →
      bindArgs (PySem.W.fnOf "__init__" qual (defArgs st) (defBody st) (defScope st) .none kV doc pm an cdv ct) ⟨[u], ks.zip ws⟩ = pure (ps.zip (g u ws)))
    (hs : ∀ x zs H Q E, spk (x :: zs) H Q E → zs.length = ks.length ∧ sp (g x zs) H Q E0) : MakX P w K mg base (k + 1) x C sp ∧ MakK P w K mg base (k + 1) x C ks spk := by
  obtain ⟨f, fd, F, hm, hg2, b⟩ := D.ex
  have ok := F.okX S len fun cdv A outer s H vs Q E hr hsp => hb f cdv A outer s H vs Q E hr hsp (takes_of rfl rfl rfl rfl)
  have ok0 : FnOk P w K mg base CX0 (k + 1) f fd ps (fun vs H Q _ => sp vs H Q E0) := fn_calm ok fun vs H Q E z => z
  exact ⟨⟨f, fd, ps, hm, ok, hg2, b⟩, ⟨f, fd, ps, _, _, _, hm, ok0, hg2, kbn_self F g hg h, hs⟩⟩
end
/-! ## [.. for i, x in enumerate(xs) ..] -/
theorem lc_enum {K : PySem.W.Frag} {a : Addr} {xs : List V} {g : TG} {tt : TT} {te : TE} {vs : List Nat} {σ : L2.St} {H1 : Hp} {D : Addr} {Qd : Hp → Prop} (Pv : Nat → Hp → Prop) (h0 : Pv 0 (upd H1 D (.lst []))) (hq : ∀ i H, Pv i H → SqL K H a xs)
    (hs : ∀ (i : Nat) (x : V) (T : Addr) (H : Hp), xs[i]? = some x → Pv i H → H T = none → g (.ref T) (wipe σ vs) (upd H T (.tup [.int (i : Nat), x])) fun σ2 H2 => wipe σ2 vs = wipe σ vs ∧ tt σ2 H2 fun b H3 =>
      if b = true then te σ2 H3 fun y H4 => ∃ acc, H4 D = some (.lst acc) ∧ acc.length < sizeLine ∧ Pv (i + 1) (upd H4 D (.lst (acc ++ [y]))) else Pv (i + 1) H3) (hd : ∀ H, Pv xs.length H → Qd H) :
    ∃ W : Nat → Nat → Hp → Prop, (∃ m, W 0 m (upd H1 D (.lst []))) ∧ ∀ i m H, W i m H →
      ((Ite K a).stop i H ∧ Qd H) ∨ ((Ite K a).go i H ∧ ∃ Nx : Hp → Prop, (∀ H', Nx H' → ∃ m', m' < m ∧ W (i + 1) m' H') ∧ ∀ x H', (Ite K a).yld i H x H' → g x (wipe σ vs) H' fun σ2 H2 => wipe σ2 vs = wipe σ vs ∧ tt σ2 H2 fun b H3 =>
        if b = true then te σ2 H3 fun y H4 => ∃ acc, H4 D = some (.lst acc) ∧ acc.length < sizeLine ∧ Nx (upd H4 D (.lst (acc ++ [y]))) else Nx H3) := by
  refine ⟨fun i m H => m + i = xs.length ∧ Pv i H, ⟨xs.length, rfl, h0⟩, fun i m H hW => ?_⟩
  obtain ⟨em, p⟩ := hW
  have q := hq i H p
  by_cases lt : i < xs.length
  · have ex : xs[i]? = some xs[i] := List.getElem?_eq_getElem lt
    refine .inr ⟨⟨xs, _, q, ex⟩, Pv (i + 1), fun H' p' => ⟨m - 1, by omega, by omega, p'⟩, fun v H' hy => ?_⟩
    obtain ⟨T, x, rfl, nT, rfl, f⟩ := hy
    exact hs i x T H (f xs q) p nT
  · have ei : i = xs.length := by omega
    subst ei
    exact .inl ⟨⟨xs, q, Nat.le_refl _⟩, hd H p⟩
/-! ## a kept exception stays -/
theorem Kept.same {H H' : Hp} {a C : Addr} {fs : List (Str × V)} (k : Kept H a C fs) (s : Same H H') : Kept H' a C fs := by
  obtain ⟨d, ⟨h1, h2⟩ | ⟨h1, h2⟩⟩ := k
  · exact ⟨d, .inl ⟨s _ _ h1, s _ _ h2⟩⟩
  · exact ⟨d, .inr ⟨s _ _ h1, s _ _ h2⟩⟩
theorem kept_new {H : Hp} {a C d : Addr} {fs : List (Str × V)} (na : H a = none) (hd : H d = some (.xd fs)) : Kept (upd H a (Xo a (.ref C) (some d))) a C fs := ⟨d, .inl ⟨upd_same, upd_keep na hd⟩⟩
theorem But.same {o : Addr} {H H1 H' : Hp} (b : But o H1 H') (s : Same H H1) (n : H o = none) : Same H H' := fun c u e => b c u (fun z => by
  rw [z, n] at e
  cases e) (s c u e)
theorem exm_mk {K : PySem.W.Frag} {C S : Addr} {b : Bool} (h1 : PySem.W.subIn K (.ref S) (.type "BaseException") = some true) (h2 : PySem.W.isClsIn K S = true) (h3 : PySem.W.typeIn K (.ref S) = some (.type "type")) (h4 : PySem.W.subIn K (.ref C) (.ref S) = some b) : PySem.W.exmOne K (.ref C) (.ref S) = some b := by
  have e1 : (PySem.W.subIn K (.ref S) (.type "BaseException") == some true) = true := by rw [h1] <;> rfl
  have e2 : ((PySem.W.clsIn K S).isSome && PySem.W.typeIn K (.ref S) == some (.type "type")) = true := by
    have h2' : (PySem.W.clsIn K S).isSome = true := h2
    rw [h2', h3] <;> rfl
  show (if (PySem.W.subIn K (.ref S) (.type "BaseException") == some true) = true then (if ((PySem.W.clsIn K S).isSome && PySem.W.typeIn K (.ref S) == some (.type "type")) = true then PySem.W.subIn K (.ref C) (.ref S) else none) else none) = some b
  rw [if_pos e1, if_pos e2]
  exact h4
end Sq


set_option Elab.async false
set_option maxRecDepth 100000
set_option maxHeartbeats 4000000
namespace Sq
open PySem PySem.Spec PyProof.Rows L2
/-! ## a, *b = a list -/
theorem star_list {prog : Program} {w : World} {A : Around} {E : Value → Shared → Prop} {s : Shared} {l : Addr} {items : Array Value} {n i : Nat} {Q : List Value → Shared → Prop} (hl : s.heap.IsList l items) (hh : A.handled = none) (hi : i < n) (hn : n ≤ items.size + 1) (hz : items.size ≤ 16384)
    (h : ∀ (h₂ : Heap) (tk : Nat), (∀ b o, s.heap.get? b = some o → h₂.get? b = some o) → Q (items.toList.take i ++ [.ref h₂.objs.size] ++ (items.toList.drop i).drop (items.size + 1 - n)) { s with heap := h₂.push { cls := .type "list", data := .seq ((items.toList.drop i).take (items.size + 1 - n)).toArray }, toks := tk }) :
    wpAny (model prog w) A (unpackItems (.ref l) n (some i)) Q E s := by
  have hlt : l ≠ s.heap.objs.size := by obtain ⟨o, ho, _⟩ := hl; exact Nat.ne_of_lt (Heap.lt_size ho)
  have hll : l < s.heap.objs.size := by obtain ⟨o, ho, _⟩ := hl; exact Heap.lt_size ho
  unfold unpackItems
  refine wpAny_bind ?_
  unfold notIterableAtAll
  refine wpAny_bind (wpAny_specialOf hl.typeIs PySem.F.slot_list_iter.lookup ?_)
  refine wpAny_pure ?_
  simp only [Bool.false_eq_true, if_false]
  refine wpAny_bind (wpAny_holding (wpAny_pyIter_list hl ?_))
  refine wpAny_bind (wpAny_holding (PySem.W.kun_draw hlt i 0 _ _ ⟨_, Heap.get?_push_size _ rfl, rfl, rfl⟩ (hl.push _) (by omega) fun h₁ hit₁ hs₁ => ?_))
  have hl₁ : h₁.IsList l items := (hl.push _).extBut hs₁.extBut hlt
  rw [Nat.zero_add] at hit₁
  have hit₁' := hit₁
  obtain ⟨oi, hoi, _⟩ := hit₁'
  have hl₁' := hl₁
  obtain ⟨ol, hol, _⟩ := hl₁'
  rw [List.drop_zero]
  have hfl : (items.toList.take i).length = i := by rw [List.length_take, Array.length_toList]; omega
  rw [if_neg (show ¬ ((items.toList.take i).length < i) by rw [hfl]; omega)]
  refine wpAny_bind (wpAny_holding (PySem.W.kun_collect (s := { s with heap := h₁ }) (T := "list_iterator") (.inr (.inr (.inl rfl))) (Walks.list (A := A.in1) hh s.heap.objs.size l hlt items) (fun j u st => st.1.typeIs) (k := i) (by omega) ⟨hit₁, hl₁⟩ (Heap.lt_size hoi) (Heap.lt_size hol) (fun h₂ tk hk => ?_) (by rw [sizeLine_eq]; omega)))
  have hrl : (items.toList.drop i).length = items.size - i := by rw [List.length_drop, Array.length_toList]
  have hmid : (items.toList.drop i).length - (n - 1 - i) = items.size + 1 - n := by rw [hrl]; omega
  show wpAny _ _ (if (items.toList.drop i).length < n - 1 - i then _ else _) _ _ _
  rw [if_neg (by rw [hrl]; omega)]
  show wpAny _ _ (newList ((items.toList.drop i).take ((items.toList.drop i).length - (n - 1 - i))) >>= fun d => pure (items.toList.take i ++ [d] ++ (items.toList.drop i).drop ((items.toList.drop i).length - (n - 1 - i)))) _ _ _
  rw [hmid]
  have he : ∀ b o, s.heap.get? b = some o → h₂.get? b = some o := fun b o e => hk b o (Nat.ne_of_lt (Heap.lt_size e)) (hs₁.extBut b o (Nat.ne_of_lt (Heap.lt_size e)) (Heap.get?_push_of_some _ e))
  exact wpAny_bind (wpAny_newList (wpAny_pure (h h₂ tk he)) (by rw [List.length_take, hrl, sizeLine_eq]; omega))
def gStar (K : PySem.W.Frag) (t : TGs) : TG := fun v σ H Q => ∃ a x xs, v = .ref a ∧ SqL K H a (x :: xs) ∧ xs.length ≤ 16000 ∧ ∀ D, H D = none → t [x, .ref D] σ (upd H D (.lst xs)) Q
section
variable {X : Cx} {K : PySem.W.Frag} {e : Expr} {es : List Expr} {t : TG} {u ts : TGs} {p pos : Pos} {k : Nat}
theorem pgs_star (h1 : PG X e t) (h2 : PGs X es u) (hs : (assignEach (.Starred e p :: es) X.env).map (·.2) = assign e X.env :: (assignEach es X.env).map (·.2) := by rfl) : PGs X (.Starred e p :: es) (gCons t u) := by
  refine ⟨fun pins s σ H vs us Q I r h => ?_⟩
  obtain ⟨v, vr, e1, h⟩ := h
  subst e1
  cases r with
  | cons r rr =>
    rw [hs]
    refine assignInOrder_cons (thn (h1.run pins s σ H _ _ _ I r h) fun _ s1 ⟨σ1, H1, I1, q1⟩ => ?_)
    exact h2.run pins s1 σ1 H1 _ _ Q I1 rr q1
/-- a, *b = a list -/
theorem pg_star (hc : X.calm = true) (h : PGs X es ts) (hn : (assignEach es X.env).length = 2 := by rfl) (hst : (assignEach es X.env).findIdx? (·.1) = some 1 := by rfl) (hK : X.K = K := by rfl) : PG X (.Tuple es k pos) (gStar K ts) := by
  subst hK
  refine ⟨fun pins s σ H v u Q I r hw => ?_⟩
  obtain ⟨a, x, xs, e1, hq, hl, hw⟩ := hw
  subst e1
  cases r
  obtain ⟨its, rv, pl, hz⟩ := I.list hq
  have hl' : s.heap.IsList a its.toArray := by
    obtain ⟨o, m, e, c, d, q⟩ := pl
    exact ⟨o, e, c, m, q⟩
  rw [PyProof.Rows.assign_Tuple]
  refine wpAny_bind (wpAny_standAt ?_)
  unfold unpack
  rw [hn, hst]
  cases rv with
  | @cons _ v0 _ vs0 r0 rr =>
    have hlen : vs0.length = xs.length := rr.length.symm
    refine wpAny_bind (wpAny_holding (star_list hl' (I.ok.hd hc) (by decide) (by rw [List.size_toArray, List.length_cons]; omega) (by rw [List.size_toArray, List.length_cons]; omega) fun h₂ tk kp => ?_))
    have I1 : Inv X pins σ H { s with heap := h₂, toks := tk } := I.kept kp
    have em : (((v0 :: vs0).toArray.toList.drop 1).take ((v0 :: vs0).toArray.size + 1 - 2)) = vs0 := by
      rw [List.toList_toArray, List.size_toArray, List.length_cons, List.drop_one, List.tail_cons]
      exact List.take_of_length_le (by omega)
    have el : (((v0 :: vs0).toArray.toList.drop 1).drop ((v0 :: vs0).toArray.size + 1 - 2)) = [] := by
      rw [List.toList_toArray, List.size_toArray, List.length_cons, List.drop_one, List.tail_cons]
      exact List.drop_eq_nil_of_le (by omega)
    have hf := I1.hok.fresh (Nat.le_refl _)
    have I2 : Inv X pins σ (upd H h₂.objs.size (.lst xs)) { s with heap := h₂.push { cls := .type "list", data := .seq vs0.toArray }, toks := tk } :=
      I1.laid (t' := tk) (fun b u q => Heap.get?_push_of_some _ q) (Nat.le_refl _) ⟨by rw [sizeLine_eq]; omega, vs0, _, rr, Heap.get?_push_size _ rfl⟩
    rw [em, el]
    exact h.run pins _ σ _ [x, .ref h₂.objs.size] [v0, .ref h₂.objs.size] Q I2 (.cons r0 (.cons rfl .nil)) (hw _ hf)
end
def tStarL (K : PySem.W.Frag) (te : TE) (t : TA) : TA := fun σ H Q => te σ H fun x H1 => ∃ (p : Addr) (xs : List V), x = V.ref p ∧ SqL K H1 p xs ∧ t σ H1 fun ys H2 => Q (xs ++ ys) H2
/-- *e in a display, e a list -/
theorem pa_starK {X : Cx} {K : PySem.W.Frag} {e : Expr} {es : List Expr} {te : TE} {t : TA} {p : Pos} (he : PE X e te) (hr : PA X es t) (hs : starEach (.Starred e p :: es) X.env = (true, eval e X.env) :: starEach es X.env := by rfl) (hK : X.K = K := by rfl) : PA X (.Starred e p :: es) (tStarL K te t) := by
  subst hK
  have z := StX.pa_star (pe_wk he) hr hs
  refine ⟨fun pos pins s σ H Q I h => z.run pos pins s σ H Q I ⟨_, h, fun v G q => ?_⟩⟩
  obtain ⟨a, xs, e, hq, q⟩ := q
  exact ⟨a, xs, e, .inr hq, q⟩
theorem pe_gc {X : Cx} {x : Str} {v : V} {pos : Pos} (hg : Gl X x) (h : ∃ u, X.mg x = some u ∧ RelV v u) (hdb : (x == ("__debug__" : Str)) = false := by decide) : PE X (.Name x pos) (tC v) := by
  obtain ⟨u, a, b⟩ := h
  exact pe_glob hg a b hdb
/-! ## texts of lists, sign by sign -/
def dig (c : Nat) : Bool := decide (48 ≤ c) && decide (c ≤ 57)
def wrd (n t : Nat) : List Nat := if 1 < t then TL.numL n ++ 94 :: TL.numL t else TL.numL n
/-- equal neighbours, and how often -/
def grpS (acc : List (Int × Nat)) (k : Int) : List (Int × Nat) := match acc.getLast? with
  | some (a, c) => if a = k then acc.dropLast ++ [(a, c + 1)] else acc ++ [(k, 1)]
  | none => [(k, 1)]
def grp (ns : List Int) : List (Int × Nat) := ns.foldl grpS []
def ungrp (ps : List (Int × Nat)) : List Int := ps.flatMap fun p => List.replicate p.2 p.1
theorem ungrp_app (a b : List (Int × Nat)) : ungrp (a ++ b) = ungrp a ++ ungrp b := List.flatMap_append
theorem last_split {α : Type} {l : List α} {x : α} (h : l.getLast? = some x) : l = l.dropLast ++ [x] := by
  have ne : l ≠ [] := fun e => by
    rw [e] at h
    cases h
  rw [List.getLast?_eq_some_getLast ne] at h
  have e := List.dropLast_concat_getLast ne
  rw [Option.some.inj h] at e
  exact e.symm
theorem ungrp_step (acc : List (Int × Nat)) (k : Int) : ungrp (grpS acc k) = ungrp acc ++ [k] := by
  unfold grpS
  cases h : acc.getLast? with
  | none =>
    have e : acc = [] := by
      cases acc with
      | nil => rfl
      | cons a t => simp at h
    subst e
    simp [ungrp]
  | some p =>
    obtain ⟨a, c⟩ := p
    have e := last_split h
    simp only
    split
    · rename_i z
      subst z
      rw [ungrp_app]
      conv => rhs; rw [e, ungrp_app]
      simp [ungrp, List.replicate_succ']
    · rw [ungrp_app]
      simp [ungrp]
theorem ungrp_fold : ∀ (ns : List Int) (acc : List (Int × Nat)), ungrp (ns.foldl grpS acc) = ungrp acc ++ ns
  | [], acc => by simp
  | k :: r, acc => by
    rw [List.foldl_cons, ungrp_fold r, ungrp_step, List.append_assoc]
    rfl
theorem ungrp_grp (ns : List Int) : ungrp (grp ns) = ns := by
  unfold grp
  rw [ungrp_fold]
  simp [ungrp]
/-- the counts are at least 1; what stands there stands in the list -/
def GrpOk (b : Int → Prop) (N : Nat) (ps : List (Int × Nat)) : Prop := ∀ p ∈ ps, b p.1 ∧ 1 ≤ p.2 ∧ p.2 ≤ N
theorem grp_step {b : Int → Prop} {N : Nat} {acc : List (Int × Nat)} {k : Int} (h : GrpOk b N acc) (hk : b k) : GrpOk b (N + 1) (grpS acc k) := by
  have up : ∀ p ∈ acc, b p.1 ∧ 1 ≤ p.2 ∧ p.2 ≤ N + 1 := fun p hp => ⟨(h p hp).1, (h p hp).2.1, Nat.le_succ_of_le (h p hp).2.2⟩
  unfold grpS
  cases e : acc.getLast? with
  | none =>
    intro p hp
    rw [List.mem_singleton.mp hp]
    exact ⟨hk, Nat.le_refl _, by simp⟩
  | some q =>
    obtain ⟨a, c⟩ := q
    have es := last_split e
    have hq := h (a, c) (by rw [es]; simp)
    simp only
    split
    · intro p hp
      rcases List.mem_append.mp hp with z | z
      · exact up p (List.dropLast_subset _ z)
      · rw [List.mem_singleton.mp z]
        exact ⟨hq.1, by simp, by have := hq.2.2; simp only at this ⊢; omega⟩
    · intro p hp
      rcases List.mem_append.mp hp with z | z
      · exact up p z
      · rw [List.mem_singleton.mp z]
        exact ⟨hk, Nat.le_refl _, by simp⟩
theorem grp_fold {b : Int → Prop} : ∀ (ns : List Int) (N : Nat) (acc : List (Int × Nat)), GrpOk b N acc → (∀ k ∈ ns, b k) → GrpOk b (N + ns.length) (ns.foldl grpS acc)
  | [], N, acc, h, _ => h
  | k :: r, N, acc, h, hk => by
    have := grp_fold r (N + 1) (grpS acc k) (grp_step h (hk k (List.mem_cons_self ..))) fun j hj => hk j (List.mem_cons_of_mem _ hj)
    rw [List.foldl_cons, List.length_cons, show N + (r.length + 1) = N + 1 + r.length by omega]
    exact this
theorem grp_ok {b : Int → Prop} {ns : List Int} (h : ∀ k ∈ ns, b k) : GrpOk b ns.length (grp ns) := by
  have := grp_fold ns 0 [] (fun p z => nomatch z) h
  rw [Nat.zero_add] at this
  exact this
theorem grp_snoc (ns : List Int) (k : Int) : grp (ns ++ [k]) = grpS (grp ns) k := by
  unfold grp
  rw [List.foldl_append]
  rfl
theorem grpS_len (acc : List (Int × Nat)) (k : Int) : (grpS acc k).length ≤ acc.length + 1 ∧ 0 < (grpS acc k).length := by
  unfold grpS
  cases e : acc.getLast? with
  | none => simp
  | some q =>
    obtain ⟨a, c⟩ := q
    have es := congrArg List.length (last_split e)
    simp only [List.length_append, List.length_singleton] at es
    simp only
    split <;> simp <;> omega
theorem grp_len (ns : List Int) : (grp ns).length ≤ ns.length := by
  have : ∀ (ns : List Int) (acc : List (Int × Nat)), (ns.foldl grpS acc).length ≤ acc.length + ns.length := by
    intro ns
    induction ns with
    | nil => intro acc; simp
    | cons k r ih =>
      intro acc
      have a := ih (grpS acc k)
      have b := (grpS_len acc k).1
      rw [List.foldl_cons, List.length_cons]
      omega
  have a := this ns []
  simpa [grp] using a
theorem grp_nil {ns : List Int} : grp ns = [] ↔ ns = [] := by
  constructor
  · intro h
    have e := ungrp_grp ns
    rw [h] at e
    exact e.symm
  · rintro rfl
    rfl
def noneL : List Nat := [110, 111, 110, 101]
def wrds (ns : List Int) : List (List Nat) := (grp ns).map fun p => wrd p.1.toNat p.2
def showL (ns : List Int) : List Nat := if ns = [] then noneL else TL.joinL [44, 32] (wrds ns)
/-! ## and read back -/
def numIn (w : List Nat) : Option Nat := if 1 ≤ w.length ∧ w.length ≤ 200 ∧ w.all dig = true then some (NumText.digitsVal w) else none
def numsIn (w : List Nat) : Option (List Int) := match TL.spl [94] 0 [] w with
  | [] => none
  | f :: o => match numIn f, (match o with | [] => some 1 | t :: _ => numIn t) with
    | some n, some t => if 1 < o.length ∨ n < 2 then none else some (List.replicate t (n : Int))
    | _, _ => none
theorem dig_num (n : Nat) : (TL.numL n).all dig = true := by
  rw [List.all_eq_true]
  intro c hc
  have := TL.numL_digits n c hc
  unfold dig
  rw [Bool.and_eq_true, decide_eq_true_eq, decide_eq_true_eq]
  exact this
theorem numIn_num {n : Nat} (h : (TL.numL n).length ≤ 200) : numIn (TL.numL n) = some n := by
  unfold numIn
  have l : 1 ≤ (TL.numL n).length := by
    cases e : TL.numL n with
    | nil => exact absurd e (TL.numL_ne n)
    | cons a t => simp
  rw [if_pos ⟨l, h, dig_num n⟩, TL.numL_val]
theorem free94 (n : Nat) : 94 ∉ TL.numL n := TL.numL_free (.inr (by decide))
theorem free44 (n t : Nat) : 44 ∉ wrd n t := by
  unfold wrd
  have a : ∀ m, 44 ∉ TL.numL m := fun m => TL.numL_free (.inl (by decide))
  split
  · simp only [List.mem_append, List.mem_cons, not_or]
    exact ⟨a n, by decide, a t⟩
  · exact a n
theorem spl_wrd (n t : Nat) : TL.spl [94] 0 [] (wrd n t) = if 1 < t then [TL.numL n, TL.numL t] else [TL.numL n] := by
  unfold wrd
  split
  · have e := TL.spl_part1 (s := 94) (S := []) (p := TL.numL n) (rest := TL.numL t) (acc := []) (free94 n)
    rw [show TL.numL n ++ 94 :: TL.numL t = TL.numL n ++ ([94] ++ TL.numL t) from rfl, e, TL.spl_last1 (free94 t)]
    rfl
  · rw [TL.spl_last1 (free94 n)]
    rfl
theorem nums_wrd {n t : Nat} (hn : (TL.numL n).length ≤ 200) (ht : (TL.numL t).length ≤ 200) (h2 : 2 ≤ n) (h1 : 1 ≤ t) : numsIn (wrd n t) = some (List.replicate t (n : Int)) := by
  unfold numsIn
  rw [spl_wrd]
  by_cases h : 1 < t
  · rw [if_pos h]
    simp only [numIn_num hn, numIn_num ht]
    rw [if_neg (by simp; omega)]
  · rw [if_neg h]
    simp only [numIn_num hn]
    rw [if_neg (by simp; omega), show t = 1 by omega]
theorem free110 (n t : Nat) : 110 ∉ wrd n t := by
  unfold wrd
  have a : ∀ m, 110 ∉ TL.numL m := fun m => TL.numL_free (.inr (by decide))
  split
  · simp only [List.mem_append, List.mem_cons, not_or]
    exact ⟨a n, by decide, a t⟩
  · exact a n
theorem wrds_ne {ns : List Int} (h : ns ≠ []) : wrds ns ≠ [] := fun e => h (grp_nil.mp (List.map_eq_nil_iff.mp e))
theorem spl_show {ns : List Int} (h : ns ≠ []) : TL.spl [44, 32] 0 [] (showL ns) = wrds ns := by
  unfold showL
  rw [if_neg h]
  refine TL.spl_join (wrds_ne h) fun p hp => ?_
  obtain ⟨q, _, rfl⟩ := List.mem_map.mp hp
  exact free44 _ _
theorem show_ne {ns : List Int} (h : ns ≠ []) : showL ns ≠ noneL := fun e => by
  have a := spl_show h
  rw [e, TL.spl_last1 (show 44 ∉ noneL by decide)] at a
  have m : noneL ∈ wrds ns := by
    rw [← a]
    simp
  obtain ⟨q, _, eq⟩ := List.mem_map.mp m
  have : 110 ∈ noneL := by decide
  rw [← eq] at this
  exact free110 _ _ this
theorem show_inj_nil {ns : List Int} : showL ns = noneL ↔ ns = [] := ⟨fun e => Classical.byContradiction fun h => show_ne h e, fun e => by
  subst e
  rfl⟩
/-- lists that are shown and read here -/
def Nice (ns : List Int) : Prop := (∀ k ∈ ns, 2 ≤ k ∧ k < 10 ^ 200) ∧ ns.length ≤ 5000
theorem num_len {k : Int} (h0 : 0 ≤ k) (h : k < 10 ^ 200) : (TL.numL k.toNat).length ≤ 200 := by
  have e : ((10 : Int) ^ 200) = ((10 ^ 200 : Nat) : Int) := by norm_cast
  refine TL.numL_len (by decide) ?_
  rw [e] at h
  omega
theorem lt5 {n : Nat} (h : n ≤ 5000) : n < sizeLine := by
  rw [sizeLine_eq]
  omega
theorem num_len3 {t : Nat} (h : t ≤ 5000) : (TL.numL t).length ≤ 4 := TL.numL_len (by decide) (by omega)
theorem Nice.grp {ns : List Int} (h : Nice ns) : GrpOk (fun k => 2 ≤ k ∧ k < 10 ^ 200) 5000 (grp ns) := fun p hp => by
  have := grp_ok h.1 p hp
  have l := h.2
  exact ⟨this.1, this.2.1, by omega⟩
theorem wrd_len {k : Int} {t : Nat} (h0 : 0 ≤ k) (h : k < 10 ^ 200) (ht : t ≤ 5000) : (wrd k.toNat t).length ≤ 205 := by
  have a := num_len h0 h
  have b := num_len3 ht
  unfold wrd
  split
  · rw [List.length_append, List.length_cons]
    omega
  · omega
theorem join_len (s : List Nat) : ∀ ws : List (List Nat), (TL.joinL s ws).length ≤ (ws.map (·.length)).sum + ws.length * s.length
  | [] => by simp [TL.joinL]
  | [p] => by simp [TL.joinL]
  | p :: q :: r => by
    have ih := join_len s (q :: r)
    simp only [TL.joinL, List.length_append, List.map_cons, List.sum_cons, List.length_cons] at ih ⊢
    have : (r.length + 1 + 1) * s.length = (r.length + 1) * s.length + s.length := by rw [Nat.add_mul (r.length + 1) 1]; omega
    omega
theorem sum_le {b : Nat} : ∀ {ws : List (List Nat)}, (∀ w ∈ ws, w.length ≤ b) → (ws.map (·.length)).sum ≤ ws.length * b
  | [], _ => by simp
  | w :: r, h => by
    have a := h w (List.mem_cons_self ..)
    have c := sum_le (ws := r) fun x hx => h x (List.mem_cons_of_mem _ hx)
    rw [List.map_cons, List.sum_cons, List.length_cons, Nat.add_mul]
    omega
theorem Nice.words {ns : List Int} (h : Nice ns) : (∀ w ∈ wrds ns, w.length ≤ 205) ∧ (wrds ns).length ≤ 5000 := by
  refine ⟨fun w hw => ?_, ?_⟩
  · obtain ⟨p, hp, rfl⟩ := List.mem_map.mp hw
    obtain ⟨a, b, c⟩ := h.grp p hp
    exact wrd_len (by omega) a.2 c
  · unfold wrds
    rw [List.length_map]
    exact Nat.le_trans (grp_len ns) h.2
theorem Nice.len {ns : List Int} (h : Nice ns) : (showL ns).length ≤ 1050000 := by
  obtain ⟨a, b⟩ := h.words
  unfold showL
  split
  · decide
  · have c := join_len [44, 32] (wrds ns)
    have d := sum_le a
    have e := Nat.mul_le_mul_right 205 b
    have f : (wrds ns).length * ([44, 32] : List Nat).length ≤ 5000 * 2 := Nat.mul_le_mul_right 2 b
    omega
theorem wrds_get {ns : List Int} {i : Nat} {w : List Nat} (h : (wrds ns)[i]? = some w) : ∃ p, (grp ns)[i]? = some p ∧ w = wrd p.1.toNat p.2 := by
  unfold wrds at h
  rw [List.getElem?_map] at h
  cases e : (grp ns)[i]? with
  | none =>
    rw [e] at h
    cases h
  | some p =>
    rw [e] at h
    exact ⟨p, rfl, (Option.some.inj h).symm⟩
theorem ungrp_take {ps : List (Int × Nat)} {i : Nat} {p : Int × Nat} (h : ps[i]? = some p) : ungrp (ps.take (i + 1)) = ungrp (ps.take i) ++ List.replicate p.2 p.1 := by
  rw [List.take_add_one, h, ungrp_app]
  simp [ungrp]
/-! ## the pairs in the heap -/
def Prs (H : Hp) (l : Addr) (ps : List (Int × Nat)) : Prop := ∃ ts : List Addr, H l = some (.lst (ts.map V.ref)) ∧ ts.length = ps.length ∧ ∀ (i : Nat) (t : Addr) (p : Int × Nat), ts[i]? = some t → ps[i]? = some p → H t = some (.tup [.int p.1, .int ((p.2 : Nat) : Int)])
theorem Prs.same {H H' : Hp} {l : Addr} {ps : List (Int × Nat)} (h : Prs H l ps) (s : Same H H') : Prs H' l ps := by
  obtain ⟨ts, a, b, c⟩ := h
  exact ⟨ts, s _ _ a, b, fun i t p h1 h2 => s _ _ (c i t p h1 h2)⟩
def dPs (ps : List (Int × Nat)) : PyData := .list (ps.map fun p => .tuple [.int p.1, .int ((p.2 : Nat) : Int)])
theorem dpall_prs {K : PySem.W.Frag} {H : Hp} : ∀ (ts : List Addr) (ps : List (Int × Nat)), ts.length = ps.length → (∀ (i : Nat) (t : Addr) (p : Int × Nat), ts[i]? = some t → ps[i]? = some p → H t = some (.tup [.int p.1, .int ((p.2 : Nat) : Int)])) →
    DpAll K H (ts.map V.ref) (ps.map fun p => .tuple [.int p.1, .int ((p.2 : Nat) : Int)])
  | [], [], _, _ => .nil
  | [], _ :: _, h, _ => by simp at h
  | _ :: _, [], h, _ => by simp at h
  | t :: ts, p :: ps, h, c => .cons (.tup (SqT.of (c 0 t p rfl rfl)) (.cons (.int _) (.cons (.int _) .nil))) (dpall_prs ts ps (by simpa using h) fun i t' p' h1 h2 => c (i + 1) t' p' (by simpa using h1) (by simpa using h2))
theorem dp_prs {K : PySem.W.Frag} {H : Hp} {l : Addr} {ps : List (Int × Nat)} (h : Prs H l ps) : Dp K H (.ref l) (dPs ps) := by
  obtain ⟨ts, a, b, c⟩ := h
  exact .lst (seqL_of a) (dpall_prs ts ps b c)
theorem can_prs : ∀ ps : List (Int × Nat), PyData.canLayAll0 (ps.map fun p => .tuple [.int p.1, .int ((p.2 : Nat) : Int)]) = true
  | [] => by simp [PyData.canLayAll0]
  | p :: r => by simp [PyData.canLayAll0, PyData.canLay0, can_prs r]
theorem dep_prs : ∀ ps : List (Int × Nat), PyData.depthAll (ps.map fun p => .tuple [.int p.1, .int ((p.2 : Nat) : Int)]) ≤ 1
  | [] => by simp [PyData.depthAll]
  | p :: r => by
    have := dep_prs r
    simp only [List.map_cons, PyData.depthAll, PyData.depth]
    omega
theorem shaped_prs (ps : List (Int × Nat)) : SeqAt.shaped (dPs ps) = true := by
  have := dep_prs ps
  unfold SeqAt.shaped dPs
  rw [Bool.and_eq_true, decide_eq_true_eq]
  refine ⟨by simp only [PyData.canLay0, can_prs], ?_⟩
  show PyData.depth _ ≤ 64
  rw [PyData.depth]
  omega
theorem eqv_prs0 (ps : List (Int × Nat)) : PyData.eqv (dPs ps) (dI []) = decide (ps = []) := by
  unfold dPs dI
  cases ps with
  | nil => simp [PyData.eqv, PyData.eqvAll]
  | cons a r => simp [PyData.eqv, PyData.eqvAll]
/-- found != [] -/
theorem r_nePs {K : PySem.W.Frag} {H : Hp} {l b : Addr} {ps : List (Int × Nat)} {Q : VK} (h1 : Prs H l ps) (h2 : SqL K H b (iv [])) (q : Q (.bl (!decide (ps = []))) H) : rNeQ K (.ref l) (.ref b) H Q :=
  rNeQ_of ⟨dPs ps, dI [], dp_prs h1, dp_iv h2, shaped_prs ps, shaped_dI [], by rw [eqv_prs0]; exact q⟩
theorem Prs.last {H : Hp} {l : Addr} {ps : List (Int × Nat)} {a : Int} {c : Nat} (h : Prs H l ps) (e : ps.getLast? = some (a, c)) :
    ∃ (ts : List Addr) (t : Addr) (j : Nat), H l = some (.lst (ts.map V.ref)) ∧ ixN (ts.map V.ref).length (-1) = some j ∧ atI (ts.map V.ref) (-1) = some (.ref t) ∧ H t = some (.tup [.int a, .int ((c : Nat) : Int)]) ∧
      ∀ (T : Addr) (k : Int) (H' : Hp), (∀ b o, b ≠ l → H b = some o → H' b = some o) → H' T = some (.tup [.int k, .int (((c + 1 : Nat) : Nat) : Int)]) → H' l = some (.lst ((ts.map V.ref).set j (.ref T))) → Prs H' l (ps.dropLast ++ [(k, c + 1)]) := by
  obtain ⟨ts, h1, h2, h3⟩ := h
  have ep := last_split e
  have lp := congrArg List.length ep
  simp only [List.length_append, List.length_singleton, List.length_dropLast] at lp
  have hpos : 0 < ts.length := by omega
  have lt : ts.length - 1 < ts.length := by omega
  have ix : ixN (ts.map V.ref).length (-1) = some (ts.length - 1) := by
    rw [List.length_map]
    unfold ixN
    rw [if_neg (by omega)]
    rw [if_pos (by omega)]
    congr 1
    omega
  have eg : ps[ts.length - 1]? = some (a, c) := by
    rw [h2, ep]
    simp
  refine ⟨ts, ts[ts.length - 1], ts.length - 1, h1, ix, ?_, h3 _ _ _ (List.getElem?_eq_getElem lt) eg, fun T k H' keep hT hl => ?_⟩
  · unfold atI
    rw [ix]
    show (ts.map V.ref)[ts.length - 1]? = _
    rw [List.getElem?_map, List.getElem?_eq_getElem lt]
    rfl
  · refine ⟨ts.set (ts.length - 1) T, by rw [hl, List.map_set], by rw [List.length_set, List.length_append, List.length_dropLast, List.length_singleton]; omega, fun i t p ht hp => ?_⟩
    have li : i < ts.length := by
      have := (List.getElem?_eq_some_iff.mp ht).1
      rw [List.length_set] at this
      exact this
    by_cases z : i = ts.length - 1
    · subst z
      rw [List.getElem?_set_self lt] at ht
      have et : T = t := Option.some.inj ht
      rw [List.getElem?_append_right (by rw [List.length_dropLast]; omega), List.length_dropLast, show ts.length - 1 - (ps.length - 1) = 0 by omega] at hp
      have epp : (k, c + 1) = p := by simpa using hp
      rw [← et, ← epp]
      exact hT
    · rw [List.getElem?_set_ne (by omega)] at ht
      rw [List.getElem?_append_left (by rw [List.length_dropLast]; omega), List.getElem?_dropLast, if_pos (by omega)] at hp
      have old := h3 i t p ht hp
      refine keep t _ (fun e => ?_) old
      rw [e, h1] at old
      cases old
theorem Prs.snoc {H H' : Hp} {l : Addr} {ps : List (Int × Nat)} {k : Int} (h : Prs H l ps) : ∃ ts : List Addr, H l = some (.lst (ts.map V.ref)) ∧ ts.length = ps.length ∧
    ∀ (T : Addr) (H' : Hp), (∀ b o, b ≠ l → H b = some o → H' b = some o) → H' T = some (.tup [.int k, .int ((1 : Nat) : Int)]) → H' l = some (.lst (ts.map V.ref ++ [.ref T])) → Prs H' l (ps ++ [(k, 1)]) := by
  obtain ⟨ts, h1, h2, h3⟩ := h
  refine ⟨ts, h1, h2, fun T H' keep hT hl => ⟨ts ++ [T], by rw [hl]; simp, by simp [h2], fun i t p ht hp => ?_⟩⟩
  by_cases z : i < ts.length
  · rw [List.getElem?_append_left z] at ht
    rw [List.getElem?_append_left (by omega)] at hp
    have old := h3 i t p ht hp
    refine keep t _ (fun e => ?_) old
    rw [e, h1] at old
    cases old
  · have li : i = ts.length := by
      have := (List.getElem?_eq_some_iff.mp ht).1
      simp at this
      omega
    subst li
    rw [List.getElem?_append_right (Nat.le_refl _), Nat.sub_self] at ht
    rw [h2, List.getElem?_append_right (Nat.le_refl _), Nat.sub_self] at hp
    have et : T = t := by simpa using ht
    have ep : (k, 1) = p := by simpa using hp
    rw [← et, ← ep]
    exact hT
theorem show_short {ns : List Int} (h : Nice ns) {n : Nat} (hn : ns.length ≤ n) : (showL ns).length ≤ n * 207 + 4 := by
  obtain ⟨a, b⟩ := h.words
  unfold showL
  split
  · show 4 ≤ _
    omega
  · have c := join_len [44, 32] (wrds ns)
    have d := sum_le a
    have l : (wrds ns).length ≤ n := by
      unfold wrds
      rw [List.length_map]
      exact Nat.le_trans (grp_len ns) hn
    have e := Nat.mul_le_mul_right 205 l
    have f : (wrds ns).length * ([44, 32] : List Nat).length ≤ n * 2 := Nat.mul_le_mul_right 2 l
    omega
theorem fold_rep (k : Int) : ∀ (c : Nat) (gs : List (Int × Nat)) (t : Nat), (List.replicate c k).foldl grpS (gs ++ [(k, t)]) = gs ++ [(k, t + c)]
  | 0, gs, t => by simp
  | c + 1, gs, t => by
    have e : grpS (gs ++ [(k, t)]) k = gs ++ [(k, t + 1)] := by
      unfold grpS
      simp
    rw [List.replicate_succ, List.foldl_cons, e, fold_rep k c gs (t + 1), show t + 1 + c = t + (c + 1) by omega]
theorem grp_add {ns : List Int} {gs : List (Int × Nat)} {k : Int} {c : Nat} (h : grp ns = gs) (hl : ∀ a t, gs.getLast? = some (a, t) → a ≠ k) (hc : 1 ≤ c) : grp (ns ++ List.replicate c k) = gs ++ [(k, c)] := by
  obtain ⟨c', rfl⟩ : ∃ c', c = c' + 1 := ⟨c - 1, by omega⟩
  unfold grp at h ⊢
  rw [List.foldl_append, h, List.replicate_succ, List.foldl_cons]
  have e : grpS gs k = gs ++ [(k, 1)] := by
    unfold grpS
    cases el : gs.getLast? with
    | none =>
      have : gs = [] := List.getLast?_eq_none_iff.mp el
      subst this
      rfl
    | some q =>
      obtain ⟨a, t⟩ := q
      simp only
      rw [if_neg (hl a t el)]
  rw [e, fold_rep k c' gs 1, show 1 + c' = c' + 1 by omega]
theorem grp_two {o : Int} {m : Nat} (h : 1 ≤ m) : grp ((o + 1) :: List.replicate m o) = [(o + 1, 1), (o, m)] :=
  grp_add (ns := [o + 1]) (gs := [(o + 1, 1)]) rfl (fun a t e => by
    have : a = o + 1 := by
      have := congrArg (Option.map Prod.fst) e
      simpa using this.symm
    omega) h
theorem show_two {o : Int} {m : Nat} (h : 2 ≤ m) : showL ((o + 1) :: List.replicate m o) = TL.numL (o + 1).toNat ++ ([44, 32] ++ (TL.numL o.toNat ++ 94 :: TL.numL m)) := by
  unfold showL wrds
  rw [if_neg (by simp), grp_two (by omega)]
  simp only [List.map_cons, List.map_nil, TL.joinL]
  unfold wrd
  rw [if_neg (by decide), if_pos (by omega)]
end Sq


set_option Elab.async false
set_option maxRecDepth 100000
set_option maxHeartbeats 4000000
namespace Sq
open PySem PySem.Spec PyProof.Rows L2
/-! ## any text read -/
def numsAll : List (List Nat) → Option (List Int)
  | [] => some []
  | w :: r => match numsIn w with
    | none => none
    | some a => match numsAll r with
      | none => none
      | some b => some (a ++ b)
def wordsOf (u : List Nat) : List (List Nat) := if u = noneL then [] else TL.spl [44, 32] 0 [] u
def readR (u : List Nat) : Option (List Int) := match numsAll (wordsOf u) with
  | none => none
  | some ns => if showL ns = u then some ns else none
theorem nums_snoc (w : List Nat) : ∀ {ws : List (List Nat)} {a : List Int}, numsAll ws = some a → numsAll (ws ++ [w]) = match numsIn w with | none => none | some b => some (a ++ b)
  | [], a, h => by
    have : a = [] := (Option.some.inj h).symm
    subst this
    show numsAll [w] = _
    unfold numsAll
    cases numsIn w with
    | none => rfl
    | some b => simp [numsAll]
  | v :: r, a, h => by
    unfold numsAll at h
    show numsAll (v :: (r ++ [w])) = _
    unfold numsAll
    cases hv : numsIn v with
    | none =>
      rw [hv] at h
      cases h
    | some x =>
      rw [hv] at h
      simp only at h ⊢
      cases hr : numsAll r with
      | none =>
        rw [hr] at h
        cases h
      | some y =>
        rw [hr] at h
        simp only at h
        have e : x ++ y = a := Option.some.inj h
        rw [nums_snoc w hr]
        cases numsIn w with
        | none => rfl
        | some b => simp [← e]
theorem nums_bad {w : List Nat} (hw : numsIn w = none) : ∀ {ws : List (List Nat)}, w ∈ ws → numsAll ws = none
  | [], h => nomatch h
  | v :: r, h => by
    unfold numsAll
    rcases List.mem_cons.mp h with rfl | z
    · rw [hw]
    · cases numsIn v with
      | none => rfl
      | some x => simp only [nums_bad hw z]
theorem nums_take {ws : List (List Nat)} {i : Nat} {w : List Nat} {a : List Int} (h : ws[i]? = some w) (e : numsAll (ws.take i) = some a) : numsAll (ws.take (i + 1)) = match numsIn w with | none => none | some b => some (a ++ b) := by
  rw [List.take_add_one, h]
  exact nums_snoc w e
/-! ### what is shown is read -/
theorem nums_shown : ∀ {ps : List (Int × Nat)}, (∀ p ∈ ps, (2 ≤ p.1 ∧ p.1 < 10 ^ 200) ∧ 1 ≤ p.2 ∧ p.2 ≤ 5000000) → numsAll (ps.map fun p => wrd p.1.toNat p.2) = some (ungrp ps)
  | [], _ => rfl
  | p :: r, h => by
    obtain ⟨⟨h2, h200⟩, h1, h5⟩ := h p (List.mem_cons_self ..)
    have ih := nums_shown (ps := r) fun q hq => h q (List.mem_cons_of_mem _ hq)
    have lt : (TL.numL p.2).length ≤ 200 := Nat.le_trans (TL.numL_len (k := 7) (by decide) (by omega)) (by decide)
    have e := nums_wrd (n := p.1.toNat) (t := p.2) (num_len (by omega) h200) lt (by omega) h1
    rw [List.map_cons]
    unfold numsAll
    rw [e]
    simp only [ih]
    rw [Int.toNat_of_nonneg (by omega)]
    rfl
/-- lists that are shown and read, also long ones -/
def NiceW (ns : List Int) : Prop := (∀ k ∈ ns, 2 ≤ k ∧ k < 10 ^ 200) ∧ ns.length ≤ 5000000 ∧ (grp ns).length ≤ 5000
theorem Nice.w {ns : List Int} (h : Nice ns) : NiceW ns := ⟨h.1, Nat.le_trans h.2 (by decide), Nat.le_trans (grp_len ns) h.2⟩
theorem NiceW.grp {ns : List Int} (h : NiceW ns) : GrpOk (fun k => 2 ≤ k ∧ k < 10 ^ 200) 5000000 (grp ns) := fun p hp => by
  have := grp_ok h.1 p hp
  have l := h.2.1
  exact ⟨this.1, this.2.1, by omega⟩
theorem words_shown {ns : List Int} : wordsOf (showL ns) = wrds ns := by
  unfold wordsOf
  by_cases h : ns = []
  · subst h
    rfl
  · rw [if_neg (show_ne h), spl_show h]
theorem read_shown {ns : List Int} (h : NiceW ns) : readR (showL ns) = some ns := by
  unfold readR
  rw [words_shown]
  unfold wrds
  rw [nums_shown fun p hp => h.grp p hp, ungrp_grp]
  exact if_pos rfl
theorem show_inj {a b : List Int} (ha : NiceW a) (hb : NiceW b) (e : showL a = showL b) : a = b := by
  have x := read_shown ha
  rw [e, read_shown hb] at x
  exact (Option.some.inj x).symm
theorem num_len7 {t : Nat} (h : t ≤ 5000000) : (TL.numL t).length ≤ 7 := TL.numL_len (by decide) (by omega)
theorem wrd_len7 {k : Int} {t : Nat} (h0 : 0 ≤ k) (h : k < 10 ^ 200) (ht : t ≤ 5000000) : (wrd k.toNat t).length ≤ 208 := by
  have a := num_len h0 h
  have b := num_len7 ht
  unfold wrd
  split
  · rw [List.length_append, List.length_cons]
    omega
  · omega
theorem ltW {n : Nat} (h : n ≤ 5000000) : n < sizeLine := by
  rw [sizeLine_eq]
  omega
theorem NiceW.words {ns : List Int} (h : NiceW ns) : (∀ w ∈ wrds ns, w.length ≤ 208) ∧ (wrds ns).length ≤ 5000 := by
  refine ⟨fun w hw => ?_, ?_⟩
  · obtain ⟨p, hp, rfl⟩ := List.mem_map.mp hw
    obtain ⟨a, b, c⟩ := h.grp p hp
    exact wrd_len7 (by omega) a.2 c
  · unfold wrds
    rw [List.length_map]
    exact h.2.2
/-! ### pieces -/
theorem spl_part (S : List Nat) : ∀ (l : List Nat) (k : Nat) (acc w : List Nat), w ∈ TL.spl S k acc l → (∃ x a b, w = acc ++ x ∧ l = a ++ x ++ b ∧ (k = 0 → a = [])) ∨ ∃ a b, l = a ++ w ++ b
  | [], k, acc, w, h => by
    rw [TL.spl_nil] at h
    exact .inl ⟨[], [], [], by rw [List.mem_singleton.mp h, List.append_nil], rfl, fun _ => rfl⟩
  | c :: r, 0, acc, w, h => by
    cases hp : TL.pre S (c :: r) with
    | true =>
      rw [TL.spl_hit hp] at h
      rcases List.mem_cons.mp h with rfl | z
      · exact .inl ⟨[], [], c :: r, by rw [List.append_nil], rfl, fun _ => rfl⟩
      · rcases spl_part S r _ [] w z with ⟨x, a, b, e1, e2, _⟩ | ⟨a, b, e⟩
        · rw [List.nil_append] at e1
          subst e1
          exact .inr ⟨c :: a, b, by rw [e2]; rfl⟩
        · exact .inr ⟨c :: a, b, by rw [e]; rfl⟩
    | false =>
      rw [TL.spl_miss hp] at h
      rcases spl_part S r 0 (acc ++ [c]) w h with ⟨x, a, b, e1, e2, e3⟩ | ⟨a, b, e⟩
      · have := e3 rfl
        subst this
        exact .inl ⟨c :: x, [], b, by rw [e1]; simp, by rw [e2]; rfl, fun _ => rfl⟩
      · exact .inr ⟨c :: a, b, by rw [e]; rfl⟩
  | c :: r, k + 1, acc, w, h => by
    rcases spl_part S r k acc w h with ⟨x, a, b, e1, e2, e3⟩ | ⟨a, b, e⟩
    · exact .inl ⟨x, c :: a, b, e1, by rw [e2]; rfl, fun z => absurd z (by omega)⟩
    · exact .inr ⟨c :: a, b, by rw [e]; rfl⟩
theorem spl_in {S l w : List Nat} (h : w ∈ TL.spl S 0 [] l) : ∃ a b, l = a ++ w ++ b := by
  rcases spl_part S l 0 [] w h with ⟨x, a, b, e1, e2, _⟩ | z
  · rw [List.nil_append] at e1
    subst e1
    exact ⟨a, b, e2⟩
  · exact z
theorem spl_count (S : List Nat) : ∀ (l : List Nat) (k : Nat) (acc : List Nat), (TL.spl S k acc l).length ≤ l.length + 1
  | [], k, acc => by
    rw [TL.spl_nil]
    exact Nat.le_refl _
  | c :: r, 0, acc => by
    cases hp : TL.pre S (c :: r) with
    | true =>
      rw [TL.spl_hit hp]
      have := spl_count S r (S.length - 1) []
      rw [List.length_cons, List.length_cons]
      omega
    | false =>
      rw [TL.spl_miss hp]
      have := spl_count S r 0 (acc ++ [c])
      rw [List.length_cons]
      omega
  | c :: r, k + 1, acc => by
    have := spl_count S r k acc
    rw [List.length_cons]
    exact Nat.le_succ_of_le this
theorem spl_head {s : Nat} : ∀ {l acc f : List Nat} {o : List (List Nat)}, TL.spl [s] 0 acc l = f :: o → (o = [] ∧ f = acc ++ l) ∨ ∃ x rest, f = acc ++ x ∧ l = x ++ s :: rest ∧ o = TL.spl [s] 0 [] rest
  | [], acc, f, o, h => by
    rw [TL.spl_nil] at h
    injection h with h1 h2
    exact .inl ⟨h2.symm, by rw [← h1, List.append_nil]⟩
  | c :: r, acc, f, o, h => by
    cases hp : TL.pre [s] (c :: r) with
    | true =>
      rw [TL.spl_hit hp] at h
      injection h with h1 h2
      have e : (c :: r).take 1 = [s] := eq_of_beq hp
      have ec : c = s := by simpa using e
      exact .inr ⟨[], r, by rw [h1, List.append_nil], by rw [ec]; rfl, h2.symm⟩
    | false =>
      rw [TL.spl_miss hp] at h
      rcases spl_head h with ⟨h1, h2⟩ | ⟨x, rest, h1, h2, h3⟩
      · exact .inl ⟨h1, by rw [h2]; simp⟩
      · exact .inr ⟨c :: x, rest, by rw [h1]; simp, by rw [h2]; rfl, h3⟩
theorem spl_two {s : Nat} {w f t : List Nat} {o : List (List Nat)} (h : TL.spl [s] 0 [] w = f :: t :: o) : ∃ b, w = f ++ s :: (t ++ b) := by
  rcases spl_head h with ⟨h1, _⟩ | ⟨x, rest, h1, h2, h3⟩
  · cases h1
  · rw [List.nil_append] at h1
    subst h1
    rcases spl_head h3.symm with ⟨_, h4⟩ | ⟨y, r2, h4, h5, _⟩
    · exact ⟨[], by rw [h2, h4]; simp⟩
    · rw [List.nil_append] at h4
      subst h4
      exact ⟨s :: r2, by rw [h2, h5]⟩
theorem spl_ne (s : Nat) (w : List Nat) : ∃ f o, TL.spl [s] 0 [] w = f :: o := by
  have : ∀ (l acc : List Nat), ∃ f o, TL.spl [s] 0 acc l = f :: o := by
    intro l
    induction l with
    | nil => exact fun acc => ⟨acc, [], TL.spl_nil _ _ _⟩
    | cons c r ih =>
      intro acc
      cases hp : TL.pre [s] (c :: r) with
      | true => exact ⟨_, _, TL.spl_hit hp⟩
      | false =>
        rw [TL.spl_miss hp]
        exact ih _
  exact this w []
/-! ### bounds -/
theorem val_lt : ∀ (cs : List Nat) (a : Nat), cs.all dig = true → cs.foldl (fun acc c => acc * 10 + (c - 48)) a < (a + 1) * 10 ^ cs.length
  | [], a, _ => by simp
  | c :: r, a, h => by
    rw [List.all_cons, Bool.and_eq_true] at h
    have ih := val_lt r (a * 10 + (c - 48)) h.2
    have hc : c - 48 ≤ 9 := by
      have := h.1
      unfold dig at this
      rw [Bool.and_eq_true, decide_eq_true_eq, decide_eq_true_eq] at this
      omega
    rw [List.foldl_cons, List.length_cons, Nat.pow_succ]
    have m : (a * 10 + (c - 48) + 1) * 10 ^ r.length ≤ ((a + 1) * 10) * 10 ^ r.length := Nat.mul_le_mul_right _ (by omega)
    have e : (a + 1) * 10 * 10 ^ r.length = (a + 1) * (10 ^ r.length * 10) := by rw [Nat.mul_assoc, Nat.mul_comm 10]
    omega
theorem digitsVal_lt {cs : List Nat} (h : cs.all dig = true) : NumText.digitsVal cs < 10 ^ cs.length := by
  have := val_lt cs 0 h
  rw [Nat.zero_add, Nat.one_mul] at this
  exact this
theorem numIn_some {w : List Nat} {n : Nat} (h : numIn w = some n) : (1 ≤ w.length ∧ w.length ≤ 200 ∧ w.all dig = true) ∧ n = NumText.digitsVal w := by
  unfold numIn at h
  split at h
  · rename_i c
    exact ⟨c, (Option.some.inj h).symm⟩
  · cases h
theorem numIn_lt {w : List Nat} {n : Nat} (h : numIn w = some n) : (n : Int) < 10 ^ 200 := by
  obtain ⟨⟨_, h1, h2⟩, rfl⟩ := numIn_some h
  have a := digitsVal_lt h2
  have b : 10 ^ w.length ≤ 10 ^ 200 := Nat.pow_le_pow_right (by decide) h1
  have e : ((10 : Int) ^ 200) = ((10 ^ 200 : Nat) : Int) := by norm_cast
  rw [e]
  omega
theorem take_all {b t r : List Nat} (h : t.all dig = true) (e : b = t ++ r) : t.length ≤ (b.takeWhile dig).length := by
  subst e
  induction t with
  | nil => exact Nat.zero_le _
  | cons c t ih =>
    rw [List.all_cons, Bool.and_eq_true] at h
    rw [List.cons_append, List.takeWhile_cons, if_pos h.1, List.length_cons, List.length_cons]
    exact Nat.succ_le_succ (ih h.2)
/-- texts that are read here: behind each power sign stand at most three digits -/
def RdOk (u : List Nat) : Prop := u.length ≤ 4100 ∧ (∀ c ∈ u, c < 0x110000) ∧ ∀ a b, u = a ++ 94 :: b → (b.takeWhile dig).length ≤ 3
theorem nums_of {u w : List Nat} {ns : List Int} (h : RdOk u) (hw : ∃ a b, u = a ++ w ++ b) (e : numsIn w = some ns) : ∃ (n : Int) (t : Nat), ns = List.replicate t n ∧ t ≤ 999 ∧ 2 ≤ n ∧ n < 10 ^ 200 := by
  obtain ⟨f, o, es⟩ := spl_ne 94 w
  unfold numsIn at e
  rw [es] at e
  simp only at e
  cases hf : numIn f with
  | none =>
    rw [hf] at e
    cases e
  | some n =>
    rw [hf] at e
    have nl := numIn_lt hf
    cases o with
    | nil =>
      simp only at e
      split at e
      · cases e
      · rename_i c
        exact ⟨n, 1, (Option.some.inj e).symm, by decide, by simp at c; omega, nl⟩
    | cons t o =>
      simp only at e
      cases ht : numIn t with
      | none =>
        rw [ht] at e
        cases e
      | some m =>
        rw [ht] at e
        simp only at e
        split at e
        · cases e
        · rename_i c
          refine ⟨n, m, (Option.some.inj e).symm, ?_, by omega, nl⟩
          obtain ⟨⟨_, _, td⟩, rfl⟩ := numIn_some ht
          obtain ⟨a, b, eu⟩ := hw
          obtain ⟨x, ew⟩ := spl_two es
          have z := h.2.2 (a ++ f) (t ++ (x ++ b)) (by rw [eu, ew]; simp)
          have y := take_all (b := t ++ (x ++ b)) td rfl
          have v := digitsVal_lt td
          have p : 10 ^ t.length ≤ 10 ^ 3 := Nat.pow_le_pow_right (by decide) (by omega)
          omega
theorem grpS_last (g : List (Int × Nat)) (k : Int) : ∃ gs t, grpS g k = gs ++ [(k, t)] ∧ gs.length ≤ g.length := by
  unfold grpS
  cases e : g.getLast? with
  | none => exact ⟨[], 1, rfl, Nat.zero_le _⟩
  | some q =>
    obtain ⟨a, c⟩ := q
    simp only
    split
    · rename_i z
      exact ⟨g.dropLast, c + 1, by rw [z], by rw [List.length_dropLast]; omega⟩
    · exact ⟨g, 1, rfl, Nat.le_refl _⟩
theorem grp_more (ns : List Int) (t : Nat) (n : Int) : (grp (ns ++ List.replicate t n)).length ≤ (grp ns).length + 1 := by
  unfold grp
  rw [List.foldl_append]
  generalize ns.foldl grpS [] = g
  cases t with
  | zero => simp
  | succ t =>
    obtain ⟨gs, m, e, l⟩ := grpS_last g n
    rw [List.replicate_succ, List.foldl_cons, e, fold_rep, List.length_append, List.length_singleton]
    omega
theorem nums_pre {w : List Nat} : ∀ {l : List (List Nat)} {a : List Int}, numsAll (l ++ [w]) = some a → ∃ b c, numsAll l = some b ∧ numsIn w = some c ∧ a = b ++ c
  | [], a, h => by
    have h : numsAll [w] = some a := h
    unfold numsAll at h
    cases e : numsIn w with
    | none =>
      rw [e] at h
      cases h
    | some c =>
      rw [e] at h
      have h : some (c ++ []) = some a := h
      exact ⟨[], c, rfl, rfl, by rw [← Option.some.inj h]; simp⟩
  | v :: r, a, h => by
    have h : numsAll (v :: (r ++ [w])) = some a := h
    unfold numsAll at h
    cases hv : numsIn v with
    | none =>
      rw [hv] at h
      cases h
    | some x =>
      rw [hv] at h
      simp only at h
      cases hr : numsAll (r ++ [w]) with
      | none =>
        rw [hr] at h
        cases h
      | some y =>
        rw [hr] at h
        have e : x ++ y = a := Option.some.inj h
        obtain ⟨b, c, h1, h2, h3⟩ := nums_pre hr
        refine ⟨x ++ b, c, ?_, h2, by rw [← e, h3, List.append_assoc]⟩
        unfold numsAll
        rw [hv, h1]
/-- the numbers of some words -/
theorem nums_nice {u : List Nat} (h : RdOk u) {ws : List (List Nat)} (hw : ∀ w ∈ ws, ∃ x y, u = x ++ w ++ y) : ∀ (i : Nat) (a : List Int), i ≤ ws.length → numsAll (ws.take i) = some a → (∀ k ∈ a, 2 ≤ k ∧ k < 10 ^ 200) ∧ a.length ≤ i * 999 ∧ (grp a).length ≤ i := by
  intro i
  induction i with
  | zero =>
    intro a _ e
    have : a = [] := (Option.some.inj e).symm
    subst this
    exact ⟨(fun k hk => nomatch hk), Nat.zero_le _, Nat.zero_le _⟩
  | succ i ih =>
    intro a hi e
    have ei : ws[i]? = some ws[i] := List.getElem?_eq_getElem (by omega)
    rw [List.take_add_one, ei] at e
    obtain ⟨b, c, e1, e2, rfl⟩ := nums_pre e
    obtain ⟨h1, h2, h3⟩ := ih b (by omega) e1
    obtain ⟨n, t, rfl, t9, n2, n200⟩ := nums_of h (hw _ (List.getElem_mem _)) e2
    have g := grp_more b t n
    refine ⟨fun k hk => ?_, ?_, by omega⟩
    · rcases List.mem_append.mp hk with z | z
      · exact h1 k z
      · rw [List.eq_of_mem_replicate z]
        exact ⟨n2, n200⟩
    · rw [List.length_append, List.length_replicate, Nat.add_mul]
      omega
theorem words_in {u w : List Nat} (h : w ∈ wordsOf u) : ∃ a b, u = a ++ w ++ b := by
  unfold wordsOf at h
  split at h
  · cases h
  · exact spl_in h
theorem words_count (u : List Nat) : (wordsOf u).length ≤ u.length + 1 := by
  unfold wordsOf
  split
  · exact Nat.zero_le _
  · exact spl_count _ _ _ _
theorem nums_niceW {u : List Nat} (h : RdOk u) {i : Nat} {a : List Int} (hi : i ≤ (wordsOf u).length) (e : numsAll ((wordsOf u).take i) = some a) : NiceW a ∧ a.length ≤ i * 999 := by
  obtain ⟨h1, h2, h3⟩ := nums_nice h (fun w hw => words_in hw) i a hi e
  have c := words_count u
  have l := h.1
  have m := Nat.mul_le_mul_right 999 (show i ≤ 4101 by omega)
  exact ⟨⟨h1, by omega, by omega⟩, h2⟩
theorem readR_nice {u : List Nat} (h : RdOk u) {a : List Int} (e : readR u = some a) : NiceW a ∧ showL a = u := by
  unfold readR at e
  cases en : numsAll (wordsOf u) with
  | none =>
    rw [en] at e
    cases e
  | some b =>
    rw [en] at e
    simp only at e
    split at e
    · rename_i c
      have : b = a := Option.some.inj e
      subst this
      refine ⟨(nums_niceW h (Nat.le_refl _) ?_).1, c⟩
      rw [List.take_length]
      exact en
    · cases e
end Sq


set_option Elab.async false
set_option maxRecDepth 100000
set_option maxHeartbeats 4000000
namespace Sq
open PySem PySem.Spec PyProof.Rows L2
/-! ## texts with one sign put in or left out -/
/-- behind each power sign stand at most n signs before the next separator -/
def PowD (n : Nat) (u : List Nat) : Prop := ∀ a b, u = a ++ 94 :: b → ∃ ds tl, b = ds ++ tl ∧ ds.length ≤ n ∧ (tl = [] ∨ ∃ r, tl = 44 :: 32 :: r)
theorem app_94 {a b x y : List Nat} (h : x ++ y = a ++ 94 :: b) : (∃ c, x = a ++ 94 :: c ∧ b = c ++ y) ∨ ∃ c, a = x ++ c ∧ y = c ++ 94 :: b := by
  rcases List.append_eq_append_iff.mp h with ⟨c, h1, h2⟩ | ⟨c, h1, h2⟩
  · exact .inr ⟨c, h1, h2⟩
  · cases c with
    | nil =>
      rw [List.append_nil] at h1
      exact .inr ⟨[], by rw [h1, List.append_nil], by rw [List.nil_append] at h2 ⊢; exact h2.symm⟩
    | cons d c =>
      rw [List.cons_append] at h2
      injection h2 with h3 h4
      exact .inl ⟨c, by rw [h1, h3], h4⟩
theorem pow_num {n k : Nat} {t : Nat} (ht : (TL.numL t).length ≤ k) : PowD k (wrd n t) := fun a b e => by
  unfold wrd at e
  split at e
  · rcases app_94 e with ⟨c, h1, _⟩ | ⟨c, h1, h2⟩
    · exact absurd (show 94 ∈ TL.numL n by rw [h1]; simp) (free94 n)
    · cases c with
      | nil =>
        injection h2 with _ h3
        exact ⟨b, [], by rw [List.append_nil], by rw [← h3]; exact ht, .inl rfl⟩
      | cons d c =>
        rw [List.cons_append] at h2
        injection h2 with _ h3
        exact absurd (show 94 ∈ TL.numL t by rw [h3]; simp) (free94 t)
  · exact absurd (show 94 ∈ TL.numL n by rw [e]; simp) (free94 n)
theorem pow_join {k : Nat} : ∀ {ws : List (List Nat)}, (∀ w ∈ ws, PowD k w) → PowD k (TL.joinL [44, 32] ws)
  | [], _ => fun a b e => by
    have := congrArg List.length e
    simp [TL.joinL] at this
  | [w], h => h w (List.mem_cons_self ..)
  | w :: v :: r, h => fun a b e => by
    have ih := pow_join (ws := v :: r) fun x hx => h x (List.mem_cons_of_mem _ hx)
    have e : w ++ (44 :: 32 :: TL.joinL [44, 32] (v :: r)) = a ++ 94 :: b := e
    rcases app_94 e with ⟨c, h1, h2⟩ | ⟨c, h1, h2⟩
    · obtain ⟨ds, tl, e1, e2, e3⟩ := h w (List.mem_cons_self ..) a c h1
      rcases e3 with rfl | ⟨r', rfl⟩
      · exact ⟨ds, _, by rw [h2, e1, List.append_nil], e2, .inr ⟨_, rfl⟩⟩
      · exact ⟨ds, _, by rw [h2, e1, List.append_assoc]; rfl, e2, .inr ⟨_, rfl⟩⟩
    · cases c with
      | nil => cases h2
      | cons d c =>
        rw [List.cons_append] at h2
        injection h2 with _ h3
        cases c with
        | nil => cases h3
        | cons d2 c =>
          rw [List.cons_append] at h3
          injection h3 with _ h4
          exact ih c b h4
theorem pow_show {ns : List Int} {k : Nat} (h : ∀ p ∈ grp ns, (TL.numL p.2).length ≤ k) : PowD k (showL ns) := by
  unfold showL
  split
  · intro a b e
    have : 94 ∈ noneL := by rw [e]; simp
    exact absurd this (by decide)
  · refine pow_join fun w hw => ?_
    obtain ⟨p, hp, rfl⟩ := List.mem_map.mp hw
    exact pow_num (h p hp)
/-- what begins no digit -/
def stops (l : List Nat) : Prop := l = [] ∨ ∃ c r, l = c :: r ∧ dig c = false
theorem tw_len {ds tl : List Nat} (h : stops tl) : ((ds ++ tl).takeWhile dig).length ≤ ds.length := by
  induction ds with
  | nil =>
    rcases h with rfl | ⟨c, r, rfl, hc⟩
    · exact Nat.le_refl _
    · rw [List.nil_append, List.takeWhile_cons, hc]
      exact Nat.le_refl _
  | cons d ds ih =>
    rw [List.cons_append, List.takeWhile_cons]
    split
    · rw [List.length_cons, List.length_cons]
      exact Nat.succ_le_succ ih
    · exact Nat.zero_le _
theorem stops_drop {tl : List Nat} {d : Nat} (h : tl = [] ∨ ∃ r, tl = 44 :: 32 :: r) (hd : d ≤ 1) : stops (tl.drop d) := by
  rcases h with rfl | ⟨r, rfl⟩
  · exact .inl (by simp)
  · rcases (show d = 0 ∨ d = 1 by omega) with rfl | rfl
    · exact .inr ⟨44, 32 :: r, rfl, by decide⟩
    · exact .inr ⟨32, r, rfl, by decide⟩
theorem PowD.all {u : List Nat} {k : Nat} (h : PowD k u) : ∀ a b, u = a ++ 94 :: b → (b.takeWhile dig).length ≤ k := fun a b e => by
  obtain ⟨ds, tl, e1, e2, e3⟩ := h a b e
  rw [e1]
  have z := stops_drop e3 (show 0 ≤ 1 by decide)
  rw [List.drop_zero] at z
  exact Nat.le_trans (tw_len z) e2
theorem pow_bent {w sg : List Nat} {cut d : Nat} (h : PowD 2 w) (hs : sg = [] ∨ ∃ c, sg = [c] ∧ c ≠ 94) (hd : d ≤ 1) : ∀ a b, w.take cut ++ sg ++ w.drop (cut + d) = a ++ 94 :: b → (b.takeWhile dig).length ≤ 3 := by
  intro a b e
  have ls : sg.length ≤ 1 := by
    rcases hs with rfl | ⟨c, rfl, _⟩ <;> simp
  rw [List.append_assoc] at e
  have edr : w.drop (cut + d) = (w.drop cut).drop d := by rw [List.drop_drop]
  have ew : w = w.take cut ++ w.drop cut := (List.take_append_drop cut w).symm
  rw [edr] at e
  generalize w.take cut = P at e ew
  generalize w.drop cut = R at e ew
  rcases app_94 e with ⟨c, h1, h2⟩ | ⟨c, h1, h2⟩
  · obtain ⟨ds, tl, e1, e2, e3⟩ := h a (c ++ R) (by rw [ew, h1]; simp)
    have one : ∀ x : List Nat, ds = c ++ x → R = x ++ tl → (b.takeWhile dig).length ≤ 3 := fun x hx hR => by
      rw [hx, List.length_append] at e2
      rw [h2, hR]
      cases x with
      | nil =>
        rw [List.nil_append, ← List.append_assoc]
        refine Nat.le_trans (tw_len (stops_drop e3 hd)) ?_
        rw [List.length_append]
        simp at e2
        omega
      | cons y x =>
        have z := stops_drop e3 (show 0 ≤ 1 by decide)
        rw [List.drop_zero] at z
        have ed : (y :: x ++ tl).drop d = (y :: x).drop d ++ tl := by
          rcases (show d = 0 ∨ d = 1 by omega) with rfl | rfl <;> rfl
        rw [ed, ← List.append_assoc, ← List.append_assoc]
        refine Nat.le_trans (tw_len z) ?_
        rw [List.length_append, List.length_append, List.length_drop]
        omega
    rcases List.append_eq_append_iff.mp e1 with ⟨x, h3, h4⟩ | ⟨x, h3, h4⟩
    · exact one x h3 h4
    · cases x with
      | nil =>
        rw [List.append_nil] at h3
        rw [List.nil_append] at h4
        exact one [] (by rw [List.append_nil, h3]) (by rw [List.nil_append, h4])
      | cons y x =>
        have yt : dig y = false := by
          rcases e3 with rfl | ⟨r, rfl⟩
          · cases h4
          · injection h4 with h5 _
            rw [← h5]
            decide
        rw [h2, h3, List.append_assoc]
        refine Nat.le_trans (tw_len (.inr ⟨y, _, rfl, yt⟩)) (by omega)
  · have key : ∀ c' : List Nat, R.drop d = c' ++ 94 :: b → (b.takeWhile dig).length ≤ 3 := fun c' hc => by
      refine Nat.le_trans (h.all (P ++ (R.take d ++ c')) b ?_) (by decide)
      have er : R = R.take d ++ (c' ++ 94 :: b) := by
        rw [← hc]
        exact (List.take_append_drop d R).symm
      rw [ew, show P ++ R = P ++ (R.take d ++ (c' ++ 94 :: b)) from congrArg (P ++ ·) er]
      simp
    rcases hs with rfl | ⟨x, rfl, nx⟩
    · exact key c h2
    · cases c with
      | nil =>
        injection h2 with h3 _
        exact absurd h3 nx
      | cons y c =>
        injection h2 with _ h3
        exact key c h3
theorem show_chr {ns : List Int} : ∀ c ∈ showL ns, c < 256 := by
  have num : ∀ {n c : Nat}, c ∈ TL.numL n → c < 256 := fun {n c} h => by
    have := TL.numL_digits n c h
    omega
  have jl : ∀ (ws : List (List Nat)), (∀ w ∈ ws, ∀ c ∈ w, c < 256) → ∀ c ∈ TL.joinL [44, 32] ws, c < 256 := by
    intro ws
    induction ws with
    | nil => intro _ c hc; cases hc
    | cons w r ih =>
      intro h c hc
      cases r with
      | nil => exact h w (List.mem_cons_self ..) c hc
      | cons q r =>
        simp only [TL.joinL, List.mem_append, List.mem_cons, List.mem_nil_iff, or_false] at hc
        rcases hc with z | (z | z) | z
        · exact h w (List.mem_cons_self ..) c z
        · omega
        · omega
        · exact ih (fun w hw => h w (List.mem_cons_of_mem _ hw)) c z
  unfold showL
  split
  · intro c hc
    simp only [noneL, List.mem_cons, List.mem_nil_iff, or_false] at hc
    omega
  · refine jl _ fun w hw c hc => ?_
    obtain ⟨p, _, rfl⟩ := List.mem_map.mp hw
    unfold wrd at hc
    split at hc
    · simp only [List.mem_append, List.mem_cons] at hc
      rcases hc with z | z | z
      · exact num z
      · omega
      · exact num z
    · exact num hc
theorem rd_show {ns : List Int} {k : Nat} (h : ∀ p ∈ grp ns, (TL.numL p.2).length ≤ k) (hk : k ≤ 3) (hl : (showL ns).length ≤ 4100) : RdOk (showL ns) :=
  ⟨hl, fun c hc => Nat.lt_trans (show_chr c hc) (by decide), fun a b e => Nat.le_trans ((pow_show h).all a b e) hk⟩
theorem rd_bent {ns : List Int} {sg : List Nat} {cut d : Nat} (h : ∀ p ∈ grp ns, (TL.numL p.2).length ≤ 2) (hl : (showL ns).length ≤ 4000) (hs : sg = [] ∨ ∃ c, sg = [c] ∧ c ≠ 94 ∧ c < 256) (hd : d ≤ 1) : RdOk ((showL ns).take cut ++ sg ++ (showL ns).drop (cut + d)) := by
  refine ⟨?_, fun c hc => ?_, pow_bent (pow_show h) (hs.imp id fun ⟨c, z, n, _⟩ => ⟨c, z, n⟩) hd⟩
  · rw [List.length_append, List.length_append, List.length_take, List.length_drop]
    have : sg.length ≤ 1 := by
      rcases hs with rfl | ⟨c, rfl, _⟩ <;> simp
    omega
  · rcases List.mem_append.mp hc with z | z
    · rcases List.mem_append.mp z with z | z
      · exact Nat.lt_trans (show_chr c (List.mem_of_mem_take z)) (by decide)
      · rcases hs with rfl | ⟨x, rfl, _, x2⟩
        · cases z
        · rw [List.mem_singleton.mp z]
          omega
    · exact Nat.lt_trans (show_chr c (List.mem_of_mem_drop z)) (by decide)
end Sq


set_option Elab.async false
set_option maxRecDepth 100000
set_option maxHeartbeats 4000000
namespace Sq
open PySem PySem.Spec PyProof.Rows L2
/-! ## a text times an int -/
def repL (k : Nat) (a : List Nat) : List Nat := (List.replicate k a).flatten
theorem repL_one (k c : Nat) : repL k [c] = List.replicate k c := by
  induction k with
  | zero => rfl
  | succ k ih =>
    unfold repL at ih ⊢
    rw [List.replicate_succ, List.flatten_cons, ih]
    rfl
theorem fold_cps (a : Array Nat) : ∀ (k : Nat) (b : Array Nat), ((List.replicate k a).foldl (· ++ ·) b).toList = b.toList ++ repL k a.toList
  | 0, b => by simp [repL]
  | k + 1, b => by
    rw [List.replicate_succ, List.foldl_cons, fold_cps a k, Array.toList_append]
    unfold repL
    rw [List.replicate_succ, List.flatten_cons, List.append_assoc]
def rRepS : R2 := fun x y H Q => ∃ (a : List Nat) (k : Int), x = .str (SX.S a) ∧ y = .int k ∧ -(2 ^ 62) < k ∧ k < 2 ^ 62 ∧ a.length * k.toNat ≤ 10000000 ∧ Q (.str (SX.S (repL k.toNat a))) H
theorem op_rep_str {X : Cx} : OpR X (binaryOp .Mult) rRepS := by
  intro pins s σ H x y v u Q I rx ry h
  obtain ⟨a, k, rfl, rfl, h1, h2, hz, q⟩ := h
  obtain ⟨t, rfl⟩ := rx
  obtain ⟨t', rfl⟩ := ry
  have el : (SX.S a).length = a.length := SX.S_len a
  refine PySem.P.mul_str ?_ (fun p e => ?_) (fun p e => ?_) ?_
  · rw [decide_eq_false (by omega), decide_eq_false (by omega)]
    rfl
  · rw [el]
    have kp : 0 < k := by omega
    refine Int.not_lt.mpr ((Int.le_ediv_iff_mul_le kp).mpr ?_)
    have ek : ((k.toNat : Nat) : Int) = k := Int.toNat_of_nonneg (by omega)
    have hz2 : ((a.length * k.toNat : Nat) : Int) ≤ 10000000 := by omega
    rw [Int.natCast_mul, ek] at hz2
    omega
  · rw [el]
    unfold Builtin.Str.tooLong
    refine decide_eq_false ?_
    have := sizeLine_eq
    omega
  · by_cases c : k < 1
    · rw [if_pos c]
      refine ⟨by decide, .str _, H, I.tok _, ⟨_, rfl⟩, ?_⟩
      have e : k.toNat = 0 := by omega
      rw [e] at q
      exact q
    · rw [if_neg c]
      split
      · rename_i z
        refine ⟨.str (SX.S a), H, I, ⟨_, rfl⟩, ?_⟩
        have e : repL k.toNat a = a := by
          rw [Bool.or_eq_true] at z
          rcases z with z | z
          · have : k = 1 := eq_of_beq z
            rw [this]
            simp [repL]
          · have : a.length = 0 := by
              rw [el] at z
              exact eq_of_beq z
            rw [List.eq_nil_of_length_eq_zero this]
            simp [repL]
        rw [e] at q
        exact q
      · have e : (⟨(List.replicate k.toNat (SX.S a).cps).foldl (· ++ ·) #[]⟩ : Str) = SX.S (repL k.toNat a) := by
          refine TL.ext_tl ?_
          show ((List.replicate k.toNat a.toArray).foldl (· ++ ·) #[]).toList = _
          rw [fold_cps]
          rfl
        rw [e]
        refine ⟨?_, .str _, H, I.tok _, ⟨_, rfl⟩, q⟩
        have : (repL k.toNat a).length = k.toNat * a.length := by simp [repL]
        rw [SX.S_len, this, Nat.mul_comm]
        have := sizeLine_eq
        omega
end Sq

/-! ## own tactic words (local) -/
local macro_rules | `(tactic| walk_at "sq hp") => `(tactic| first
  | assumption
  | exact L2.upd_same
  | (refine Sq.Sep.get (by assumption) ?_; walk_at "sq hp")
  | (refine Sq.upd_keep (by assumption) ?_; walk_at "sq hp")
  | (refine Sq.Same.get (by assumption) ?_; walk_at "sq hp")
  | (refine Sq.upd_off (by assumption) ?_; walk_at "sq hp")
  | (refine Sq.upd_off (Ne.symm (by assumption)) ?_; walk_at "sq hp"))
local macro_rules | `(tactic| walk_at "sq sql") => `(tactic| first
  | assumption
  | exact Sq.seqL_of (by walk_at "sq hp")
  | exact L2.Same.seq (by assumption) (by assumption)
  | exact L2.Same.seq (Sq.Sep.same (by assumption)) (by assumption))
local macro_rules | `(tactic| walk_at "sq len") => `(tactic| (
  (try simp only [List.length_map, List.length_append, List.length_cons, List.length_nil, List.length_take, List.length_drop, List.length_reverse]); (try rw [PySem.sizeLine_eq]); omega))
local macro_rules | `(tactic| walk_at "sq side") => `(tactic| first
  | exact rfl
  | exact Nat.zero_le _
  | exact Sq.lit_len (Nat.le_of_ble_eq_true rfl)
  | ((with_reducible show L2.SqL _ _ _ _); walk_at "sq sql")
  | ((with_reducible show L2.SqT _ _ _ _); exact L2.SqT.of (by walk_at "sq hp"))
  | (apply Exists.intro; walk_at "sq sql")
  | ((with_reducible show _ = some _); walk_at "sq hp")
  | ((with_reducible show Sq.Sep _ _ _); assumption)
  | ((with_reducible show L2.ClsV _ _); first | exact .ty _ | exact .own _)
  | ((with_reducible show L2.TyX _ _ _ _); first | exact .base .non | exact .base (.bl _) | exact .base (.int _) | exact .base (.str _) | exact Sq.tyx_lst (by walk_at "sq sql") | exact Sq.tyx_tup (by exact L2.SqT.of (by walk_at "sq hp")) | assumption)
  | ((with_reducible show Sq.CPowW _ _); first | assumption | exact ⟨by decide, by decide, by decide⟩)
  | ((with_reducible show L2.CMulW _ _); first | assumption | exact (by decide +kernel))
  | ((with_reducible show L2.CDivW _ _); first | assumption | exact ⟨by decide, by decide⟩)
  | ((with_reducible show L2.tyV _ "list" _ _); exact Or.inl ⟨rfl, _, by walk_at "sq sql"⟩)
  | ((with_reducible show _ < PySem.sizeLine); walk_at "sq len")
  | ((with_reducible show _ ≤ PySem.sizeLine); walk_at "sq len")
  | ((with_reducible show (0 : Int) < _); first | assumption | decide | omega)
  | decide
  | omega)
local macro_rules | `(tactic| walk_at "sq go") => `(tactic| repeat (first
  | exact rfl
  | (fail_if_success (show ∃ W : Nat → Nat → L2.St → L2.Hp → Prop, _)
     fail_if_success (show ∃ W : Nat → Nat → L2.Hp → Prop, _)
     fail_if_success (show ∃ W : Nat → L2.St → L2.Hp → Prop, _)
     fail_if_success (show ∃ W : Nat → Nat → List L2.V → L2.St → L2.Hp → Prop, _)
     apply Exists.intro)
  | (apply And.intro; focus walk_at "sq side")
  | refine L2.iteT ?_
  | refine L2.iteF ?_))
namespace Sq
open PySem PySem.Spec PyProof.Rows L2
def topS (i : Nat) : Stmt := PySem.Challenge.pw_squeezelists_k42_whole_texts_of_lists.main.body.getD i (.Pass ⟨0, 0, 0, 0⟩)
structure Bt (mg : Str → Option Value) : Prop where
  «ValueError» : mg "ValueError" = none
  «abs» : mg "abs" = none
  «all» : mg "all" = none
  «enumerate» : mg "enumerate" = none
  «int» : mg "int" = none
  «len» : mg "len" = none
  «max» : mg "max" = none
  «min» : mg "min" = none
  «range» : mg "range" = none
  «repr» : mg "repr" = none
  «str» : mg "str" = none
section
variable {P : Program} {w : World} {K : PySem.W.Frag} {mg : Str → Option Value} {base : Heap}

/-! ### the source of draws: a list of three ints -/
abbrev s_law_draw : Stmt := topS 25
theorem sc_law_draw : FnScope ["rng", "limit", "found", "mixed"] ["rng", "limit"] (defScope s_law_draw) := ⟨rfl, rfl, rfl, by decide +kernel, rfl, by decide +kernel, by decide +kernel⟩

/-- as spDraw3, of a wider range -/
def spDrawW : Sp := fun vs H Q _ => ∃ (r : Addr) (m N : Int) (G : Hp), vs = [.ref r, .int m] ∧ Sep (rg3 r N) G H ∧ Keep (0 < m ∧ m < 2 ^ 1000 ∧ N < 2 ^ 60) ∧ ∀ v H', 0 ≤ v → v < m → Sep (rg3 r (N + 1)) G H' → Q (.int v) H'
theorem drawW3 {k : Nat} (c : Cal P w K mg base k "_law_draw" spDrawW []) : Cal P w K mg base k "_law_draw" spDraw3 [] := c.imp (Nat.le_refl _) fun vs H Q E h => by
  obtain ⟨r, m, N, G, e, hS, ⟨hm, hmb, hN⟩, q⟩ := h
  exact ⟨r, m, N, G, e, hS, ⟨hm, Int.lt_trans hmb (by decide), hN⟩, q⟩
theorem cal_drawW (D : DefAt K mg "_law_draw" s_law_draw ["rng", "limit"]) (B : Bt mg) : Cal P w K mg base 1 "_law_draw" spDrawW [] := by
  refine D.cal sc_law_draw (fun vs H Q E h => ?_) (fun f cdv A outer s H vs Q E hr h => ?_)
  · obtain ⟨r, m, N, G, rfl, _⟩ := h
    rfl
  · obtain ⟨r, m, N, G, rfl, hS, ⟨hm, hmb, hN⟩, q⟩ := h
    obtain ⟨a, b, c, gr, a0, b0, b1, c0, c1⟩ := id hS.inv
    have cm : CDivW a m := ⟨hm, Nat.lt_trans ((show Sm 1000 m by unfold Sm; omega).lg (by decide)) (by decide)⟩
    refine ⟨_, (pss_cons (ps_if (pt_cmpR op_gt (pe_ix (ix_listK (K := K)) (pv 0) pe_int (fun _ _ => rfl)) pe_int (nomark _)) (pss_cons (ps_set (i := 2) sc_law_draw.nd rfl (Or.inl rfl) (pe_op op_mod (pe_ix (ix_listK (K := K)) (pv 0) pe_int (fun _ _ => rfl)) (pv 1)))
  (pss_cons (ps_asg (pe_op op_fdivW (pe_ix (ix_listK (K := K)) (pv 0) pe_int (fun _ _ => rfl)) (pv 1)) (pg_sub (pv 0) pe_int set_list))
  (pss_one (ps_ret (pv 2))))) pss_nil)
  (pss_cons (ps_asg (pe_op op_add (pe_ix (ix_listK (K := K)) (pv 0) pe_int (fun _ _ => rfl)) pe_int) (pg_sub (pv 0) pe_int set_list))
  (pss_cons (ps_set (i := 3) sc_law_draw.nd rfl (Or.inl rfl) (pe_op op_mod (pe_op op_powW (pe_op op_add (pe_ix (ix_listK (K := K)) (pv 0) pe_int (fun _ _ => rfl)) (pe_op op_mulW pe_int (pe_ix (ix_listK (K := K)) (pv 0) pe_int (fun _ _ => rfl)))) pe_int) pe_int))
  (pss_cons (ps_set (i := 3) sc_law_draw.nd rfl (Or.inl rfl) (pe_op op_mod (pe_op op_powW (pe_op op_add (pv 3) (pe_op op_mulW pe_int (pe_ix (ix_listK (K := K)) (pv 0) pe_int (fun _ _ => rfl)))) pe_int) pe_int))
  (pss_one (ps_ret (pe_op op_mod (pe_op op_fdivW (pv 3) pe_int) (pv 1)))))))), ?_⟩
    have k1 : Sm 62 (c + 1) := by unfold Sm; omega
    have k2 : Sm 30 (998244353) := by unfold Sm; decide
    have k3 : Sm 25 (32452843) := by unfold Sm; decide
    have w1 : CMulW (998244353) (c + 1) := k2.wide k1 (by decide) (by decide) (by decide)
    have w2 : CMulW (32452843) (c + 1) := k3.wide k1 (by decide) (by decide) (by decide)
    have s1 : Sm 101 (b + 998244353 * (c + 1)) := (show Sm 100 b by unfold Sm; omega).add ((k2.mul k1).mono (by decide))
    have p1 : CPowW (b + 998244353 * (c + 1)) 3 := pow_ok s1 (by decide) (by decide) (by decide) (by decide)
    have p2 : ∀ y : Int, CPowW (y % 162259276829213363391578010288127 + 32452843 * (c + 1)) 3 := fun y => by
      have y0 := Int.emod_nonneg y (show (162259276829213363391578010288127 : Int) ≠ 0 by decide)
      have y1 := Int.emod_lt_of_pos y (show (0 : Int) < 162259276829213363391578010288127 by decide)
      exact pow_ok ((show Sm 107 (y % 162259276829213363391578010288127) by unfold Sm; omega).add ((k3.mul k1).mono (by decide))) (by decide) (by decide) (by decide) (by decide)
    have p3 := p2 ((b + 998244353 * (c + 1)) ^ (3 : Int).toNat)
    have v0 : ∀ y : Int, 0 ≤ y % m := fun y => Int.emod_nonneg y (show m ≠ 0 by omega)
    have v1 : ∀ y : Int, y % m < m := fun y => Int.emod_lt_of_pos y hm
    walk_at "sq go"
    refine ifD (fun h => ?_) (fun h => ?_)
    · walk_at "sq go"
      exact q _ _ (v0 _) (v1 _) (Sep3.redo hS ⟨a / m, b, c, upd_same, Int.ediv_nonneg a0 (by omega), b0, b1, c0, by omega⟩)
    · walk_at "sq go"
      exact q _ _ (v0 _) (v1 _) (Sep3.redo hS ⟨a, b, c + 1, upd_same, a0, b0, b1, by omega, by omega⟩)

abbrev s_law_rng : Stmt := topS 24
theorem sc_law_rng : FnScope ["script", "digits", "seed", "cell", "far"] ["script"] (defScope s_law_rng) := ⟨rfl, rfl, rfl, by decide +kernel, rfl, by decide +kernel, by decide +kernel⟩

def spRng (K : PySem.W.Frag) : Sp := fun vs H Q _ => ∃ (p : Addr) (ns : List Int), vs = [.ref p] ∧ SqL K H p (iv ns) ∧ Keep True ∧ ∀ r H', Same H H' → Sep (rg3 r 0) H H' → Q (.ref r) H'
theorem cal_rng (D : DefAt K mg "_law_rng" s_law_rng ["script"]) (B : Bt mg) : Cal P w K mg base 1 "_law_rng" (spRng K) [] := by
  refine D.cal sc_law_rng (fun vs H Q E h => ?_) (fun f cdv A outer s H vs Q E hr h => ?_)
  · obtain ⟨p, ns, rfl, _⟩ := h
    rfl
  · obtain ⟨p, ns, rfl, hS, _, q⟩ := h
    refine ⟨_, (pss_cons (ps_asg (pe_tup (pa_cons pe_int (pa_cons pe_int pa_nil))) (pg_tupK (K := K) (n := 2) rfl (pgs_cons (pg_name (i := 1) sc_law_rng.nd rfl (Or.inl rfl)) (pgs_cons (pg_name (i := 2) sc_law_rng.nd rfl (Or.inl rfl)) pgs_nil))))
  (pss_cons (ps_for PassesOwn.never rfl (pi_listK (K := K) (pe_slice (sl_listK (K := K)) (pv 0) po_none (po_some pe_int))) (pg_name (i := 3) sc_law_rng.nd rfl (Or.inl rfl))
   (pss_cons (ps_set (i := 4) sc_law_rng.nd rfl (Or.inl rfl) (pe_callB call_abs (by rfl) B.abs (by decide +kernel) (pa_cons (pv 3) pa_nil)))
  (pss_cons (ps_if (pt_cmpR op_ge (pv 4) (pe_op op_powW pe_int pe_int) (nomark _)) (pss_one (ps_set (i := 1) sc_law_rng.nd rfl (Or.inl rfl) (pe_op op_add (pe_op op_mulW (pv 1) (pe_op op_powW pe_int pe_int)) (pe_op op_mod (pv 4) (pe_op op_powW pe_int pe_int))))) pss_nil)
  (pss_one (ps_set (i := 2) sc_law_rng.nd rfl (Or.inl rfl) (pe_op op_mod (pe_op op_add (pe_op op_add (pe_op op_mulW (pv 2) pe_int) (pe_op op_mod (pv 3) pe_int)) pe_int) pe_int))))))
  (pss_one (ps_ret (pe_lst (pa_cons (pv 1) (pa_cons (pv 2) (pa_cons pe_int pa_nil)))))))), ?_⟩
    walk_at "sq go"
    intro T nT
    have sT := same_new (o := .tup [.int 0, .int 88675123]) nT
    have hST := sT.seq hS
    generalize hHT : upd H T (.tup [.int 0, .int 88675123]) = HT at sT hST
    have hTT : HT T = some (.tup [.int 0, .int 88675123]) := by rw [← hHT, upd_same]
    clear hHT
    walk_at "sq go"
    intro l nl
    have e63 : cutV (iv ns) none (some 63) = iv (ns.take 63) := by
      rw [show (63 : Int) = ((63 : Nat) : Int) from rfl, cut_to, iv_take]
    rw [e63]
    have len : (ns.take 63).length ≤ 63 := by
      rw [List.length_take]
      omega
    generalize ns.take 63 = ms at len ⊢
    have sl := same_new (o := .lst (iv ms)) nl
    have hl4 : SqL K (upd HT l (.lst (iv ms))) l (iv ms) := seqL_of upd_same
    walk_at "sq go"
    refine for_list (K := K) (a := l) (xs := iv ms) (fun i σ H' => Keep (∃ d s x y, σ = [some (.ref p), some (.int d), some (.int s), x, y] ∧ H' = upd HT l (.lst (iv ms)) ∧ 0 ≤ d ∧ Sm (201 * i + 10) d ∧ 0 ≤ s ∧ s < 2 ^ 61)) ⟨0, 88675123, none, none, rfl, rfl, by decide, by unfold Sm; decide, by decide, by decide⟩ (fun i σ H' _ h => ?_) (fun i x σ H' hx h => ?_) (fun σ H' h => ?_)
    · obtain ⟨_, _, _, _, _, rfl, _⟩ := h.o
      exact hl4
    · obtain ⟨d, sd, x1, y1, rfl, rfl, d0, dS, s0, s1⟩ := h.o
      have lt := (List.getElem?_eq_some_iff.mp hx).1
      rw [iv_len] at lt
      obtain ⟨c, hk, rfl⟩ := iv_get hx
      have t60 : Sm 200 ((10 : Int) ^ (60 : Int).toNat) := by unfold Sm; decide
      have wm : CMulW d (10 ^ (60 : Int).toNat) := dS.wide t60 (by omega) (by decide) (by omega)
      have wd : ∀ z : Int, CDivW z (10 ^ (60 : Int).toNat) := fun z => div_ok (by decide) (by decide)
      walk_at "sq go"
      have ws : CMulW sd 1000003 := Sm.wide (a := 61) (b := 20) (by unfold Sm; omega) (by unfold Sm; decide) (by decide) (by decide) (by decide)
      have y0 := fun y : Int => Int.emod_nonneg y (show (2305843009213693951 : Int) ≠ 0 by decide)
      have y1 := fun y : Int => Int.emod_lt_of_pos y (show (0 : Int) < 2305843009213693951 by decide)
      have z0 := fun y : Int => Int.emod_nonneg y (show ((10 : Int) ^ (60 : Int).toNat) ≠ 0 by decide)
      have z1 := fun y : Int => Int.emod_lt_of_pos y (show (0 : Int) < (10 : Int) ^ (60 : Int).toNat by decide)
      have zS : ∀ y : Int, Sm 200 (y % (10 : Int) ^ (60 : Int).toNat) := fun y => Sm.le t60 (z0 y) (Int.le_of_lt (z1 y))
      refine ifD (fun cb => ?_) (fun cb => ?_)
      · walk_at "sq go"
        refine ⟨_, _, _, _, rfl, rfl, ?_, ?_, y0 _, Int.lt_of_lt_of_le (y1 _) (by decide)⟩
        · exact Int.add_nonneg (Int.mul_nonneg d0 (by decide)) (z0 _)
        · have a1 := (dS.mul t60).add ((zS (if c < 0 then -c else c)).mono (show 200 ≤ 201 * i + 10 + 200 by omega))
          refine Sm.mono ?_ (show 201 * i + 10 + 200 + 1 ≤ 201 * (i + 1) + 10 by omega)
          trace_state
          exact a1
      · walk_at "sq go"
        exact ⟨_, _, _, _, rfl, rfl, d0, dS.mono (by omega), y0 _, Int.lt_of_lt_of_le (y1 _) (by decide)⟩
    · obtain ⟨d, sd, x1, y1, rfl, rfl, d0, dS, s0, s1⟩ := h.o
      walk_at "sq go"
      intro r nr
      have s2 := sT.trans sl
      have nr2 := s2.free nr
      exact q r _ (s2.trans (same_new nr)) ⟨⟨_, _, _, upd_same, d0, s0, by omega, by decide, by decide⟩, s2.trans (same_new nr), fun x hx => by rw [show x = r from hx]; exact nr2⟩

abbrev s_law_list : Stmt := topS 26
theorem sc_law_list : FnScope ["rng", "most", "greatest", "found", "kind", "turn", "some"] ["rng", "most", "greatest"] (defScope s_law_list) := ⟨rfl, rfl, rfl, by decide +kernel, rfl, by decide +kernel, by decide +kernel⟩

/-- replacements from 2 to wide -/
def Row (ns : List Int) (wide : Int) : Prop := ∀ k ∈ ns, (2 : Int) ≤ k ∧ k ≤ wide
theorem Row.two {ns : List Int} {w : Int} (h : Row ns w) : Two ns := fun k hk => (h k hk).1
theorem Row.mid {ns : List Int} {w : Int} (h : Row ns w) (hw : w < 2 ^ 240) : Mid ns := fun k hk => ⟨(h k hk).1, Int.lt_of_le_of_lt (h k hk).2 hw⟩
theorem Row.cons {ns : List Int} {w v : Int} (h : Row ns w) (v2 : 2 ≤ v) (vw : v ≤ w) : Row (v :: ns) w := fun k hk => by
  rcases List.mem_cons.mp hk with rfl | z
  · exact ⟨v2, vw⟩
  · exact h k z
theorem pick2 {a b : V} {w : Int} (h0 : 0 ≤ w) (h1 : w < 2) : ∃ v, atI [a, b] w = some v ∧ (v = a ∨ v = b) := by
  rcases (show w = 0 ∨ w = 1 by omega) with z | z <;> rw [z]
  · exact ⟨a, atI_nat (j := 0) rfl, .inl rfl⟩
  · exact ⟨b, atI_nat (j := 1) rfl, .inr rfl⟩
theorem pick4 {a b c d : Int} {w : Int} {P : Int → Prop} (h0 : 0 ≤ w) (h1 : w < 4) (pa : P a) (pb : P b) (pc : P c) (pd : P d) : ∃ v, atI [V.int a, .int b, .int c, .int d] w = some (.int v) ∧ P v := by
  rcases (show w = 0 ∨ w = 1 ∨ w = 2 ∨ w = 3 by omega) with z | z | z | z <;> rw [z]
  · exact ⟨a, atI_nat (j := 0) rfl, pa⟩
  · exact ⟨b, atI_nat (j := 1) rfl, pb⟩
  · exact ⟨c, atI_nat (j := 2) rfl, pc⟩
  · exact ⟨d, atI_nat (j := 3) rfl, pd⟩
theorem same_upd {G G' : Hp} {p : Addr} {u : HO} (h : Same G G') : Same (upd G p u) (upd G' p u) := fun b x e => by
  by_cases hb : b = p
  · rw [hb, upd_same] at e ⊢
    exact e
  · rw [upd_ne hb] at e ⊢
    exact h b x e
def spList4 : Sp := fun vs H Q _ => ∃ (r : Addr) (most great N : Int) (G : Hp), vs = [.ref r, .int most, .int great] ∧ Sep (rg3 r N) G H ∧ Keep (0 ≤ most ∧ most ≤ 100 ∧ 2 ≤ great ∧ great < 2 ^ 100 ∧ N < 2 ^ 59) ∧
  ∀ p ns H', G p = none → ns.length ≤ most.toNat → Row ns (great + 5) → Sep (rg3 r (N + 10 * most + 10)) (upd G p (.lst (iv ns))) H' → Q (.ref p) H'
theorem cal_list4 (D : DefAt K mg "_law_list" s_law_list ["rng", "most", "greatest"]) (B : Bt mg) (c_law_draw : Cal P w K mg base 1 "_law_draw" spDraw3 []) : Cal P w K mg base 2 "_law_list" spList4 [] := by
  refine D.cal sc_law_list (fun vs H Q E h => ?_) (fun f cdv A outer s H vs Q E hr h => ?_)
  · obtain ⟨r, most, great, N, G, rfl, _⟩ := h
    rfl
  · obtain ⟨r, most, great, N, G, rfl, hS, ⟨m0, m1, f2, fb, hN⟩, q⟩ := h
    refine ⟨_, (pss_cons (ps_par (i := 3) (j := 4) rfl sc_law_list.nd rfl rfl (by decide) rfl rfl (pa_cons (pe_lst pa_nil) (pa_cons (pe_c c_law_draw hr (by first | decide | omega) (by rfl) (pa_cons (pv 0) (pa_cons pe_int pa_nil))) pa_nil)) (by rfl))
  (pss_cons (ps_for PassesOwn.never rfl (pi_range1 (by rfl) B.range (pa_cons (pe_c c_law_draw hr (by first | decide | omega) (by rfl) (pa_cons (pv 0) (pa_cons (pe_op op_add (pv 1) pe_int) pa_nil))) pa_nil)) (pg_name (i := 5) sc_law_list.nd rfl (Or.inl rfl))
   (pss_cons (ps_set (i := 6) sc_law_list.nd rfl (Or.inl rfl) (pe_lst (pa_cons (pe_op op_add pe_int (pe_c c_law_draw hr (by first | decide | omega) (by rfl) (pa_cons (pv 0) (pa_cons pe_int pa_nil)))) (pa_cons (pe_ix (ix_listK (K := K)) (pe_op op_cat (pv 3) (pe_lst (pa_cons pe_int pa_nil))) pe_int (fun _ _ => rfl)) (pa_cons (pe_callB (call_max2 rfl) (by rfl) B.max (by decide +kernel) (pa_cons pe_int (pa_cons (pe_op op_sub (pv 2) (pe_c c_law_draw hr (by first | decide | omega) (by rfl) (pa_cons (pv 0) (pa_cons pe_int pa_nil)))) pa_nil))) pa_nil)))))
  (pss_cons (ps_expr (pe_bm PySem.F.plainAttrs_list PySem.F.slot_list_append PySem.F.type_list_append mt_append (pv 6) (pa_cons (pe_op op_add pe_int (pe_c c_law_draw hr (by first | decide | omega) (by rfl) (pa_cons (pv 0) (pa_cons (pe_op op_sub (pv 2) pe_int) pa_nil)))) pa_nil)))
  (pss_one (ps_expr (pe_bm PySem.F.plainAttrs_list PySem.F.slot_list_insert PySem.F.type_list_insert mt_insert (pv 3) (pa_cons pe_int (pa_cons (pe_ix (ix_listK (K := K)) (pv 6) (pe_ix (ix_listK (K := K)) (pe_lst (pa_cons (pv 4) (pa_cons (pe_c c_law_draw hr (by first | decide | omega) (by rfl) (pa_cons (pv 0) (pa_cons pe_int pa_nil))) pa_nil))) (pe_c c_law_draw hr (by first | decide | omega) (by rfl) (pa_cons (pv 0) (pa_cons pe_int pa_nil))) (fun _ _ => rfl)) (fun _ _ => rfl)) pa_nil))))))))
  (pss_one (ps_ret (pv 3))))), ?_⟩
    walk_at "sq go"
    intro p np
    have gp := hS.free np
    have hS1 := hS.new np (.lst [])
    walk_at "sq go"
    refine ⟨⟨by omega, by omega, by omega⟩, fun kind H1 k0 k1 hS2 => ?_⟩
    walk_at "sq go"
    refine ⟨⟨by omega, by omega, by omega⟩, fun tn H2 t0 t1 hS3 => ?_⟩
    walk_at "sq go"
    refine for_range (lo := 0) (n := tn.toNat) (fun i σ H' => Keep (∃ ns x y, σ = [some (.ref r), some (.int most), some (.int great), some (.ref p), some (.int kind), x, y] ∧ Sep (rg3 r (N + 2 + 6 * i)) (upd G p (.lst (iv ns))) H' ∧ ns.length = i ∧ Row ns (great + 5)))
      ⟨[], none, none, rfl, Sep3.mono hS3 (by omega), rfl, fun k z => nomatch z⟩ (fun i σ H' hi h => ?_) (fun σ H' h => ?_)
    · obtain ⟨ns, x, y, rfl, hs, hl, hrow⟩ := h.o
      walk_at "sq go"
      refine ⟨⟨by decide, by decide, by omega⟩, fun a1 H3 a0 a4 hs1 => ?_⟩
      have hp1 := hs1.get upd_same
      walk_at "sq go"
      intro e1 ne1
      have hp2 := upd_keep (o := .lst [.int 2]) ne1 hp1
      have hs2 := hs1.on (same_new (o := .lst [.int 2]) ne1)
      obtain ⟨v0, ev0, v02, v0g⟩ : ∃ v, atI (iv ns ++ [.int 2]) 0 = some (.int v) ∧ 2 ≤ v ∧ v ≤ great + 5 := by
        cases ns with
        | nil => exact ⟨2, atI_nat (j := 0) rfl, by omega, by omega⟩
        | cons k r => exact ⟨k, atI_nat (j := 0) rfl, (hrow k (List.mem_cons_self ..)).1, (hrow k (List.mem_cons_self ..)).2⟩
      have lns : (iv ns).length = ns.length := iv_len _
      walk_at "sq go"
      intro e2 ne2
      have hs3 := hs2.on (same_new (o := .lst (iv ns ++ [.int 2])) ne2)
      have he2 : upd (upd H3 e1 (.lst [.int 2])) e2 (.lst (iv ns ++ [.int 2])) e2 = some (.lst (iv ns ++ [.int 2])) := upd_same
      walk_at "sq go"
      refine ⟨⟨by decide, by decide, by omega⟩, fun a2 H4 a20 a23 hs4 => ?_⟩
      walk_at "sq go"
      intro S nS
      have gS := hs4.free nS
      have npS : p ≠ S := fun z => by
        rw [← z, upd_same] at gS
        cases gS
      obtain ⟨v2, ev2, v22, v2g⟩ : ∃ v, (if great - a2 > 2 then great - a2 else 2) = v ∧ 2 ≤ v ∧ v ≤ great + 5 := ⟨_, rfl, by split <;> omega, by split <;> omega⟩
      rw [ev2]
      have hs5 := hs4.new nS (.lst [.int (2 + a1), .int v0, .int v2])
      have gSv : upd (upd G p (.lst (iv ns))) S (.lst [.int (2 + a1), .int v0, .int v2]) S = some (.lst [.int (2 + a1), .int v0, .int v2]) := upd_same
      have hSv := hs5.get gSv
      walk_at "sq go"
      refine ⟨⟨by omega, by omega, by omega⟩, fun a3 H5 a30 a3g hs6 => ?_⟩
      have hS6 := hs6.get gSv
      have hs7 := hs6.put gSv (.lst [.int (2 + a1), .int v0, .int v2, .int (2 + a3)])
      rw [upd_upd] at hs7
      have gS7 : upd (upd G p (.lst (iv ns))) S (.lst [.int (2 + a1), .int v0, .int v2, .int (2 + a3)]) S = some (.lst [.int (2 + a1), .int v0, .int v2, .int (2 + a3)]) := upd_same
      have hp7 := hs7.get (upd_off (o := .lst [.int (2 + a1), .int v0, .int v2, .int (2 + a3)]) npS upd_same)
      walk_at "sq go"
      refine ⟨⟨by decide, by decide, by omega⟩, fun a5 H6 a50 a54 hs8 => ?_⟩
      walk_at "sq go"
      intro e3 ne3
      have ge3 := hs8.free ne3
      have hs9 := hs8.new ne3 (.lst [.int kind, .int a5])
      walk_at "sq go"
      refine ⟨⟨by decide, by decide, by omega⟩, fun a6 H7 a60 a62 hs10 => ?_⟩
      have he3 : H7 e3 = some (.lst [.int kind, .int a5]) := hs10.get upd_same
      obtain ⟨ix, eix, ix0, ix4⟩ : ∃ v, atI [V.int kind, V.int a5] a6 = some (.int v) ∧ 0 ≤ v ∧ v < 4 := by
        obtain ⟨v, e, z⟩ := pick2 (a := V.int kind) (b := V.int a5) a60 a62
        rcases z with rfl | rfl
        · exact ⟨kind, e, k0, k1⟩
        · exact ⟨a5, e, a50, a54⟩
      have hs11 := hs10.weak (same_new (o := .lst [.int kind, .int a5]) ge3)
      have hS11 := hs11.get gS7
      have hp11 := hs11.get (upd_off (o := .lst [.int (2 + a1), .int v0, .int v2, .int (2 + a3)]) npS upd_same)
      obtain ⟨v, ev, v2', vg⟩ := pick4 (a := 2 + a1) (b := v0) (c := v2) (d := 2 + a3) (w := ix) (P := fun v => 2 ≤ v ∧ v ≤ great + 5) ix0 ix4 ⟨by omega, by omega⟩ ⟨v02, v0g⟩ ⟨v22, v2g⟩ ⟨by omega, by omega⟩
      walk_at "sq go"
      have hs12 := hs11.put (upd_off (o := .lst [.int (2 + a1), .int v0, .int v2, .int (2 + a3)]) npS upd_same) (.lst (iv (v :: ns)))
      have w1 : Same (upd G p (.lst (iv (v :: ns)))) (upd (upd (upd G p (.lst (iv ns))) S (.lst [.int (2 + a1), .int v0, .int v2, .int (2 + a3)])) p (.lst (iv (v :: ns)))) := by
        have z := same_upd (p := p) (u := .lst (iv (v :: ns))) (same_new (o := .lst [.int (2 + a1), .int v0, .int v2, .int (2 + a3)]) gS)
        rw [upd_upd] at z
        exact z
      exact ⟨v :: ns, _, _, rfl, Sep3.mono (hs12.weak w1) (by omega), by simp [hl], hrow.cons v2' vg⟩
    · obtain ⟨ns, x, y, rfl, hs, hl, hrow⟩ := h.o
      walk_at "sq go"
      exact q p ns H' gp (by omega) hrow (Sep3.mono hs (by omega))

/-! ### check_list, of valid lists -/
abbrev s_check_list : Stmt := topS 18
theorem sc_check_list : FnScope ["replacements", "index", "replacement"] ["replacements"] (defScope s_check_list) := ⟨rfl, rfl, rfl, by decide +kernel, rfl, by decide +kernel, by decide +kernel⟩

def spCheckList (K : PySem.W.Frag) : Sp := fun vs H Q _ => ∃ (a : Addr) (ns : List Int), vs = [.ref a] ∧ SqL K H a (iv ns) ∧ Keep (Two ns) ∧ ∀ H', Same H H' → Q .non H'
theorem cal_check_list (D : DefAt K mg "check_list" s_check_list ["replacements"]) (B : Bt mg) : Cal P w K mg base 1 "check_list" (spCheckList K) [] := by
  refine D.cal sc_check_list (fun vs H Q E h => ?_) (fun f cdv A outer s H vs Q E hr h => ?_)
  · obtain ⟨a, ns, rfl, _⟩ := h
    rfl
  · obtain ⟨a, ns, rfl, hS, ⟨h2⟩, q⟩ := h
    refine ⟨_, (pss_one (ps_for PassesOwn.never rfl (pi_enumK (K := K) (by rfl) B.enumerate (pa_cons (pv 0) pa_nil)) (pg_tupK (K := K) (n := 2) rfl (pgs_cons (pg_name (i := 1) sc_check_list.nd rfl (Or.inl rfl)) (pgs_cons (pg_name (i := 2) sc_check_list.nd rfl (Or.inl rfl)) pgs_nil)))
   (pss_one (ps_if (pt_cmpR op_lt (pv 2) pe_int (nomark _)) (pss_one ps_never) pss_nil)))), ?_⟩
    walk_at "sq go"
    refine for_enum (K := K) (a := a) (xs := iv ns) (fun i σ H' => Keep (∃ x y, σ = [some (.ref a), x, y] ∧ Same H H')) ⟨none, none, rfl, .refl H⟩ (fun i σ H' h => ?_) (fun i x T σ H' hx h nT => ?_) (fun σ H' h => ?_)
    · obtain ⟨_, _, _, s⟩ := h.o
      exact s.seq hS
    · obtain ⟨y1, y2, rfl, s⟩ := h.o
      obtain ⟨n, hn, rfl⟩ := iv_get hx
      have hn2 := h2 n (List.mem_of_getElem? hn)
      walk_at "sq go"
      refine ifD (fun c => absurd c (by omega)) (fun c => ?_)
      exact ⟨_, _, rfl, s.trans (same_new nT)⟩
    · obtain ⟨y1, y2, rfl, s⟩ := h.o
      exact q H' s

/-! ### lengths of runs, of valid arguments -/
abbrev s_check_length : Stmt := topS 19
theorem sc_check_length : FnScope ["length"] ["length"] (defScope s_check_length) := ⟨rfl, rfl, rfl, by decide +kernel, rfl, by decide +kernel, by decide +kernel⟩

def spCheckLength : Sp := fun vs H Q _ => ∃ m : Int, vs = [.int m] ∧ Keep (0 ≤ m) ∧ Q .non H
theorem cal_check_length (D : DefAt K mg "check_length" s_check_length ["length"]) (B : Bt mg) : Cal P w K mg base 1 "check_length" spCheckLength [] := by
  refine D.cal sc_check_length (fun vs H Q E h => ?_) (fun f cdv A outer s H vs Q E hr h => ?_)
  · obtain ⟨m, rfl, _⟩ := h
    rfl
  · obtain ⟨m, rfl, ⟨h1⟩, q⟩ := h
    refine ⟨_, (pss_one (ps_if (pt_cmpR op_lt (pv 0) pe_int (nomark _)) (pss_one ps_never) pss_nil)), ?_⟩
    walk_at "sq go"
    exact ifD (fun c => absurd c (by omega)) (fun c => q)
abbrev s_squeezed_once : Stmt := topS 20
theorem sc_squeezed_once : FnScope ["length", "replacement"] ["length", "replacement"] (defScope s_squeezed_once) := ⟨rfl, rfl, rfl, by decide +kernel, rfl, by decide +kernel, by decide +kernel⟩

def spSqOnce : Sp := fun vs H Q _ => ∃ n k : Int, vs = [.int n, .int k] ∧ Keep (2 ≤ k ∧ k < 2 ^ 240) ∧ Q (.int (once n k)) H
theorem cal_squeezed_once (D : DefAt K mg "squeezed_once" s_squeezed_once ["length", "replacement"]) (B : Bt mg) : Cal P w K mg base 1 "squeezed_once" spSqOnce [] := by
  refine D.cal sc_squeezed_once (fun vs H Q E h => ?_) (fun f cdv A outer s H vs Q E hr h => ?_)
  · obtain ⟨n, k, rfl, _⟩ := h
    rfl
  · obtain ⟨n, k, rfl, ⟨h2, hb⟩, q⟩ := h
    refine ⟨_, (pss_one (ps_ret (pe_op op_add (pe_op op_fdivW (pv 0) (pv 1)) (pe_op op_mod (pv 0) (pv 1))))), ?_⟩
    have c : CDivW n k := div_ok (by omega) hb
    walk_at "sq go"
    exact q
abbrev s_squeezed_by : Stmt := topS 21
theorem sc_squeezed_by : FnScope ["length", "replacements", "replacement"] ["length", "replacements"] (defScope s_squeezed_by) := ⟨rfl, rfl, rfl, by decide +kernel, rfl, by decide +kernel, by decide +kernel⟩

def spSqBy (K : PySem.W.Frag) : Sp := fun vs H Q _ => ∃ (n : Int) (p : Addr) (ns : List Int), vs = [.int n, .ref p] ∧ SqL K H p (iv ns) ∧ Keep (Mid ns) ∧ Q (.int (sqz n ns)) H
theorem cal_squeezed_by (D : DefAt K mg "squeezed_by" s_squeezed_by ["length", "replacements"]) (B : Bt mg) (c_squeezed_once : Cal P w K mg base 1 "squeezed_once" spSqOnce []) : Cal P w K mg base 2 "squeezed_by" (spSqBy K) [] := by
  refine D.cal sc_squeezed_by (fun vs H Q E h => ?_) (fun f cdv A outer s H vs Q E hr h => ?_)
  · obtain ⟨n, p, ns, rfl, _⟩ := h
    rfl
  · obtain ⟨n, p, ns, rfl, hS, ⟨hm⟩, q⟩ := h
    refine ⟨_, (pss_cons (ps_for PassesOwn.never rfl (pi_listK (K := K) (pv 1)) (pg_name (i := 2) sc_squeezed_by.nd rfl (Or.inl rfl))
   (pss_one (ps_set (i := 0) sc_squeezed_by.nd rfl (Or.inl rfl) (pe_c c_squeezed_once hr (by first | decide | omega) (by rfl) (pa_cons (pv 0) (pa_cons (pv 2) pa_nil))))))
  (pss_one (ps_ret (pv 0)))), ?_⟩
    walk_at "sq go"
    refine for_list (K := K) (a := p) (xs := iv ns) (fun i σ H' => Keep (∃ x, σ = [some (.int (sqz n (ns.take i))), some (.ref p), x] ∧ H' = H)) ⟨none, rfl, rfl⟩ (fun i σ H' _ h => ?_) (fun i x σ H' hx h => ?_) (fun σ H' h => ?_)
    · obtain ⟨x, _, rfl⟩ := h.o
      exact hS
    · obtain ⟨x, rfl, rfl⟩ := h.o
      obtain ⟨k, hk, rfl⟩ := iv_get hx
      walk_at "sq go"
      refine ⟨⟨hm k (List.mem_of_getElem? hk)⟩, ?_⟩
      exact ⟨_, by rw [sqz_take hk]; rfl, rfl⟩
    · obtain ⟨x, rfl, rfl⟩ := h.o
      have e : (iv ns).length = ns.length := iv_len _
      rw [e, List.take_length]
      walk_at "sq go"
      exact q
abbrev s_squeezed : Stmt := topS 22
theorem sc_squeezed : FnScope ["length", "replacements"] ["length", "replacements"] (defScope s_squeezed) := ⟨rfl, rfl, rfl, by decide +kernel, rfl, by decide +kernel, by decide +kernel⟩

def spSq (K : PySem.W.Frag) : Sp := fun vs H Q _ => ∃ (n : Int) (p : Addr) (ns : List Int), vs = [.int n, .ref p] ∧ SqL K H p (iv ns) ∧ Keep (0 ≤ n ∧ Mid ns) ∧ ∀ H', Same H H' → Q (.int (sqz n ns)) H'
theorem cal_squeezed_p (D : DefAt K mg "squeezed" s_squeezed ["length", "replacements"]) (B : Bt mg) (c_check_length : Cal P w K mg base 1 "check_length" spCheckLength []) (c_check_list : Cal P w K mg base 1 "check_list" (spCheckList K) [])
    (c_squeezed_by : Cal P w K mg base 2 "squeezed_by" (spSqBy K) []) : Cal P w K mg base 3 "squeezed" (spSq K) [] := by
  refine D.cal sc_squeezed (fun vs H Q E h => ?_) (fun f cdv A outer s H vs Q E hr h => ?_)
  · obtain ⟨n, p, ns, rfl, _⟩ := h
    rfl
  · obtain ⟨n, p, ns, rfl, hS, ⟨h0, hm⟩, q⟩ := h
    refine ⟨_, (pss_cons (ps_expr (pe_c c_check_length hr (by first | decide | omega) (by rfl) (pa_cons (pv 0) pa_nil)))
  (pss_cons (ps_expr (pe_c c_check_list hr (by first | decide | omega) (by rfl) (pa_cons (pv 1) pa_nil)))
  (pss_one (ps_ret (pe_c c_squeezed_by hr (by first | decide | omega) (by rfl) (pa_cons (pv 0) (pa_cons (pv 1) pa_nil))))))), ?_⟩
    walk_at "sq go"
    refine ⟨⟨h0⟩, ?_⟩
    walk_at "sq go"
    refine ⟨⟨hm.two⟩, fun H1 s1 => ?_⟩
    have hS1 := s1.seq hS
    walk_at "sq go"
    exact ⟨⟨hm⟩, q H1 s1⟩

/-! ### lists shown -/
structure TxC (mg : Str → Option Value) : Prop where
  sep : ∃ u, mg "SEPARATOR" = some u ∧ L2.RelV (.str ", ") u
  pow : ∃ u, mg "POWER" = some u ∧ L2.RelV (.str "^") u
  non : ∃ u, mg "NO_REPLACEMENTS" = some u ∧ L2.RelV (.str "none") u
theorem s_sep : (", " : Str) = SX.S [44, 32] := by decide +kernel
theorem s_pow : ("^" : Str) = SX.S [94] := by decide +kernel
theorem s_none : ("none" : Str) = SX.S noneL := by decide +kernel
theorem s_num {k : Int} (h : 0 ≤ k) : Str.ofString (toString k) = SX.S (TL.numL k.toNat) := by
  obtain ⟨n, rfl⟩ := Int.eq_ofNat_of_zero_le h
  exact SX.num_S n
abbrev s_equal_neighbours : Stmt := topS 9
theorem sc_equal_neighbours : FnScope ["replacements", "found", "replacement"] ["replacements"] (defScope s_equal_neighbours) := ⟨rfl, rfl, rfl, by decide +kernel, rfl, by decide +kernel, by decide +kernel⟩

def spEqN (K : PySem.W.Frag) : Sp := fun vs H Q _ => ∃ (p : Addr) (ns : List Int), vs = [.ref p] ∧ SqL K H p (iv ns) ∧ Keep (ns.length ≤ 5000000) ∧ ∀ l H', Same H H' → H l = none → Prs H' l (grp ns) → Q (.ref l) H'
theorem cal_equal (D : DefAt K mg "equal_neighbours" s_equal_neighbours ["replacements"]) (B : Bt mg) : Cal P w K mg base 1 "equal_neighbours" (spEqN K) [] := by
  refine D.cal sc_equal_neighbours (fun vs H Q E h => ?_) (fun f cdv A outer s H vs Q E hr h => ?_)
  · obtain ⟨p, ns, rfl, _⟩ := h
    rfl
  · obtain ⟨p, ns, rfl, hS, ⟨len⟩, q⟩ := h
    refine ⟨_, (pss_cons (ps_set (i := 1) sc_equal_neighbours.nd rfl (Or.inl rfl) (pe_lst pa_nil))
  (pss_cons (ps_for PassesOwn.never rfl (pi_listK (K := K) (pv 0)) (pg_name (i := 2) sc_equal_neighbours.nd rfl (Or.inl rfl))
   (pss_one (ps_if (PW.pt (pw_and (pt_cmpR (op_neDK (K := K) hr.units) (pv 1) (pe_lst pa_nil) (nomark _)) (pw_and1 (pt_cmpR op_eq (pe_ix (ix_tupK (K := K)) (pe_ix (ix_listK (K := K)) (pv 1) (pe_un un_neg pe_int) (fun _ _ => rfl)) pe_int (fun _ _ => rfl)) (pv 2) (nomark _))))) (pss_one (ps_asg (pe_tup (pa_cons (pv 2) (pa_cons (pe_op op_add (pe_ix (ix_tupK (K := K)) (pe_ix (ix_listK (K := K)) (pv 1) (pe_un un_neg pe_int) (fun _ _ => rfl)) pe_int (fun _ _ => rfl)) pe_int) pa_nil))) (pg_sub (pv 1) (pe_un un_neg pe_int) set_list))) (pss_one (ps_expr (pe_bm PySem.F.plainAttrs_list PySem.F.slot_list_append PySem.F.type_list_append mt_append (pv 1) (pa_cons (pe_tup (pa_cons (pv 2) (pa_cons pe_int pa_nil))) pa_nil)))))))
  (pss_one (ps_ret (pv 1))))), ?_⟩
    walk_at "sq go"
    intro l nl
    have hS0 := (same_new (o := .lst []) nl).seq hS
    walk_at "sq go"
    refine for_list (K := K) (a := p) (xs := iv ns) (fun i σ H' => Keep (∃ x, σ = [some (.ref p), some (.ref l), x] ∧ Same H H' ∧ Prs H' l (grp (ns.take i)))) ⟨none, rfl, same_new nl, [], upd_same, rfl, fun i t p h => by simp at h⟩ (fun i σ H' _ h => ?_) (fun i x σ H' hx h => ?_) (fun σ H' h => ?_)
    · obtain ⟨x, _, s1, _⟩ := h.o
      exact s1.seq hS
    · obtain ⟨x, rfl, s1, pr⟩ := h.o
      obtain ⟨k, hk, rfl⟩ := iv_get hx
      have li : i < 5000000 := by
        have := (List.getElem?_eq_some_iff.mp hk).1
        omega
      have e1 : grp (ns.take (i + 1)) = grpS (grp (ns.take i)) k := by
        rw [List.take_add_one, hk]
        exact grp_snoc _ _
      have lg : (grp (ns.take i)).length ≤ 5000000 := by
        have := grp_len (ns.take i)
        rw [List.length_take] at this
        omega
      have step : ∀ {H1 : Hp}, Same H' H1 → ∀ b o, b ≠ l → H' b = some o → H1 b = some o := fun s b o _ e => s b o e
      walk_at "sq go"
      intro e ne
      have pr1 := pr.same (same_new (o := .lst []) ne)
      refine r_nePs pr1 (seqL_of upd_same) ?_
      have nn1 : ∀ {G : Hp} {a b : Addr} {u : HO}, G a = none → G b = some u → b ≠ a := fun h h2 z => by
        rw [z, h] at h2
        cases h2
      have sN : ∀ {H1 : Hp}, (∀ b o, b ≠ l → H' b = some o → H1 b = some o) → Same H H1 := fun kp b o e => kp b o (nn1 nl e) (s1 b o e)
      have lts : ∀ ts : List Addr, ts.length = (grp (ns.take i)).length → (ts.map V.ref).length < sizeLine := fun ts h => by
        rw [List.length_map, h]
        exact ltW lg
      walk_at "sq go"
      refine ifN (fun hne => ?_) (fun he => ?_)
      · obtain ⟨⟨a, c⟩, ea⟩ : ∃ z, (grp (ns.take i)).getLast? = some z := by
          cases ez : (grp (ns.take i)).getLast? with
          | none => exact absurd (List.getLast?_eq_none_iff.mp ez) hne
          | some z => exact ⟨z, rfl⟩
        obtain ⟨ts, t, j, hl, ix, at_, ht, fin⟩ := pr1.last ea
        walk_at "sq go"
        refine ifI (fun eq => ?_) (fun neq => ?_)
        · walk_at "sq go"
          intro T nT
          have hl2 := upd_keep (o := .tup [.int k, .int ((c : Int) + 1)]) nT hl
          walk_at "sq go"
          have nlT : T ≠ l := fun z => nn1 nT hl z.symm
          have keep : ∀ b o, b ≠ l → upd H' e (.lst []) b = some o → upd (upd (upd H' e (.lst [])) T (.tup [.int k, .int ((c : Int) + 1)])) l (.lst ((ts.map V.ref).set j (.ref T))) b = some o := fun b o n h => upd_off n (upd_keep nT h)
          refine ⟨_, rfl, sN fun b o n h => keep b o n (upd_keep ne h), ?_⟩
          rw [e1]
          have z := fin T k _ keep (upd_off nlT upd_same) upd_same
          unfold grpS
          rw [ea]
          simp only
          rw [if_pos eq, eq]
          exact z
        · obtain ⟨ts, hl, tl, fin⟩ := pr1.snoc (H' := H') (k := k)
          have lz := lts ts tl
          walk_at "sq go"
          intro T nT
          have nlT : T ≠ l := fun z => nn1 nT hl z.symm
          have hl2 := upd_keep (o := .tup [.int k, .int 1]) nT hl
          walk_at "sq go"
          have keep : ∀ b o, b ≠ l → upd H' e (.lst []) b = some o → upd (upd (upd H' e (.lst [])) T (.tup [.int k, .int 1])) l (.lst (ts.map V.ref ++ [.ref T])) b = some o := fun b o n h => upd_off n (upd_keep nT h)
          refine ⟨_, rfl, sN fun b o n h => keep b o n (upd_keep ne h), ?_⟩
          rw [e1]
          have z := fin T _ keep (upd_off nlT upd_same) upd_same
          unfold grpS
          rw [ea]
          simp only
          rw [if_neg neq]
          exact z
      · obtain ⟨ts, hl, tl, fin⟩ := pr1.snoc (H' := H') (k := k)
        have lz := lts ts tl
        walk_at "sq go"
        intro T nT
        have nlT : T ≠ l := fun z => nn1 nT hl z.symm
        have hl2 := upd_keep (o := .tup [.int k, .int 1]) nT hl
        walk_at "sq go"
        have keep : ∀ b o, b ≠ l → upd H' e (.lst []) b = some o → upd (upd (upd H' e (.lst [])) T (.tup [.int k, .int 1])) l (.lst (ts.map V.ref ++ [.ref T])) b = some o := fun b o n h => upd_off n (upd_keep nT h)
        refine ⟨_, rfl, sN fun b o n h => keep b o n (upd_keep ne h), ?_⟩
        rw [e1]
        have z := fin T _ keep (upd_off nlT upd_same) upd_same
        unfold grpS
        rw [he] at z ⊢
        exact z
    · obtain ⟨x, rfl, s1, pr⟩ := h.o
      walk_at "sq go"
      rw [iv_len, List.take_length] at pr
      exact q l H' s1 nl pr
/-- lists of texts -/
def dS (ws : List (List Nat)) : PyData := .list (ws.map fun w => .str (SX.S w))
theorem dpall_str {H : Hp} : ∀ ws : List (List Nat), DpAll K H (ws.map fun w => V.str (SX.S w)) (ws.map fun w => .str (SX.S w))
  | [] => .nil
  | n :: r => .cons (.str _) (dpall_str r)
theorem can_strs : ∀ ws : List (List Nat), (∀ w ∈ ws, PyData.strOk (SX.S w) = true) → PyData.canLayAll0 (ws.map fun w => .str (SX.S w)) = true
  | [], _ => by simp [PyData.canLayAll0]
  | w :: r, h => by simp [PyData.canLayAll0, PyData.canLay0, h w (List.mem_cons_self ..), can_strs r fun x hx => h x (List.mem_cons_of_mem _ hx)]
theorem dep_strs : ∀ ws : List (List Nat), PyData.depthAll (ws.map fun w => PyData.str (SX.S w)) = 0
  | [] => by simp [PyData.depthAll]
  | w :: r => by simp [PyData.depthAll, PyData.depth, dep_strs r]
theorem shaped_dS {ws : List (List Nat)} (h : ∀ w ∈ ws, PyData.strOk (SX.S w) = true) : SeqAt.shaped (dS ws) = true := by
  unfold SeqAt.shaped dS
  simp only [PyData.canLay0, can_strs ws h, PyData.depth, dep_strs]
  rfl
theorem r_neS0 {H : Hp} {l b : Addr} {ws : List (List Nat)} {Q : VK} (h1 : H l = some (.lst (ws.map fun w => V.str (SX.S w)))) (h2 : H b = some (.lst [])) (hk : ∀ w ∈ ws, PyData.strOk (SX.S w) = true) (q : Q (.bl (!decide (ws = []))) H) : rNeQ K (.ref l) (.ref b) H Q := by
  refine rNeQ_of ⟨dS ws, dI [], .lst (seqL_of h1) (dpall_str ws), dp_iv (seqL_of h2), shaped_dS hk, shaped_dI [], ?_⟩
  have e : PyData.eqv (dS ws) (dI []) = decide (ws = []) := by
    unfold dS dI
    cases ws with
    | nil => simp [PyData.eqv, PyData.eqvAll]
    | cons a r => simp [PyData.eqv, PyData.eqvAll]
  rw [e]
  exact q
local macro_rules | `(tactic| walk_at "sq side") => `(tactic| first
  | ((with_reducible show _ ≤ PySem.sizeLine); assumption)
  | ((with_reducible show _ < 1920); assumption))
theorem num_ok {n c : Nat} (h : c ∈ TL.numL n) : c < 0x110000 := by
  have := TL.numL_digits n c h
  omega
theorem strOk_S {a : List Nat} (h : ∀ c ∈ a, c < 0x110000) : PyData.strOk (SX.S a) = true := by
  unfold PyData.strOk
  rw [Array.all_eq_true_iff_forall_mem]
  intro c hc
  rw [decide_eq_true_eq]
  exact h c (by simpa using hc)
theorem wrd_ok (n t : Nat) : PyData.strOk (SX.S (wrd n t)) = true := strOk_S fun c hc => by
  unfold wrd at hc
  split at hc
  · simp only [List.mem_append, List.mem_cons] at hc
    rcases hc with z | z | z
    · exact num_ok z
    · omega
    · exact num_ok z
  · exact num_ok hc
theorem num_lg {k : Int} (h0 : 0 ≤ k) (h : k < 10 ^ 200) : k.natAbs.log2 < 1920 := Nat.lt_trans ((show Sm 700 k by unfold Sm; omega).lg (by decide)) (by decide)
abbrev s_show_list : Stmt := topS 10
theorem sc_show_list : FnScope ["replacements", "words", "number", "times"] ["replacements"] (defScope s_show_list) := ⟨rfl, rfl, rfl, by decide +kernel, rfl, by decide +kernel, by decide +kernel⟩

def spShow (K : PySem.W.Frag) : Sp := fun vs H Q _ => ∃ (p : Addr) (ns : List Int), vs = [.ref p] ∧ SqL K H p (iv ns) ∧ Keep (NiceW ns) ∧ ∀ H', Same H H' → Q (.str (SX.S (showL ns))) H'
theorem two_show (D : DefAt K mg "show_list" s_show_list ["replacements"]) (B : Bt mg) (tx : TxC mg) (c_equal_neighbours : Cal P w K mg base 1 "equal_neighbours" (spEqN K) []) : Def2 P w K mg base 2 "show_list" s_show_list ["replacements"] (spShow K) := by
  refine D.two sc_show_list (fun vs H Q E h => ?_) (fun f cdv A outer s H vs Q E hr h => ?_)
  · obtain ⟨p, ns, rfl, _⟩ := h
    rfl
  · obtain ⟨p, ns, rfl, hS, ⟨nice⟩, q⟩ := h
    obtain ⟨g_SEPARATOR, g_POWER, g_NO_REPLACEMENTS⟩ := tx
    refine ⟨_, (pss_cons (ps_set (i := 1) sc_show_list.nd rfl (Or.inl rfl) (pe_lst pa_nil))
  (pss_cons (ps_for PassesOwn.never rfl (pi_listK (K := K) (pe_c c_equal_neighbours hr (by first | decide | omega) (by rfl) (pa_cons (pv 0) pa_nil))) (pg_tupK (K := K) (n := 2) rfl (pgs_cons (pg_name (i := 2) sc_show_list.nd rfl (Or.inl rfl)) (pgs_cons (pg_name (i := 3) sc_show_list.nd rfl (Or.inl rfl)) pgs_nil)))
   (pss_one (ps_expr (pe_bm PySem.F.plainAttrs_list PySem.F.slot_list_append PySem.F.type_list_append mt_append (pv 1) (pa_cons (pe_op op_add_str (pe_callTy call_str_int (by rfl) B.str (by decide +kernel) (pa_cons (pv 2) pa_nil)) (pe_ifExp (pt_cmpR op_gt (pv 3) pe_int (nomark _)) (pe_op op_add_str (pe_gc (by rfl) g_POWER) (pe_callTy call_str_int (by rfl) B.str (by decide +kernel) (pa_cons (pv 3) pa_nil))) pe_str)) pa_nil)))))
  (pss_one (ps_ret (pe_ifExp (pt_cmpR (op_neDK (K := K) hr.units) (pv 1) (pe_lst pa_nil) (nomark _)) (pe_join (pe_gc (by rfl) g_SEPARATOR) (pv 1)) (pe_gc (by rfl) g_NO_REPLACEMENTS)))))), ?_⟩
    walk_at "sq go"
    intro W nW
    have sW := same_new (o := .lst []) nW
    have hS0 := sW.seq hS
    walk_at "sq go"
    refine ⟨⟨nice.2.1⟩, fun l H1 s1 nl pr => ?_⟩
    obtain ⟨ts, hl, tl, ht⟩ := id pr
    have hW1 : H1 W = some (.lst []) := s1 _ _ upd_same
    have nlW : l ≠ W := fun z => by
      rw [z, upd_same] at nl
      cases nl
    walk_at "sq go"
    have s2 := sW.trans s1
    refine for_list (K := K) (a := l) (xs := ts.map V.ref) (fun i σ H' => Keep (∃ x y, σ = [some (.ref p), some (.ref W), x, y] ∧ H' = upd H1 W (.lst (((wrds ns).take i).map fun w => .str (SX.S w))))) ⟨none, none, rfl, ?_⟩ (fun i σ H' _ h => ?_) (fun i x σ H' hx h => ?_) (fun σ H' h => ?_)
    · funext b
      by_cases hb : b = W
      · rw [hb, upd_same, hW1]
        rfl
      · rw [upd_ne hb]
    · obtain ⟨x, y, _, rfl⟩ := h.o
      exact seqL_of (upd_off nlW hl)
    · obtain ⟨x1, y1, rfl, rfl⟩ := h.o
      rw [List.getElem?_map] at hx
      obtain ⟨t, et, rfl⟩ := Option.map_eq_some_iff.mp hx
      have li := (List.getElem?_eq_some_iff.mp et).1
      have lg : i < (grp ns).length := by omega
      have ep := List.getElem?_eq_getElem lg
      generalize (grp ns)[i] = pq at ep
      obtain ⟨a, c⟩ := pq
      have htt : H1 t = some (.tup [.int a, .int ((c : Nat) : Int)]) := ht i t (a, c) et ep
      obtain ⟨⟨a2, a200⟩, c1, c500⟩ := nice.grp (a, c) (List.mem_of_getElem? ep)
      simp only at a2 a200 c1 c500
      have lga := num_lg (by omega) a200
      have lgc : ((c : Nat) : Int).natAbs.log2 < 1920 := num_lg (by omega) (by omega)
      have la := num_len (by omega) a200
      have lc := num_len7 c500
      have ewi : (wrds ns)[i]? = some (wrd a.toNat c) := by
        unfold wrds
        rw [List.getElem?_map, ep]
        rfl
      have eta : (((wrds ns).take (i + 1)).map fun w => V.str (SX.S w)) = (((wrds ns).take i).map fun w => V.str (SX.S w)) ++ [.str (SX.S (wrd a.toNat c))] := by
        rw [List.take_add_one, ewi, List.map_append]
        rfl
      have lacc : ((((wrds ns).take i).map fun w => V.str (SX.S w))).length < sizeLine := by
        rw [List.length_map, List.length_take]
        exact lt5 (by have := nice.words.2; omega)
      have ntW : t ≠ W := fun z => by
        rw [z, hW1] at htt
        cases htt
      have htW := upd_off (o := .lst (((wrds ns).take i).map fun w => .str (SX.S w))) ntW htt
      walk_at "sq go"
      refine ifD (fun c2 => ?_) (fun c2 => ?_)
      · have z1 : ("^" : Str).length + (Str.ofString (toString ((c : Nat) : Int))).length ≤ sizeLine := by
          rw [s_pow, s_num (by omega), SX.S_len, SX.S_len, sizeLine_eq, Int.toNat_natCast]
          show 1 + _ ≤ _
          omega
        have z2 : (Str.ofString (toString a)).length + (("^" : Str) ++ Str.ofString (toString ((c : Nat) : Int))).length ≤ sizeLine := by
          rw [s_pow, s_num (by omega), s_num (by omega), SX.S_cat, SX.S_len, SX.S_len, sizeLine_eq, Int.toNat_natCast, List.length_append]
          show _ + (1 + _) ≤ _
          omega
        walk_at "sq go"
        refine ⟨_, _, rfl, ?_⟩
        rw [upd_upd, eta, s_pow, s_num (by omega), s_num (by omega), SX.S_cat, SX.S_cat, Int.toNat_natCast]
        unfold wrd
        rw [if_pos (by omega)]
        rfl
      · have z2 : (Str.ofString (toString a)).length + ("" : Str).length ≤ sizeLine := by
          rw [s_num (by omega), SX.S_len, sizeLine_eq, show ("" : Str).length = 0 from by decide +kernel]
          omega
        walk_at "sq go"
        refine ⟨_, _, rfl, ?_⟩
        rw [upd_upd, eta, s_num (by omega), show ("" : Str) = SX.S [] from by decide +kernel, SX.S_cat, List.append_nil]
        unfold wrd
        rw [if_neg (by omega)]
    · obtain ⟨x1, y1, rfl, rfl⟩ := h.o
      walk_at "sq go"
      intro e ne
      have el : (ts.map V.ref).length = (wrds ns).length := by
        rw [List.length_map, tl]
        unfold wrds
        rw [List.length_map]
      rw [el, List.take_length] at ne ⊢
      have hk : ∀ w ∈ wrds ns, PyData.strOk (SX.S w) = true := fun w hw => by
        obtain ⟨pq, _, rfl⟩ := List.mem_map.mp hw
        exact wrd_ok _ _
      refine r_neS0 (upd_keep ne upd_same) upd_same hk ?_
      walk_at "sq go"
      have s3 : Same H (upd (upd H1 W (.lst ((wrds ns).map fun w => V.str (SX.S w)))) e (.lst [])) := fun b o h => upd_keep ne (by
        rw [upd_ne fun z => by rw [z, nW] at h; cases h]
        exact s2 b o h)
      refine ifN (fun hne => ?_) (fun he => ?_)
      · walk_at "sq go"
        have nn : ns ≠ [] := fun z => hne (by
          subst z
          rfl)
        obtain ⟨w1, w2⟩ := nice.words
        have sl := sum_le w1
        have ml := Nat.mul_le_mul_right 208 w2
        refine ⟨⟨_, rfl⟩, _, rfl, _, W, (wrds ns).map SX.S, rfl, rfl, .inl (seqL_of (upd_keep ne (by rw [List.map_map]; exact upd_same))), ?_, ?_⟩
        · rw [SX.lens, List.length_map, show (", " : Str).length = 2 from by decide +kernel]
          omega
        · rw [s_sep, SX.join_S]
          have z := q _ s3
          unfold showL at z
          rw [if_neg nn] at z
          exact z
      · have z := q _ s3
        have e0 : ns = [] := Classical.byContradiction fun z => wrds_ne z he
        unfold showL at z
        rw [if_pos e0, ← s_none] at z
        exact z

/-! ### any text read, also where it raises -/
structure RdC (mg : Str → Option Value) : Prop where
  dg : ∃ u, mg "DIGITS" = some u ∧ L2.RelV (.str "0123456789") u
  md : ∃ u, mg "MOST_DIGITS" = some u ∧ L2.RelV (.int 200) u
theorem s_digits : ("0123456789" : Str) = SX.S [48, 49, 50, 51, 52, 53, 54, 55, 56, 57] := by decide +kernel
theorem dig_in (c : Nat) : decide (c ∈ [48, 49, 50, 51, 52, 53, 54, 55, 56, 57]) = dig c := by
  unfold dig
  rw [Bool.eq_iff_iff, decide_eq_true_eq, Bool.and_eq_true, decide_eq_true_eq, decide_eq_true_eq]
  simp only [List.mem_cons, List.mem_nil_iff, or_false]
  omega
abbrev s_number_in : Stmt := topS 14
theorem sc_number_in : FnScope ["word", "sign"] ["word"] (defScope s_number_in) := ⟨rfl, rfl, rfl, by decide +kernel, rfl, by decide +kernel, by decide +kernel⟩

def spNumX : Sp := fun vs H Q _ => ∃ t : List Nat, vs = [.str (SX.S t)] ∧ Keep (t.length ≤ 5000 ∧ (numIn t = none → ∀ H', Same H H' → Q .non H') ∧ ∀ n, numIn t = some n → ∀ H', Same H H' → Q (.int ((n : Nat) : Int)) H')
theorem cal_number_in (D : DefAt K mg "number_in" s_number_in ["word"]) (B : Bt mg) (rd : RdC mg) : Cal P w K mg base 1 "number_in" spNumX [] := by
  refine D.cal sc_number_in (fun vs H Q E h => ?_) (fun f cdv A outer s H vs Q E hr h => ?_)
  · obtain ⟨n, rfl, _⟩ := h
    rfl
  · obtain ⟨t, rfl, ⟨len, q0, q1⟩⟩ := h
    obtain ⟨g_DIGITS, g_MOST_DIGITS⟩ := rd
    refine ⟨_, (pss_cons (ps_if (PW.pt (pw_or (pt_not (pt_chain op_le op_le pe_int (pe_callB call_len_str (by rfl) B.len boot_len (pa_cons (pv 0) pa_nil)) (pe_gc (by rfl) g_MOST_DIGITS))) (pw_or1 (pt_not (pt_val (pe_callB (cr_allK (K := K) rfl) (by rfl) B.all (by decide +kernel) (pa_cons (pe_lc (own := [("sign", 1)]) (g := gName 1) (by rfl) sc_number_in.nd (pi_str (pv 0)) (blkOk_by (own := [("sign", 1)]) (N := ["word", "sign"]) (sc := defScope s_number_in) (by decide +kernel)) (fun _ _ _ _ _ => (pg_name (i := 1) sc_number_in.nd rfl (Or.inl rfl))) (fun _ _ _ _ _ => pts_nil) (fun _ _ _ _ _ => (pe_cmpR op_in_str (pv 1) (pe_gc (by rfl) g_DIGITS) (by rfl)))) pa_nil))))))) (pss_one (ps_ret pe_non)) pss_nil)
  (pss_one (ps_ret (pe_callTy call_int_str (by rfl) B.int (by decide +kernel) (pa_cons (pv 0) pa_nil))))), ?_⟩
    have lS : (SX.S t).length = t.length := SX.S_len _
    walk_at "sq go"
    have none_if : ¬ (1 ≤ t.length ∧ t.length ≤ 200 ∧ t.all dig = true) → numIn t = none := fun z => if_neg z
    refine ifD (fun c1 => ?_) (fun c1 => ?_)
    · by_cases c2 : ((SX.S t).length : Int) ≤ 200
      · have d2 : decide (((SX.S t).length : Int) ≤ 200) = true := decide_eq_true c2
        walk_at "sq go"
        rw [d2]
        walk_at "sq go"
        intro D1 nD
        refine lc_it (walk_str (z := SX.S t)) (fun i H' => Keep (H' = upd H D1 (.lst ((t.take i).map fun c => V.bl (dig c))))) ⟨rfl⟩ (fun _ _ _ _ => trivial) (fun i x H1 H2 hi h hy => ?_) (fun H' h => ?_)
        · obtain rfl := h.o
          obtain ⟨rfl, c, hc, rfl⟩ := hy
          have hc2 : t[i]? = some c := by simpa using hc
          have hin : (!(Builtin.Str.occurrences ("0123456789" : Str) (SX.S [c]) 0 ("0123456789" : Str).length 1).isEmpty) = dig c := by
            rw [s_digits]
            exact (SX.in_one _ c).trans (dig_in c)
          have et : ((t.take i).map fun c => V.bl (dig c)) ++ [V.bl (dig c)] = (t.take (i + 1)).map fun c => V.bl (dig c) := by
            rw [List.take_add_one, hc2, List.map_append]
            rfl
          walk_at "sq go"
          rw [show (⟨#[c]⟩ : Str) = SX.S [c] from rfl, hin, upd_upd, et]
          exact ⟨rfl⟩
        · obtain rfl := h.o
          have el : (SX.S t).cps.size = t.length := SX.S_len _
          refine ⟨D1, t.map dig, rfl, seqL_of (by rw [upd_same, el, List.take_length, List.map_map]; rfl), ?_⟩
          rw [el, List.take_length]
          have sD := same_new (o := .lst (t.map fun c => V.bl (dig c))) nD
          have ea : (t.map dig).all id = t.all dig := by simp [List.all_map]
          refine ⟨(t.map dig).all id, rfl, ?_⟩
          rw [ea]
          cases hd : t.all dig with
          | true =>
            walk_at "sq go"
            have hn : numIn t = some (NumText.digitsVal t) := if_pos ⟨by omega, by omega, hd⟩
            refine ⟨SX.int_S hd (fun z => by subst z; exact absurd c1 (by decide)) (by omega), by rw [lS]; omega, q1 _ hn _ sD⟩
          | false =>
            walk_at "sq go"
            exact q0 (none_if fun z => by rw [hd] at z; exact absurd z.2.2 Bool.false_ne_true) _ sD
      · have d2 : decide (((SX.S t).length : Int) ≤ 200) = false := decide_eq_false c2
        walk_at "sq go"
        rw [d2]
        walk_at "sq go"
        exact q0 (none_if fun z => by omega) _ (.refl H)
    · walk_at "sq go"
      exact q0 (none_if fun z => by omega) _ (.refl H)
theorem rep_iv (z : Int) (t : Nat) : (List.replicate t [V.int z]).flatten = iv (List.replicate t z) := by
  induction t with
  | zero => rfl
  | succ n ih => rw [List.replicate_succ, List.flatten_cons, ih]; rfl
abbrev s_numbers_in : Stmt := topS 15
theorem sc_numbers_in : FnScope ["word", "first", "others", "number", "times"] ["word"] (defScope s_numbers_in) := ⟨rfl, rfl, rfl, by decide +kernel, rfl, by decide +kernel, by decide +kernel⟩

def spNumsX : Sp := fun vs H Q _ => ∃ t : List Nat, vs = [.str (SX.S t)] ∧ Keep (t.length ≤ 4100 ∧ (∀ c ∈ t, c < 0x110000) ∧ (∀ ns, numsIn t = some ns → ns.length ≤ 999) ∧ (numsIn t = none → ∀ H', Same H H' → Q .non H') ∧
  ∀ ns, numsIn t = some ns → ∀ l H', Same H H' → H l = none → H' l = some (.lst (iv ns)) → Q (.ref l) H')
theorem cal_numbers_in (D : DefAt K mg "numbers_in" s_numbers_in ["word"]) (B : Bt mg) (tx : TxC mg) (c_number_in : Cal P w K mg base 1 "number_in" spNumX []) : Cal P w K mg base 2 "numbers_in" spNumsX [] := by
  refine D.cal sc_numbers_in (fun vs H Q E h => ?_) (fun f cdv A outer s H vs Q E hr h => ?_)
  · obtain ⟨t, rfl, _⟩ := h
    rfl
  · obtain ⟨t, rfl, ⟨len, chr, few, q0, q1⟩⟩ := h
    obtain ⟨g_SEPARATOR, g_POWER, g_NO_REPLACEMENTS⟩ := tx
    refine ⟨_, (pss_cons (ps_asg (pe_split (pv 0) (pe_gc (by rfl) g_POWER)) (pg_star (K := K) rfl (pgs_cons (pg_name (i := 1) sc_numbers_in.nd rfl (Or.inl rfl)) (pgs_star (pg_name (i := 2) sc_numbers_in.nd rfl (Or.inl rfl)) pgs_nil))))
  (pss_cons (ps_set (i := 3) sc_numbers_in.nd rfl (Or.inl rfl) (pe_c c_number_in hr (by first | decide | omega) (by rfl) (pa_cons (pv 1) pa_nil)))
  (pss_cons (ps_set (i := 4) sc_numbers_in.nd rfl (Or.inl rfl) (pe_ifExp (pt_cmpR (op_neDK (K := K) hr.units) (pv 2) (pe_lst pa_nil) (nomark _)) (pe_c c_number_in hr (by first | decide | omega) (by rfl) (pa_cons (pe_ix (ix_listK (K := K)) (pv 2) pe_int (fun _ _ => rfl)) pa_nil)) pe_int))
  (pss_cons (ps_if (PW.pt (pw_or (pt_cmpR op_isN (pv 3) pe_non (nomark _)) (pw_or (pt_cmpR op_isN (pv 4) pe_non (nomark _)) (pw_or (pt_cmpR op_gt (pe_callB (len_seqK (K := K)) (by rfl) B.len boot_len (pa_cons (pv 2) pa_nil)) pe_int (nomark _)) (pw_or1 (pt_cmpR op_lt (pv 3) pe_int (nomark _))))))) (pss_one (ps_ret pe_non)) pss_nil)
  (pss_one (ps_ret (pe_op op_rep (pe_lst (pa_cons (pv 3) pa_nil)) (pv 4)))))))), ?_⟩
    obtain ⟨f0, o, es0⟩ := spl_ne 94 t
    have es : Txt.split (SX.S t) ("^" : Str) = (f0 :: o).map SX.S := by
      rw [s_pow, SX.split_S (by decide) (by decide), es0]
    have lw : (SX.S t).length + 2 ≤ sizeLine := by
      rw [SX.S_len, sizeLine_eq]
      omega
    have sub : ∀ x ∈ f0 :: o, ∃ a b, t = a ++ x ++ b := fun x hx => spl_in (S := [94]) (by rw [es0]; exact hx)
    have lsub : ∀ x ∈ f0 :: o, x.length ≤ 4100 := fun x hx => by
      obtain ⟨a, b, e⟩ := sub x hx
      have := congrArg List.length e
      rw [List.length_append, List.length_append] at this
      omega
    have csub : ∀ x ∈ f0 :: o, ∀ c ∈ x, c < 0x110000 := fun x hx c hc => by
      obtain ⟨a, b, e⟩ := sub x hx
      refine chr c ?_
      rw [e]
      simp [hc]
    have lo : o.length ≤ 4100 := by
      have := spl_count [94] t 0 []
      rw [es0, List.length_cons] at this
      omega
    walk_at "sq go"
    refine ⟨⟨_, rfl⟩, _, _, rfl, rfl, rfl, lw, fun l nl => ?_⟩
    rw [es]
    have hl : upd H l (.lst (((f0 :: o).map SX.S).map V.str)) l = some (.lst (V.str (SX.S f0) :: (o.map SX.S).map V.str)) := upd_same
    walk_at "sq go"
    refine ⟨by rw [List.length_map, List.length_map]; omega, fun O nO => ?_⟩
    have hO : upd (upd H l (.lst (((f0 :: o).map SX.S).map V.str))) O (.lst ((o.map SX.S).map V.str)) O = some (.lst (o.map fun w => V.str (SX.S w))) := by
      rw [upd_same, List.map_map]
      rfl
    have sO := (same_new (o := .lst (((f0 :: o).map SX.S).map V.str)) nl).trans (same_new (o := .lst ((o.map SX.S).map V.str)) nO)
    have en : numsIn t = (match f0 :: o with
      | [] => none
      | f :: o => match numIn f, (match o with | [] => some 1 | t :: _ => numIn t) with
        | some n, some t => if 1 < o.length ∨ n < 2 then none else some (List.replicate t (n : Int))
        | _, _ => none) := by
      unfold numsIn
      rw [es0] <;> rfl
    simp only at en
    have strO : ∀ w ∈ o, PyData.strOk (SX.S w) = true := fun w hw => strOk_S (csub w (List.mem_cons_of_mem _ hw))
    clear nl
    generalize upd (upd H l (.lst (((f0 :: o).map SX.S).map V.str))) O (.lst ((o.map SX.S).map V.str)) = H0 at *
    have lf0 := lsub f0 (List.mem_cons_self ..)
    -- the rest of the def, the first number known or not
    walk_at "sq go"
    refine ⟨⟨by omega, fun e1 H1 s1 => ?_, fun n1 e1 H1 s1 => ?_⟩⟩
    · have hO1 := s1 _ _ hO
      walk_at "sq go"
      intro e ne
      have hO2 := upd_keep (o := .lst []) ne hO1
      refine r_neS0 (ws := o) hO2 upd_same strO ?_
      have sA := (sO.trans s1).trans (same_new (o := .lst []) ne)
      have bad : numsIn t = none := by
        rw [en, e1]
      walk_at "sq go"
      refine ifN (fun c => ?_) (fun c => ?_)
      · obtain ⟨t1, o1, rfl⟩ : ∃ t1 o1, o = t1 :: o1 := by
          cases o with
          | nil => exact absurd rfl c
          | cons t1 o1 => exact ⟨t1, o1, rfl⟩
        have lt1 := lsub t1 (List.mem_cons_of_mem _ (List.mem_cons_self ..))
        walk_at "sq go"
        refine ⟨atI_nat (j := 0) rfl, ?_⟩
        walk_at "sq go"
        refine ⟨⟨by omega, fun e2 H2 s2 => ?_, fun n2 e2 H2 s2 => ?_⟩⟩
        · walk_at "sq go"
          exact q0 bad _ (sA.trans s2)
        · walk_at "sq go"
          exact q0 bad _ (sA.trans s2)
      · walk_at "sq go"
        exact q0 bad _ sA
    · have hO1 := s1 _ _ hO
      walk_at "sq go"
      intro e ne
      have hO2 := upd_keep (o := .lst []) ne hO1
      refine r_neS0 (ws := o) hO2 upd_same strO ?_
      have sA := (sO.trans s1).trans (same_new (o := .lst []) ne)
      walk_at "sq go"
      refine ifN (fun c => ?_) (fun c => ?_)
      · obtain ⟨t1, o1, rfl⟩ : ∃ t1 o1, o = t1 :: o1 := by
          cases o with
          | nil => exact absurd rfl c
          | cons t1 o1 => exact ⟨t1, o1, rfl⟩
        have lt1 := lsub t1 (List.mem_cons_of_mem _ (List.mem_cons_self ..))
        walk_at "sq go"
        refine ⟨atI_nat (j := 0) rfl, ?_⟩
        walk_at "sq go"
        refine ⟨⟨by omega, fun e2 H2 s2 => ?_, fun n2 e2 H2 s2 => ?_⟩⟩
        · have bad : numsIn t = none := by
            rw [en, e1]
            simp only [e2]
          walk_at "sq go"
          exact q0 bad _ (sA.trans s2)
        · have hO3 := s2 _ _ hO2
          have hen : numsIn t = if 1 < (t1 :: o1).length ∨ n1 < 2 then none else some (List.replicate n2 (n1 : Int)) := by
            rw [en, e1]
            simp only [e2]
          walk_at "sq go"
          refine ifD (fun c1 => ?_) (fun c1 => ?_)
          · walk_at "sq go"
            exact q0 (by rw [hen, if_pos (.inl (by rw [List.length_map] at c1; omega))]) _ (sA.trans s2)
          · walk_at "sq go"
            refine ifD (fun c2 => ?_) (fun c2 => ?_)
            · walk_at "sq go"
              exact q0 (by rw [hen, if_pos (.inr (by omega))]) _ (sA.trans s2)
            · have hs : numsIn t = some (List.replicate n2 (n1 : Int)) := by
                rw [hen, if_neg (by
                  rintro (z | z)
                  · rw [List.length_map] at c1
                    omega
                  · omega)]
              have l9 := few _ hs
              rw [List.length_replicate] at l9
              walk_at "sq go"
              intro e2 ne2
              walk_at "sq go"
              intro p np
              rw [Int.toNat_natCast, rep_iv] at *
              exact q1 _ hs p _ (sA.trans (s2.trans ((same_new ne2).trans (same_new np)))) ((sA.trans (s2.trans (same_new ne2))).free np) upd_same
      · have o0 : o = [] := c
        subst o0
        have hen : numsIn t = if 1 < 0 ∨ n1 < 2 then none else some (List.replicate 1 (n1 : Int)) := by
          rw [en, e1]
          rfl
        walk_at "sq go"
        refine ifD (fun c2 => ?_) (fun c2 => ?_)
        · walk_at "sq go"
          exact q0 (by rw [hen, if_pos (.inr (by omega))]) _ sA
        · have hs : numsIn t = some (List.replicate 1 (n1 : Int)) := by
            rw [hen, if_neg (by omega)]
          walk_at "sq go"
          intro e2 ne2
          walk_at "sq go"
          intro p np
          exact q1 _ hs p _ (sA.trans ((same_new ne2).trans (same_new np))) ((sA.trans (same_new ne2)).free np) upd_same
abbrev s_read_list : Stmt := topS 16
theorem sc_read_list : FnScope ["text", "found", "word", "numbers"] ["text"] (defScope s_read_list) := ⟨rfl, rfl, rfl, by decide +kernel, rfl, by decide +kernel, by decide +kernel⟩

def spReadX (CR : Addr) : Sp := fun vs H Q E => ∃ u : List Nat, vs = [.str (SX.S u)] ∧ Keep (RdOk u ∧ (∀ ns, readR u = some ns → ∀ l H', Same H H' → H l = none → H' l = some (.lst (iv ns)) → Q (.ref l) H') ∧
  (readR u = none → ∀ d H', Same H H' → H' d = some (.xd [("value", .str (SX.S u))]) → E (.ref CR) (some d) H'))
theorem cal_readX {CR : Addr} (D : DefAt K mg "read_list" s_read_list ["text"]) (B : Bt mg) (tx : TxC mg) (c_numbers_in : Cal P w K mg base 2 "numbers_in" spNumsX []) (c_show_list : Cal P w K mg base 2 "show_list" (spShow K) []) (c_Unreadable : Rai P w K mg base 1 "Unreadable" CR) : CalX P w K mg base 4 "read_list" (spReadX CR) := by
  refine D.calX sc_read_list (fun vs H Q E h => ?_) (fun f cdv A outer s H vs Q E hr h tk => ?_)
  · obtain ⟨u, rfl, _⟩ := h
    rfl
  · obtain ⟨u, rfl, ⟨ok, q, qe⟩⟩ := h
    obtain ⟨g_SEPARATOR, g_POWER, g_NO_REPLACEMENTS⟩ := tx
    refine ⟨_, (pss_cons (ps_set (i := 1) sc_read_list.nd rfl (Or.inl rfl) (pe_lst pa_nil))
  (pss_cons (ps_for PassesOwn.leaving rfl (pi_listK (K := K) (pe_ifExp (pt_cmpR op_ne (pv 0) (pe_gc (by rfl) g_NO_REPLACEMENTS) (nomark _)) (pe_split (pv 0) (pe_gc (by rfl) g_SEPARATOR)) (pe_lst pa_nil))) (pg_name (i := 2) sc_read_list.nd rfl (Or.inl rfl))
   (pss_cons (ps_set (i := 3) sc_read_list.nd rfl (Or.inl rfl) (pe_c c_numbers_in hr (by first | decide | omega) (by rfl) (pa_cons (pv 2) pa_nil)))
  (pss_cons (ps_if (pt_cmpR op_isN (pv 3) pe_non (nomark _)) (pss_one (ps_rx c_Unreadable hr (by first | decide | omega) (by rfl) tk (pv 0))) pss_nil)
  (pss_one (ps_expr (pe_bm PySem.F.plainAttrs_list PySem.F.slot_list_extend PySem.F.type_list_extend mt_extend (pv 1) (pa_cons (pv 3) pa_nil)))))))
  (pss_cons (ps_if (pt_cmpR op_ne (pe_c c_show_list hr (by first | decide | omega) (by rfl) (pa_cons (pv 1) pa_nil)) (pv 0) (nomark _)) (pss_one (ps_rx c_Unreadable hr (by first | decide | omega) (by rfl) tk (pv 0))) pss_nil)
  (pss_one (ps_ret (pv 1)))))), ?_⟩
    walk_at "sq go"
    intro F nF
    have hF : upd H F (.lst []) F = some (.lst []) := upd_same
    have sF := same_new (o := .lst []) nF
    walk_at "sq go"
    by_cases e0 : u = noneL
    · subst e0
      have er : readR noneL = some [] := by rfl
      refine ifN (fun c => absurd (by rw [s_none]) c) (fun _ => ?_)
      walk_at "sq go"
      intro e ne
      have hF2 := upd_keep (o := .lst []) ne hF
      have he0 : upd (upd H F (.lst [])) e (.lst []) e = some (.lst []) := upd_same
      walk_at "sq go"
      refine for_list (K := K) (a := e) (xs := []) (fun i σ H' => Keep (σ = [some (.str (SX.S noneL)), some (.ref F), none, none] ∧ H' = upd (upd H F (.lst [])) e (.lst []))) ⟨rfl, rfl⟩ (fun i σ H' _ h => ?_) (fun i x σ H' hx h => ?_) (fun σ H' h => ?_)
      · obtain ⟨_, rfl⟩ := h.o
        exact seqL_of upd_same
      · cases hx
      · obtain ⟨rfl, rfl⟩ := h.o
        have hF3 : SqL K (upd (upd H F (.lst [])) e (.lst [])) F (iv []) := seqL_of hF2
        walk_at "sq go"
        refine ⟨⟨(fun k hk => nomatch hk), by decide, by decide⟩, fun H2 s2 => ?_⟩
        walk_at "sq go"
        exact q [] er F _ (sF.trans ((same_new ne).trans s2)) nF (s2 _ _ hF2)
    · have hd : decide (V.str (SX.S u) = V.str ("none" : Str)) = false := decide_eq_false fun z => by
        rw [s_none] at z
        exact e0 (SX.S_inj (V.str.inj z))
      rw [hd]
      have ew0 : wordsOf u = TL.spl [44, 32] 0 [] u := if_neg e0
      have es : Txt.split (SX.S u) (", " : Str) = (wordsOf u).map SX.S := by
        rw [s_sep, SX.split_S (by decide) (by decide), ew0]
      have lw : (SX.S u).length + 2 ≤ sizeLine := by
        have := ok.1
        rw [SX.S_len, sizeLine_eq]
        omega
      walk_at "sq go"
      refine ⟨⟨_, rfl⟩, _, _, rfl, rfl, rfl, lw, fun L nL => ?_⟩
      rw [es]
      have hL : upd (upd H F (.lst [])) L (.lst (((wordsOf u).map SX.S).map V.str)) L = some (.lst (((wordsOf u).map SX.S).map V.str)) := upd_same
      have hF2 := upd_keep (o := .lst (((wordsOf u).map SX.S).map V.str)) nL hF
      have nLF : L ≠ F := fun z => by
        rw [z, hF] at nL
        cases nL
      have sL : ∀ {G : Hp}, But F (upd (upd H F (.lst [])) L (.lst (((wordsOf u).map SX.S).map V.str))) G → Same H G := fun b c x e => by
        have ncF : c ≠ F := fun z => by
          rw [z, nF] at e
          cases e
        exact b _ _ ncF (upd_keep nL (by rw [upd_ne ncF]; exact e))
      walk_at "sq go"
      refine for_list (K := K) (a := L) (xs := ((wordsOf u).map SX.S).map V.str) (fun i σ H' => Keep (∃ x y a, σ = [some (.str (SX.S u)), some (.ref F), x, y] ∧ But F (upd (upd H F (.lst [])) L (.lst (((wordsOf u).map SX.S).map V.str))) H' ∧ i ≤ (wordsOf u).length ∧ numsAll ((wordsOf u).take i) = some a ∧ H' F = some (.lst (iv a)))) ⟨none, none, [], rfl, .refl _ _, Nat.zero_le _, rfl, hF2⟩ (fun i σ H' _ h => ?_) (fun i x σ H' hx h => ?_) (fun σ H' h => ?_)
      · obtain ⟨_, _, _, _, b, _⟩ := h.o
        exact seqL_of (b _ _ nLF hL)
      · obtain ⟨x1, y1, a, rfl, b, hi, ea, hFi⟩ := h.o
        rw [List.getElem?_map, List.getElem?_map] at hx
        obtain ⟨w0, ew, rfl⟩ := Option.map_eq_some_iff.mp hx
        obtain ⟨w, ew2, rfl⟩ := Option.map_eq_some_iff.mp ew
        have iw : ∃ x y, u = x ++ w ++ y := words_in (List.mem_of_getElem? ew2)
        have hi1 : i + 1 ≤ (wordsOf u).length := (List.getElem?_eq_some_iff.mp ew2).1
        have et := nums_take ew2 ea
        have lwd : w.length ≤ 4100 := by
          obtain ⟨x, y, e⟩ := iw
          have l := ok.1
          have := congrArg List.length e
          rw [List.length_append, List.length_append] at this
          omega
        have cwd : ∀ c ∈ w, c < 0x110000 := fun c hc => by
          obtain ⟨x, y, e⟩ := iw
          refine ok.2.1 c ?_
          rw [e]
          simp [hc]
        walk_at "sq go"
        refine ⟨⟨lwd, cwd, fun ns e => ?_, fun e H1 s1 => ?_, fun ns e l H1 s1 nl hl => ?_⟩⟩
        · obtain ⟨n, t, rfl, t9, _⟩ := nums_of ok iw e
          rw [List.length_replicate]
          exact t9
        · walk_at "sq go"
          intro d nd
          refine qe ?_ d _ ((sL b).trans (s1.trans (same_new nd))) upd_same
          unfold readR
          rw [nums_bad e (List.mem_of_getElem? ew2)]
        · have hF3 := s1 _ _ hFi
          rw [e] at et
          have nw := nums_niceW ok hi1 et
          have la : (iv a).length + (iv ns).length ≤ sizeLine := by
            have := nw.1.2.1
            rw [List.length_append] at this
            rw [iv_len, iv_len, sizeLine_eq]
            omega
          walk_at "sq go"
          refine ⟨_, _, a ++ ns, rfl, b.trans ((But.of s1).trans But.put), hi1, et, ?_⟩
          rw [upd_same]
          simp
      · obtain ⟨x1, y1, a, rfl, b, hi, ea, hFi⟩ := h.o
        have eg : (wordsOf u).take (((wordsOf u).map SX.S).map V.str).length = wordsOf u := by
          refine List.take_of_length_le ?_
          simp
        rw [eg] at ea
        have nw := (nums_niceW ok (Nat.le_refl _) (by rw [List.take_length]; exact ea)).1
        have er : readR u = if showL a = u then some a else none := by
          unfold readR
          rw [ea]
        walk_at "sq go"
        refine ⟨⟨nw⟩, fun H2 s2 => ?_⟩
        walk_at "sq go"
        refine ifN (fun c => ?_) (fun c => ?_)
        · walk_at "sq go"
          intro d nd
          refine qe ?_ d _ ((sL b).trans (s2.trans (same_new nd))) upd_same
          rw [er, if_neg fun z => c (by rw [z])]
        · walk_at "sq go"
          refine q a ?_ F _ ((sL b).trans s2) nF (s2 _ _ hFi)
          rw [er, if_pos (SX.S_inj (V.str.inj c))]

theorem exm_self {h : Heap} {C : Addr} {y : Str} (_ : K.In h) (_ : mg y = some (.ref C)) (x1 : PySem.W.subIn K (.ref C) (.type "BaseException") = some true) (x2 : PySem.W.isClsIn K C = true) (x3 : PySem.W.typeIn K (.ref C) = some (.type "type")) (x4 : PySem.W.subIn K (.ref C) (.ref C) = some true) : PySem.W.exmOne K (.ref C) (.ref C) = some true := exm_mk x1 x2 x3 x4
def spRead0 : Sp := fun vs H Q _ => ∃ (u : List Nat) (ns : List Int), vs = [.str (SX.S u)] ∧ Keep (RdOk u ∧ readR u = some ns ∧ ∀ l H', Same H H' → H l = none → H' l = some (.lst (iv ns)) → Q (.ref l) H')
theorem read_calm {CR : Addr} (c : CalX P w K mg base 4 "read_list" (spReadX CR)) : Cal P w K mg base 4 "read_list" spRead0 [] := c.calm fun vs H Q E h => by
  obtain ⟨u, ns, rfl, ⟨ok, e, q⟩⟩ := h
  refine ⟨u, rfl, ⟨ok, fun ms em l H' s n hl => ?_, fun z => ?_⟩⟩
  · rw [e] at em
    cases em
    exact q l H' s n hl
  · rw [e] at z
    cases z
theorem pick3 {a b c : Int} {w : Int} {P : Int → Prop} (h0 : 0 ≤ w) (h1 : w < 3) (pa : P a) (pb : P b) (pc : P c) : ∃ v, atI [V.int a, .int b, .int c] w = some (.int v) ∧ P v := by
  rcases (show w = 0 ∨ w = 1 ∨ w = 2 by omega) with z | z | z <;> rw [z]
  · exact ⟨a, atI_nat (j := 0) rfl, pa⟩
  · exact ⟨b, atI_nat (j := 1) rfl, pb⟩
  · exact ⟨c, atI_nat (j := 2) rfl, pc⟩
theorem ifB {c : Bool} {A B : Prop} (h1 : A) (h2 : B) : if c = true then A else B := by
  cases c
  · exact h2
  · exact h1
local macro_rules | `(tactic| walk_at "sq side") => `(tactic| first
  | ((with_reducible show _ ≤ PySem.sizeLine); assumption)
  | ((with_reducible show _ < 1920); assumption)
  | ((with_reducible show PySem.W.exmOne _ _ _ = some _); assumption))
abbrev s_law_kept : Stmt := topS 27
theorem sc_law_kept : FnScope ["written", "found"] ["written"] (defScope s_law_kept) := ⟨rfl, rfl, rfl, by decide +kernel, rfl, by decide +kernel, by decide +kernel⟩

def spKept : Sp := fun vs H Q _ => ∃ u : List Nat, vs = [.str (SX.S u)] ∧ Keep (RdOk u) ∧ ∀ H', Same H H' → Q (.bl true) H'
theorem cal_kept {CR : Addr} (D : DefAt K mg "_law_kept" s_law_kept ["written"]) (B : Bt mg) (m_Unreadable : mg "Unreadable" = some (.ref CR)) (ex : PySem.W.exmOne K (.ref CR) (.ref CR) = some true) (c_read_listX : CalX P w K mg base 4 "read_list" (spReadX CR)) (c_show_list : Cal P w K mg base 2 "show_list" (spShow K) []) : Cal P w K mg base 5 "_law_kept" spKept [] := by
  refine D.cal sc_law_kept (fun vs H Q E h => ?_) (fun f cdv A outer s H vs Q E hr h => ?_)
  · obtain ⟨u, rfl, _⟩ := h
    rfl
  · obtain ⟨u, rfl, ⟨ok⟩, q⟩ := h
    refine ⟨_, (pss_cons (ps_set (i := 1) sc_law_kept.nd rfl (Or.inl rfl) pe_non)
  (pss_cons (ps_try_only rfl rfl ⟨rfl, by decide, .inl m_Unreadable⟩ takes0
   (fun W pn xe tk po => (pss_one (ps_set (i := 1) sc_law_kept.nd rfl (Or.inl rfl) (pe_cx c_read_listX hr (by first | decide | omega) tk (by rfl) (pa_cons (pv 0) pa_nil)))))
   (fun a oe cls d pn _ _ => (pss_one (ps_ret pe_bl))))
  (pss_one (ps_ret (pe_cmpR op_eq (pe_c c_show_list hr (by first | decide | omega) (by rfl) (pa_cons (pv 1) pa_nil)) (pv 0) (nomark _)))))), ?_⟩
    walk_at "sq go"
    refine ⟨⟨ok, fun ns e l H1 s1 nl hl => ?_, fun e d H1 s1 hd => ⟨true, ex, fun _ a na => ?_, fun z => nomatch z⟩⟩⟩
    · obtain ⟨nw, es⟩ := readR_nice ok e
      have hl1 := seqL_of (K := K) hl
      walk_at "sq go"
      refine ⟨⟨nw⟩, fun H2 s2 => ?_⟩
      walk_at "sq go"
      have z := q _ (s1.trans s2)
      rw [show decide (V.str (SX.S (showL ns)) = V.str (SX.S u)) = true from decide_eq_true (by rw [es])]
      exact z
    · walk_at "sq go"
      exact q _ s1
/-- numbers and how often, as they are put together here -/
def GsOk (gs : List (Int × Nat)) (j : Nat) : Prop := gs.length = j ∧ grp (ungrp gs) = gs ∧ (∀ p ∈ gs, 2 ≤ p.1 ∧ p.1 < 200 ∧ 2 ≤ p.2 ∧ p.2 ≤ 61) ∧ ∀ a c, gs.getLast? = some (a, c) → a % 9 = ((j : Nat) + 1 : Int) % 9
theorem gs_nil : GsOk [] 0 := ⟨rfl, rfl, (fun p z => nomatch z), (fun a c z => by cases z)⟩
theorem GsOk.more {gs : List (Int × Nat)} {j : Nat} {N T d : Int} (h : GsOk gs j) (e : N = 2 + (0 + ((j : Nat) : Int)) + 9 * d) (d0 : 0 ≤ d) (d9 : d < 9) (t2 : 2 ≤ T) (t61 : T ≤ 61) (hj : j < 9) : GsOk (gs ++ [(N, T.toNat)]) (j + 1) ∧ ungrp (gs ++ [(N, T.toNat)]) = ungrp gs ++ List.replicate T.toNat N := by
  obtain ⟨h1, h2, h3, h4⟩ := h
  have eu : ungrp (gs ++ [(N, T.toNat)]) = ungrp gs ++ List.replicate T.toNat N := by
    rw [ungrp_app]
    simp [ungrp]
  refine ⟨⟨by simp [h1], ?_, fun p hp => ?_, fun a c z => ?_⟩, eu⟩
  · rw [eu]
    exact grp_add h2 (fun a t z => by
      have := h4 a t z
      omega) (by omega)
  · rcases List.mem_append.mp hp with z | z
    · exact h3 p z
    · rw [List.mem_singleton.mp z]
      exact ⟨by simp only; omega, by simp only; omega, by simp only; omega, by simp only; omega⟩
  · rw [List.getLast?_append] at z
    have z2 : (N, T.toNat) = (a, c) := by simpa using z
    have : N = a := congrArg Prod.fst z2
    omega
theorem ungrp_len {c : Nat} : ∀ {gs : List (Int × Nat)}, (∀ p ∈ gs, p.2 ≤ c) → (ungrp gs).length ≤ gs.length * c
  | [], _ => Nat.zero_le _
  | p :: r, h => by
    have ih := ungrp_len (gs := r) fun q hq => h q (List.mem_cons_of_mem _ hq)
    have := h p (List.mem_cons_self ..)
    have e : ungrp (p :: r) = List.replicate p.2 p.1 ++ ungrp r := rfl
    rw [e, List.length_append, List.length_replicate, List.length_cons, Nat.add_mul]
    omega
theorem GsOk.two {gs : List (Int × Nat)} {j : Nat} (h : GsOk gs j) : ∀ k ∈ ungrp gs, 2 ≤ k ∧ k < 200 := fun k hk => by
  obtain ⟨p, hp, z⟩ := List.mem_flatMap.mp hk
  rw [List.eq_of_mem_replicate z]
  exact ⟨(h.2.2.1 p hp).1, (h.2.2.1 p hp).2.1⟩
abbrev s_law : Stmt := topS 28
theorem sc_law : FnScope ["script", "rng", "lap", "some", "other", "written", "cut", "sign", "bent", "many", "here", "words", "place", "number", "times", "turn"] ["script"] (defScope s_law) := ⟨rfl, rfl, rfl, by decide +kernel, rfl, by decide +kernel, by decide +kernel⟩

def spLaw (K : PySem.W.Frag) : Sp := fun vs H Q _ => ∃ (a : Addr) (ns : List Int), vs = [.ref a] ∧ SqL K H a (iv ns) ∧ ns.length ≤ 63 ∧ ∀ H', Q (.bl true) H'
theorem ok_law {f : Addr} {fd : FuncData} (F : Fun K "law" "law" s_law f fd) (B : Bt mg) (c_law_rng : Cal P w K mg base 1 "_law_rng" (spRng K) []) (c_law_draw : Cal P w K mg base 1 "_law_draw" spDrawW []) (c_law_list : Cal P w K mg base 2 "_law_list" spList4 [])
    (c_show_list : Cal P w K mg base 2 "show_list" (spShow K) []) (c_read_list : Cal P w K mg base 4 "read_list" spRead0 []) (c_law_kept : Cal P w K mg base 5 "_law_kept" spKept []) (c_squeezed : Cal P w K mg base 3 "squeezed" (spSq K) []) : FnG P w K mg base CX0 6 f fd ["script"] (spLaw K) := by
  refine okG F sc_law (fun vs H Q E h => ?_) (fun cdv A outer s H vs Q E hG hr h => ?_)
  · obtain ⟨a, ns, rfl, _⟩ := h
    rfl
  · obtain ⟨p0, ns0, rfl, hP, hl, q⟩ := h
    refine ⟨_, (pss_cons (ps_set (i := 1) sc_law.nd rfl (Or.inl rfl) (pe_c c_law_rng hr (by first | decide | omega) (by rfl) (pa_cons (pv 0) pa_nil)))
  (pss_cons (ps_for PassesOwn.never rfl (pi_range1 (by rfl) B.range (pa_cons (pe_op op_add pe_int (pe_callB (call_min2 rfl) (by rfl) B.min (by decide +kernel) (pa_cons pe_int (pa_cons (pe_callB (len_seqK (K := K)) (by rfl) B.len boot_len (pa_cons (pv 0) pa_nil)) pa_nil)))) pa_nil)) (pg_name (i := 2) sc_law.nd rfl (Or.inl rfl))
   (pss_cons (ps_set (i := 3) sc_law.nd rfl (Or.inl rfl) (pe_c c_law_list hr (by first | decide | omega) (by rfl) (pa_cons (pv 1) (pa_cons pe_int (pa_cons (pe_ix (ix_listK (K := K)) (pe_lst (pa_cons pe_int (pa_cons pe_int (pa_cons (pe_op op_powW pe_int pe_int) pa_nil)))) (pe_c c_law_draw hr (by first | decide | omega) (by rfl) (pa_cons (pv 1) (pa_cons pe_int pa_nil))) (fun _ _ => rfl)) pa_nil)))))
  (pss_cons (ps_set (i := 4) sc_law.nd rfl (Or.inl rfl) (pe_c c_law_list hr (by first | decide | omega) (by rfl) (pa_cons (pv 1) (pa_cons pe_int (pa_cons pe_int pa_nil)))))
  (pss_cons (ps_set (i := 5) sc_law.nd rfl (Or.inl rfl) (pe_c c_show_list hr (by first | decide | omega) (by rfl) (pa_cons (pv 3) pa_nil)))
  (pss_cons (ps_if (PW.pt (pw_or (pt_cmpR op_ne (pe_callB (call_reprDK (K := K) hG hr.units) (by rfl) B.repr (by decide +kernel) (pa_cons (pe_c c_read_list hr (by first | decide | omega) (by rfl) (pa_cons (pv 5) pa_nil)) pa_nil)) (pe_callB (call_reprDK (K := K) hG hr.units) (by rfl) B.repr (by decide +kernel) (pa_cons (pv 3) pa_nil)) (nomark _)) (pw_or1 (pt_cmpR op_ne (pe_cmpR op_eq (pe_c c_show_list hr (by first | decide | omega) (by rfl) (pa_cons (pv 4) pa_nil)) (pv 5) (nomark _)) (pe_cmpR (op_eqDK (K := K) hr.units) (pv 4) (pv 3) (nomark _)) (nomark _))))) (pss_one (ps_ret pe_bl)) pss_nil)
  (pss_cons (ps_set (i := 6) sc_law.nd rfl (Or.inl rfl) (pe_c c_law_draw hr (by first | decide | omega) (by rfl) (pa_cons (pv 1) (pa_cons (pe_op op_add (pe_callB call_len_str (by rfl) B.len boot_len (pa_cons (pv 5) pa_nil)) pe_int) pa_nil))))
  (pss_cons (ps_set (i := 7) sc_law.nd rfl (Or.inl rfl) (pe_op op_rep_str (pe_ix ix_str pe_str (pe_c c_law_draw hr (by first | decide | omega) (by rfl) (pa_cons (pv 1) (pa_cons pe_int pa_nil))) (fun _ _ => rfl)) (pe_c c_law_draw hr (by first | decide | omega) (by rfl) (pa_cons (pv 1) (pa_cons pe_int pa_nil)))))
  (pss_cons (ps_set (i := 8) sc_law.nd rfl (Or.inl rfl) (pe_op op_add_str (pe_op op_add_str (pe_slice sl_str (pv 5) po_none (po_some (pv 6))) (pv 7)) (pe_slice sl_str (pv 5) (po_some (pe_op op_add (pv 6) (pe_c c_law_draw hr (by first | decide | omega) (by rfl) (pa_cons (pv 1) (pa_cons pe_int pa_nil))))) po_none)))
  (pss_cons (ps_if (PW.pt (pw_and (pt_cmpR op_notin_str pe_str (pv 5) (by rfl)) (pw_and (pt_cmpR op_notin_str pe_str (pv 5) (by rfl)) (pw_and (pt_cmpR op_notin_str pe_str (pv 5) (by rfl)) (pw_and1 (pt_not (pt_val (pe_c c_law_kept hr (by first | decide | omega) (by rfl) (pa_cons (pv 8) pa_nil))))))))) (pss_one (ps_ret pe_bl)) pss_nil)
  (pss_cons (ps_par3 (i := 9) (j := 10) (l := 11) rfl sc_law.nd rfl rfl rfl (by decide) (by decide) (by decide) rfl rfl rfl (pa_cons (pe_c c_law_draw hr (by first | decide | omega) (by rfl) (pa_cons (pv 1) (pa_cons (pe_op op_powW pe_int pe_int) pa_nil))) (pa_cons pe_int (pa_cons (pe_lst pa_nil) pa_nil))) (by rfl))
  (pss_cons (ps_set (i := 10) sc_law.nd rfl (Or.inl rfl) (pv 9))
  (pss_cons (ps_for PassesOwn.never rfl (pi_range1 (by rfl) B.range (pa_cons (pe_op op_add pe_int (pe_c c_law_draw hr (by first | decide | omega) (by rfl) (pa_cons (pv 1) (pa_cons pe_int pa_nil)))) pa_nil)) (pg_name (i := 12) sc_law.nd rfl (Or.inl rfl))
   (pss_cons (ps_par (i := 13) (j := 14) rfl sc_law.nd rfl rfl (by decide) rfl rfl (pa_cons (pe_op op_add (pe_op op_add pe_int (pv 12)) (pe_op op_mulW pe_int (pe_c c_law_draw hr (by first | decide | omega) (by rfl) (pa_cons (pv 1) (pa_cons pe_int pa_nil))))) (pa_cons (pe_op op_add pe_int (pe_c c_law_draw hr (by first | decide | omega) (by rfl) (pa_cons (pv 1) (pa_cons pe_int pa_nil)))) pa_nil)) (by rfl))
  (pss_cons (ps_expr (pe_bm PySem.F.plainAttrs_list PySem.F.slot_list_append PySem.F.type_list_append mt_append (pv 11) (pa_cons (pe_op op_add_str (pe_op op_add_str (pe_callTy call_str_int (by rfl) B.str (by decide +kernel) (pa_cons (pv 13) pa_nil)) pe_str) (pe_callTy call_str_int (by rfl) B.str (by decide +kernel) (pa_cons (pv 14) pa_nil))) pa_nil)))
  (pss_one (ps_for PassesOwn.never rfl (pi_range1 (by rfl) B.range (pa_cons (pv 14) pa_nil)) (pg_name (i := 15) sc_law.nd rfl (Or.inl rfl))
   (pss_one (ps_set (i := 10) sc_law.nd rfl (Or.inl rfl) (pe_c c_squeezed hr (by first | decide | omega) (by rfl) (pa_cons (pv 10) (pa_cons (pe_lst (pa_cons (pv 13) pa_nil)) pa_nil))))))))))
  (pss_one (ps_if (pt_cmpR op_ne (pe_c c_squeezed hr (by first | decide | omega) (by rfl) (pa_cons (pv 9) (pa_cons (pe_c c_read_list hr (by first | decide | omega) (by rfl) (pa_cons (pe_join pe_str (pv 11)) pa_nil)) pa_nil))) (pv 10) (nomark _)) (pss_one (ps_ret pe_bl)) pss_nil))))))))))))))
  (pss_one (ps_ret (pe_and (pe_c c_law_kept hr (by first | decide | omega) (by rfl) (pa_cons pe_str pa_nil)) (pe_and (pe_c c_law_kept hr (by first | decide | omega) (by rfl) (pa_cons pe_str pa_nil)) (pe_one (pe_cmpR (op_eqDK (K := K) hr.units) (pe_c c_read_list hr (by first | decide | omega) (by rfl) (pa_cons pe_str pa_nil)) (pe_lst pa_nil) (nomark _))))))))), ?_⟩
    have el : (iv ns0).length = ns0.length := iv_len _
    walk_at "sq go"
    refine ⟨⟨trivial⟩, fun r H1 s1 hS => ?_⟩
    have hP1 := s1.seq hP
    walk_at "sq go"
    refine for_range (lo := 0) (n := _) (fun i σ H' => Keep (∃ x2 x3 x4 x5 x6 x7 x8 x9 x10 x11 x12 x13 x14 x15, σ = [some (.ref p0), some (.ref r), x2, x3, x4, x5, x6, x7, x8, x9, x10, x11, x12, x13, x14, x15] ∧ Sep (rg3 r (2000 * i)) H H' ∧ i ≤ 18)) ⟨_, _, _, _, _, _, _, _, _, _, _, _, _, _, rfl, Sep3.mono hS (by omega), by omega⟩ (fun i σ H' hi h => ?_) (fun σ H' h => ?_)
    · obtain ⟨x2, x3, x4, x5, x6, x7, x8, x9, x10, x11, x12, x13, x14, x15, rfl, hs, hi8⟩ := h.o
      have hi9 : i + 1 ≤ 18 := by (repeat' split at hi) <;> omega
      walk_at "sq go"
      intro e1 ne1
      have ge1 := hs.free ne1
      have hs1 := hs.new ne1 (.lst [.int 3, .int 60, .int (10 ^ (6 : Int).toNat)])
      walk_at "sq go"
      refine ⟨⟨by decide, by decide, by omega⟩, fun y H2 y0 y1 hs2 => ?_⟩
      have he1 : H2 e1 = some (.lst [.int 3, .int 60, .int (10 ^ (6 : Int).toNat)]) := hs2.get upd_same
      obtain ⟨great, eg, g2, g6⟩ := pick3 (a := 3) (b := 60) (c := 10 ^ (6 : Int).toNat) (P := fun v => 2 ≤ v ∧ v ≤ 10 ^ 6) y0 y1 ⟨by decide, by decide⟩ ⟨by decide, by decide⟩ ⟨by decide, by decide⟩
      have hs3 := hs2.weak (same_new (o := .lst [.int 3, .int 60, .int (10 ^ (6 : Int).toNat)]) ge1)
      walk_at "sq go"
      refine ⟨⟨by decide, by decide, by omega, by omega, by omega⟩, fun p ns H3 gp len row hs4 => ?_⟩
      have len12 : ns.length ≤ 12 := len
      have nice : Nice ns := ⟨fun k hk => ⟨(row k hk).1, Int.lt_of_le_of_lt (row k hk).2 (by omega)⟩, by omega⟩
      walk_at "sq go"
      refine ⟨⟨by decide, by decide, by omega, by omega, by omega⟩, fun p2 ms H4 gp2 len2 row2 hs5 => ?_⟩
      have len22 : ms.length ≤ 12 := len2
      have nice2 : Nice ms := ⟨fun k hk => ⟨(row2 k hk).1, Int.lt_of_le_of_lt (row2 k hk).2 (by omega)⟩, by omega⟩
      have hp := seqL_of (K := K) (hs5.get (upd_keep gp2 upd_same))
      have hp2 := seqL_of (K := K) (hs5.get upd_same)
      have lgs : ∀ n ∈ ns, n.natAbs.log2 < 1920 := fun n hn => num_lg (by have := nice.1 n hn; omega) (nice.1 n hn).2
      walk_at "sq go"
      refine ⟨⟨nice.w⟩, fun H5 s5 => ?_⟩
      have hp5 := s5.seq hp
      have hp25 := s5.seq hp2
      have sl := show_short nice len12
      have cnt : ∀ q ∈ grp ns, (TL.numL q.2).length ≤ 2 := fun q hq => by
        have := (grp_ok nice.1 q hq).2.2
        exact TL.numL_len (by decide) (by omega)
      have rd := rd_show cnt (by decide) (by omega)
      walk_at "sq go"
      refine ⟨⟨rd, read_shown nice.w, fun l H6 s6 nl hl6 => ?_⟩⟩
      have hp6 := s6.seq hp5
      have hp26 := s6.seq hp25
      walk_at "sq go"
      refine r_repr (seqL_of hl6) (by omega) lgs ?_
      walk_at "sq go"
      refine r_repr hp6 (by omega) lgs ?_
      walk_at "sq go"
      refine ifN (fun c => absurd rfl c) (fun _ => ?_)
      walk_at "sq go"
      refine ⟨⟨nice2.w⟩, fun H7 s7 => ?_⟩
      have hp7 := s7.seq hp6
      have hp27 := s7.seq hp26
      walk_at "sq go"
      refine r_eqI hp27 hp7 ?_
      walk_at "sq go"
      refine ifN (fun c => absurd (congrArg V.bl (decide_eq_decide.mpr ⟨fun z => show_inj nice2.w nice.w (SX.S_inj (V.str.inj z)), fun z => by rw [z]⟩)) c) (fun _ => ?_)
      have eS : ((SX.S (showL ns)).length : Int) = (showL ns).length := by rw [SX.S_len]
      have hs6 := ((hs5.on s5).on s6).on s7
      walk_at "sq go"
      refine ⟨⟨by omega, by omega, by omega⟩, fun cut K1 c0 c1 hs7 => ?_⟩
      have hp8 := seqL_of (K := K) (hs7.get (upd_keep gp2 upd_same))
      walk_at "sq go"
      refine ⟨⟨by decide, by decide, by omega⟩, fun d4 K2 d40 d41 hs8 => ?_⟩
      have h23 : ("2, 3" : Str) = SX.S [50, 44, 32, 51] := by decide +kernel
      obtain ⟨cc, ecc, cc94, cc256⟩ : ∃ c : Nat, atI ("2, 3" : Str).cps.toList d4 = some c ∧ c ≠ 94 ∧ c < 256 := by
        rw [h23]
        rcases (show d4 = 0 ∨ d4 = 1 ∨ d4 = 2 ∨ d4 = 3 by omega) with z | z | z | z <;> rw [z]
        · exact ⟨50, rfl, by decide, by decide⟩
        · exact ⟨44, rfl, by decide, by decide⟩
        · exact ⟨32, rfl, by decide, by decide⟩
        · exact ⟨51, rfl, by decide, by decide⟩
      have l23 : ("2, 3" : Str).length ≤ sizeLine := by
        rw [h23, SX.S_len]
        exact Nat.le_of_ble_eq_true rfl
      walk_at "sq go"
      refine ⟨⟨by decide, by decide, by omega⟩, fun d2 K3 d20 d21 hs9 => ?_⟩
      walk_at "sq go"
      refine ⟨?_, ?_⟩
      · have : d2.toNat ≤ 1 := by omega
        show 1 * d2.toNat ≤ _
        omega
      have esg : repL d2.toNat [cc] = [] ∨ ∃ c, repL d2.toNat [cc] = [c] ∧ c ≠ 94 ∧ c < 256 := by
        rcases (show d2 = 0 ∨ d2 = 1 by omega) with z | z <;> rw [z]
        · exact .inl rfl
        · exact .inr ⟨cc, rfl, cc94, cc256⟩
      have lsg : (repL d2.toNat [cc]).length ≤ 1 := by
        rcases esg with z | ⟨c, z, _⟩ <;> rw [z]
        · exact Nat.zero_le _
        · exact Nat.le_refl _
      generalize repL d2.toNat [cc] = sg at esg lsg
      have lw : (SX.S (showL ns)).length ≤ sizeLine := by
        rw [SX.S_len, sizeLine_eq]
        omega
      have ecut : cutS (SX.S (showL ns)) none (some cut) = SX.S ((showL ns).take cut.toNat) := by
        rw [C8.cutS_slice, SX.slice_to c0]
      have z1 : (cutS (SX.S (showL ns)) none (some cut)).length + (SX.S sg).length ≤ sizeLine := by
        rw [ecut, SX.S_len, SX.S_len, List.length_take, sizeLine_eq]
        omega
      walk_at "sq go"
      refine ⟨⟨by decide, by decide, by omega⟩, fun d1 K4 d10 d11 hs10 => ?_⟩
      have ecut2 : cutS (SX.S (showL ns)) (some (cut + d1)) none = SX.S ((showL ns).drop (cut.toNat + d1.toNat)) := by
        rw [C8.cutS_slice, SX.slice_from (by omega), show (cut + d1).toNat = cut.toNat + d1.toNat by omega]
      have z2 : (cutS (SX.S (showL ns)) none (some cut) ++ SX.S sg).length + (cutS (SX.S (showL ns)) (some (cut + d1)) none).length ≤ sizeLine := by
        rw [ecut, ecut2, SX.S_cat, SX.S_len, SX.S_len, List.length_append, List.length_take, List.length_drop, sizeLine_eq]
        omega
      have ebent : cutS (SX.S (showL ns)) none (some cut) ++ SX.S sg ++ cutS (SX.S (showL ns)) (some (cut + d1)) none = SX.S ((showL ns).take cut.toNat ++ sg ++ (showL ns).drop (cut.toNat + d1.toNat)) := by
        rw [ecut, ecut2, SX.S_cat, SX.S_cat]
      have rdb := rd_bent (cut := cut.toNat) (d := d1.toNat) cnt (by omega) esg (by omega)
      walk_at "sq go"
      rw [ebent]
      generalize (showL ns).take cut.toNat ++ sg ++ (showL ns).drop (cut.toNat + d1.toNat) = bent at rdb
      have hs11 := Sep3.mono (N' := 2000 * i + 300) hs10 (by omega)
      refine ifB ?_ ?_
      · walk_at "sq go"
        refine ifB ?_ ?_
        · walk_at "sq go"
          refine ifB ?_ ?_
          · walk_at "sq go"
            refine ⟨⟨rdb⟩, fun K5 s5 => ?_⟩
            have hs11 := hs11.on s5
            walk_at "sq go"
            refine ⟨⟨by decide, by decide, by omega⟩, fun many J1 m0 m1 hs12 => ?_⟩
            walk_at "sq go"
            intro W nW
            have gW := hs12.free nW
            have hs13 := hs12.new nW (.lst [])
            walk_at "sq go"
            refine ⟨⟨by decide, by decide, by omega⟩, fun m9 J2 m90 m99 hs14 => ?_⟩
            walk_at "sq go"
            refine for_range (lo := 0) (n := (1 + m9).toNat) (fun j σ H' => Keep (∃ gs zz y12 y13 y14 y15, σ = [some (.ref p0), some (.ref r), zz, some (.ref p), some (.ref p2), some (.str (SX.S (showL ns))), some (.int cut), some (.str (SX.S sg)), some (.str (SX.S bent)), some (.int many), some (.int (sqz many (ungrp gs))), some (.ref W), y12, y13, y14, y15] ∧
                Sep (rg3 r (2000 * i + 310 + 5 * j)) (upd (upd (upd H p (.lst (iv ns))) p2 (.lst (iv ms))) W (.lst (gs.map fun p => V.str (SX.S (wrd p.1.toNat p.2))))) H' ∧ GsOk gs j)) ⟨[], _, _, _, _, _, rfl, Sep3.mono hs14 (by omega), gs_nil⟩ (fun j σ H' hj h => ?_) (fun σ H' h => ?_)
            · obtain ⟨gs, zz, y12, y13, y14, y15, rfl, hsA, gok⟩ := h.o
              have j9 : j < 9 := by omega
              walk_at "sq go"
              refine ⟨⟨by decide, by decide, by omega⟩, fun d J3 d0 d9 hsB => ?_⟩
              have w9 : CMulW 9 d := Sm.wide (a := 10) (b := 10) (by unfold Sm; decide) (by unfold Sm; omega) (by decide) (by decide) (by decide)
              walk_at "sq go"
              refine ⟨⟨by decide, by decide, by omega⟩, fun t J4 t0 t60 hsC => ?_⟩
              have hW4 := hsC.get upd_same
              obtain ⟨N, eN⟩ : ∃ N : Int, N = 2 + (0 + ((j : Nat) : Int)) + 9 * d := ⟨_, rfl⟩
              have gok2 := gok.more (N := N) (T := 2 + t) (d := d) (by omega) d0 d9 (by omega) (by omega) j9
              have N2 : 2 ≤ N := by omega
              have N200 : N < 200 := by omega
              have lgn := num_lg (k := N) (by omega) (Int.lt_trans N200 (by decide))
              have lgt := num_lg (k := 2 + t) (by omega) (Int.lt_of_lt_of_le (show 2 + t < 100 by omega) (by decide))
              have ln : (TL.numL N.toNat).length ≤ 3 := TL.numL_len (by decide) (by omega)
              have lt : (TL.numL (2 + t).toNat).length ≤ 2 := TL.numL_len (by decide) (by omega)
              have z1 : (Str.ofString (toString N)).length + ("^" : Str).length ≤ sizeLine := by
                rw [s_pow, s_num (by omega), SX.S_len, SX.S_len, sizeLine_eq]
                show _ + 1 ≤ _
                omega
              have z2 : (Str.ofString (toString N) ++ ("^" : Str)).length + (Str.ofString (toString (2 + t))).length ≤ sizeLine := by
                rw [s_pow, s_num (by omega), s_num (by omega), SX.S_cat, SX.S_len, SX.S_len, sizeLine_eq, List.length_append]
                show _ + 1 + _ ≤ _
                omega
              have eF : Str.ofString (toString N) ++ ("^" : Str) ++ Str.ofString (toString (2 + t)) = SX.S (wrd N.toNat (2 + t).toNat) := by
                rw [s_pow, s_num (by omega), s_num (by omega), SX.S_cat, SX.S_cat]
                unfold wrd
                rw [if_pos (by omega)]
                simp
              have lW : (gs.map fun p => V.str (SX.S (wrd p.1.toNat p.2))).length < sizeLine := by
                have := gok.1
                rw [List.length_map]
                exact ltW (by omega)
              subst eN
              walk_at "sq go"
              have hsD := hsC.put upd_same (.lst ((gs.map fun p => V.str (SX.S (wrd p.1.toNat p.2))) ++ [V.str (Str.ofString (toString (2 + (0 + ((j : Nat) : Int)) + 9 * d)) ++ ("^" : Str) ++ Str.ofString (toString (2 + t)))]))
              rw [upd_upd] at hsD
              have em : (gs.map fun p => V.str (SX.S (wrd p.1.toNat p.2))) ++ [V.str (Str.ofString (toString (2 + (0 + ((j : Nat) : Int)) + 9 * d)) ++ ("^" : Str) ++ Str.ofString (toString (2 + t)))] = (gs ++ [(2 + (0 + ((j : Nat) : Int)) + 9 * d, (2 + t).toNat)]).map fun p => V.str (SX.S (wrd p.1.toNat p.2)) := by
                rw [eF, List.map_append]
                rfl
              rw [em] at hsD
              rw [em]
              have hmid : Mid [2 + (0 + ((j : Nat) : Int)) + 9 * d] := fun k hk => by
                rw [List.mem_singleton.mp hk]
                omega
              have gtwo : Two (ungrp gs) := fun k hk => (gok.two k hk).1
              have mn := sqz_nn m0 gtwo
              refine for_range (lo := 0) (n := (2 + t).toNat) (fun l σ H' => Keep (∃ y15, σ = [some (.ref p0), some (.ref r), zz, some (.ref p), some (.ref p2), some (.str (SX.S (showL ns))), some (.int cut), some (.str (SX.S sg)), some (.str (SX.S bent)), some (.int many), some (.int (sqz (sqz many (ungrp gs)) (List.replicate l (2 + (0 + ((j : Nat) : Int)) + 9 * d)))), some (.ref W), some (.int (0 + ((j : Nat) : Int))), some (.int (2 + (0 + ((j : Nat) : Int)) + 9 * d)), some (.int (2 + t)), y15] ∧
                  Sep (rg3 r (2000 * i + 310 + 5 * j + 5)) (upd (upd (upd H p (.lst (iv ns))) p2 (.lst (iv ms))) W (.lst ((gs ++ [(2 + (0 + ((j : Nat) : Int)) + 9 * d, (2 + t).toNat)]).map fun p => V.str (SX.S (wrd p.1.toNat p.2))))) H')) ⟨_, rfl, Sep3.mono hsD (by omega)⟩ (fun l σ H' hl h => ?_) (fun σ H' h => ?_)
              · obtain ⟨y15, rfl, hsE⟩ := h.o
                walk_at "sq go"
                intro e ne
                have hE : SqL K (upd H' e (.lst [.int (2 + (0 + ((j : Nat) : Int)) + 9 * d)])) e (iv [2 + (0 + ((j : Nat) : Int)) + 9 * d]) := seqL_of upd_same
                have hsF := hsE.on (same_new (o := .lst [.int (2 + (0 + ((j : Nat) : Int)) + 9 * d)]) ne)
                have mn2 := sqz_nn mn (row := List.replicate l (2 + (0 + ((j : Nat) : Int)) + 9 * d)) fun k hk => by
                  rw [List.eq_of_mem_replicate hk]
                  omega
                walk_at "sq go"
                refine ⟨⟨mn2, hmid⟩, fun H2 s2 => ?_⟩
                walk_at "sq go"
                refine ⟨some (.int (0 + ((l : Nat) : Int))), ?_, hsF.on s2⟩
                rw [List.replicate_succ', sqz_app]
                rfl
              · obtain ⟨y15, rfl, hsE⟩ := h.o
                refine ⟨gs ++ [(2 + (0 + ((j : Nat) : Int)) + 9 * d, (2 + t).toNat)], zz, some (.int (0 + ((j : Nat) : Int))), some (.int (2 + (0 + ((j : Nat) : Int)) + 9 * d)), some (.int (2 + t)), y15, ?_, Sep3.mono hsE (by omega), gok2.1⟩
                rw [gok2.2, sqz_app]
            · obtain ⟨gs, zz, y12, y13, y14, y15, rfl, hsA, gok⟩ := h.o
              have hWA := hsA.get upd_same
              have ljn : gs.length = (1 + m9).toNat := gok.1
              have gne : ungrp gs ≠ [] := fun z => by
                have := gok.2.1
                rw [z] at this
                have : gs = [] := this.symm
                rw [this] at ljn
                simp at ljn
                omega
              have ewr : wrds (ungrp gs) = gs.map fun p => wrd p.1.toNat p.2 := by
                unfold wrds
                rw [gok.2.1]
              have esh : TL.joinL [44, 32] (gs.map fun p => wrd p.1.toNat p.2) = showL (ungrp gs) := by
                unfold showL
                rw [if_neg gne, ewr]
              have lgs : (ungrp gs).length ≤ gs.length * 61 := ungrp_len fun p hp => (gok.2.2.1 p hp).2.2.2
              have nwg : NiceW (ungrp gs) := by
                refine ⟨fun k hk => ?_, ?_, ?_⟩
                · have := gok.two k hk
                  exact ⟨this.1, Int.lt_trans this.2 (by decide)⟩
                · have : gs.length ≤ 9 := by omega
                  omega
                · rw [gok.2.1]
                  omega
              have lnw := nwg.words
              have lsum := sum_le lnw.1
              have ljo := join_len [44, 32] (wrds (ungrp gs))
              have lwg : (wrds (ungrp gs)).length ≤ 9 := by
                rw [ewr, List.length_map]
                omega
              have lsh : (showL (ungrp gs)).length ≤ 2000 := by
                rw [← esh, ← ewr]
                have a1 := Nat.mul_le_mul_right 208 lwg
                have a2 : (wrds (ungrp gs)).length * ([44, 32] : List Nat).length ≤ 9 * 2 := Nat.mul_le_mul_right 2 lwg
                omega
              have rdg : RdOk (showL (ungrp gs)) := rd_show (k := 2) (fun p hp => by
                rw [gok.2.1] at hp
                have := (gok.2.2.1 p hp).2.2
                exact TL.numL_len (by decide) (by omega)) (by decide) (by omega)
              have midg : Mid (ungrp gs) := fun k hk => by
                have := gok.two k hk
                exact ⟨this.1, Int.lt_trans this.2 (by decide)⟩
              walk_at "sq go"
              refine ⟨⟨_, rfl⟩, _, rfl, _, W, (gs.map fun p => wrd p.1.toNat p.2).map SX.S, rfl, rfl, .inl (seqL_of (by rw [hWA, List.map_map, List.map_map]; rfl)), ?_, ?_⟩
              · rw [SX.lens, List.length_map, ← ewr, show (", " : Str).length = 2 from by decide +kernel]
                have a1 := Nat.mul_le_mul_right 208 lwg
                omega
              · rw [s_sep, SX.join_S, esh]
                walk_at "sq go"
                refine ⟨⟨rdg, read_shown nwg, fun l3 H3 s3 nl3 hl3 => ?_⟩⟩
                walk_at "sq go"
                refine ⟨⟨m0, midg⟩, fun H4 s4 => ?_⟩
                walk_at "sq go"
                refine ifIN (fun c => absurd rfl c) (fun _ => ?_)
                walk_at "sq go"
                exact ⟨_, _, _, _, _, _, _, _, _, _, _, _, _, _, rfl, Sep3.mono (((hsA.on s3).on s4).weak ((same_new gp).trans ((same_new gp2).trans (same_new gW)))) (by omega), hi9⟩
          · skip
            walk_at "sq go"
            refine ⟨⟨by decide, by decide, by omega⟩, fun many J1 m0 m1 hs12 => ?_⟩
            walk_at "sq go"
            intro W nW
            have gW := hs12.free nW
            have hs13 := hs12.new nW (.lst [])
            walk_at "sq go"
            refine ⟨⟨by decide, by decide, by omega⟩, fun m9 J2 m90 m99 hs14 => ?_⟩
            walk_at "sq go"
            refine for_range (lo := 0) (n := (1 + m9).toNat) (fun j σ H' => Keep (∃ gs zz y12 y13 y14 y15, σ = [some (.ref p0), some (.ref r), zz, some (.ref p), some (.ref p2), some (.str (SX.S (showL ns))), some (.int cut), some (.str (SX.S sg)), some (.str (SX.S bent)), some (.int many), some (.int (sqz many (ungrp gs))), some (.ref W), y12, y13, y14, y15] ∧
                Sep (rg3 r (2000 * i + 310 + 5 * j)) (upd (upd (upd H p (.lst (iv ns))) p2 (.lst (iv ms))) W (.lst (gs.map fun p => V.str (SX.S (wrd p.1.toNat p.2))))) H' ∧ GsOk gs j)) ⟨[], _, _, _, _, _, rfl, Sep3.mono hs14 (by omega), gs_nil⟩ (fun j σ H' hj h => ?_) (fun σ H' h => ?_)
            · obtain ⟨gs, zz, y12, y13, y14, y15, rfl, hsA, gok⟩ := h.o
              have j9 : j < 9 := by omega
              walk_at "sq go"
              refine ⟨⟨by decide, by decide, by omega⟩, fun d J3 d0 d9 hsB => ?_⟩
              have w9 : CMulW 9 d := Sm.wide (a := 10) (b := 10) (by unfold Sm; decide) (by unfold Sm; omega) (by decide) (by decide) (by decide)
              walk_at "sq go"
              refine ⟨⟨by decide, by decide, by omega⟩, fun t J4 t0 t60 hsC => ?_⟩
              have hW4 := hsC.get upd_same
              obtain ⟨N, eN⟩ : ∃ N : Int, N = 2 + (0 + ((j : Nat) : Int)) + 9 * d := ⟨_, rfl⟩
              have gok2 := gok.more (N := N) (T := 2 + t) (d := d) (by omega) d0 d9 (by omega) (by omega) j9
              have N2 : 2 ≤ N := by omega
              have N200 : N < 200 := by omega
              have lgn := num_lg (k := N) (by omega) (Int.lt_trans N200 (by decide))
              have lgt := num_lg (k := 2 + t) (by omega) (Int.lt_of_lt_of_le (show 2 + t < 100 by omega) (by decide))
              have ln : (TL.numL N.toNat).length ≤ 3 := TL.numL_len (by decide) (by omega)
              have lt : (TL.numL (2 + t).toNat).length ≤ 2 := TL.numL_len (by decide) (by omega)
              have z1 : (Str.ofString (toString N)).length + ("^" : Str).length ≤ sizeLine := by
                rw [s_pow, s_num (by omega), SX.S_len, SX.S_len, sizeLine_eq]
                show _ + 1 ≤ _
                omega
              have z2 : (Str.ofString (toString N) ++ ("^" : Str)).length + (Str.ofString (toString (2 + t))).length ≤ sizeLine := by
                rw [s_pow, s_num (by omega), s_num (by omega), SX.S_cat, SX.S_len, SX.S_len, sizeLine_eq, List.length_append]
                show _ + 1 + _ ≤ _
                omega
              have eF : Str.ofString (toString N) ++ ("^" : Str) ++ Str.ofString (toString (2 + t)) = SX.S (wrd N.toNat (2 + t).toNat) := by
                rw [s_pow, s_num (by omega), s_num (by omega), SX.S_cat, SX.S_cat]
                unfold wrd
                rw [if_pos (by omega)]
                simp
              have lW : (gs.map fun p => V.str (SX.S (wrd p.1.toNat p.2))).length < sizeLine := by
                have := gok.1
                rw [List.length_map]
                exact ltW (by omega)
              subst eN
              walk_at "sq go"
              have hsD := hsC.put upd_same (.lst ((gs.map fun p => V.str (SX.S (wrd p.1.toNat p.2))) ++ [V.str (Str.ofString (toString (2 + (0 + ((j : Nat) : Int)) + 9 * d)) ++ ("^" : Str) ++ Str.ofString (toString (2 + t)))]))
              rw [upd_upd] at hsD
              have em : (gs.map fun p => V.str (SX.S (wrd p.1.toNat p.2))) ++ [V.str (Str.ofString (toString (2 + (0 + ((j : Nat) : Int)) + 9 * d)) ++ ("^" : Str) ++ Str.ofString (toString (2 + t)))] = (gs ++ [(2 + (0 + ((j : Nat) : Int)) + 9 * d, (2 + t).toNat)]).map fun p => V.str (SX.S (wrd p.1.toNat p.2)) := by
                rw [eF, List.map_append]
                rfl
              rw [em] at hsD
              rw [em]
              have hmid : Mid [2 + (0 + ((j : Nat) : Int)) + 9 * d] := fun k hk => by
                rw [List.mem_singleton.mp hk]
                omega
              have gtwo : Two (ungrp gs) := fun k hk => (gok.two k hk).1
              have mn := sqz_nn m0 gtwo
              refine for_range (lo := 0) (n := (2 + t).toNat) (fun l σ H' => Keep (∃ y15, σ = [some (.ref p0), some (.ref r), zz, some (.ref p), some (.ref p2), some (.str (SX.S (showL ns))), some (.int cut), some (.str (SX.S sg)), some (.str (SX.S bent)), some (.int many), some (.int (sqz (sqz many (ungrp gs)) (List.replicate l (2 + (0 + ((j : Nat) : Int)) + 9 * d)))), some (.ref W), some (.int (0 + ((j : Nat) : Int))), some (.int (2 + (0 + ((j : Nat) : Int)) + 9 * d)), some (.int (2 + t)), y15] ∧
                  Sep (rg3 r (2000 * i + 310 + 5 * j + 5)) (upd (upd (upd H p (.lst (iv ns))) p2 (.lst (iv ms))) W (.lst ((gs ++ [(2 + (0 + ((j : Nat) : Int)) + 9 * d, (2 + t).toNat)]).map fun p => V.str (SX.S (wrd p.1.toNat p.2))))) H')) ⟨_, rfl, Sep3.mono hsD (by omega)⟩ (fun l σ H' hl h => ?_) (fun σ H' h => ?_)
              · obtain ⟨y15, rfl, hsE⟩ := h.o
                walk_at "sq go"
                intro e ne
                have hE : SqL K (upd H' e (.lst [.int (2 + (0 + ((j : Nat) : Int)) + 9 * d)])) e (iv [2 + (0 + ((j : Nat) : Int)) + 9 * d]) := seqL_of upd_same
                have hsF := hsE.on (same_new (o := .lst [.int (2 + (0 + ((j : Nat) : Int)) + 9 * d)]) ne)
                have mn2 := sqz_nn mn (row := List.replicate l (2 + (0 + ((j : Nat) : Int)) + 9 * d)) fun k hk => by
                  rw [List.eq_of_mem_replicate hk]
                  omega
                walk_at "sq go"
                refine ⟨⟨mn2, hmid⟩, fun H2 s2 => ?_⟩
                walk_at "sq go"
                refine ⟨some (.int (0 + ((l : Nat) : Int))), ?_, hsF.on s2⟩
                rw [List.replicate_succ', sqz_app]
                rfl
              · obtain ⟨y15, rfl, hsE⟩ := h.o
                refine ⟨gs ++ [(2 + (0 + ((j : Nat) : Int)) + 9 * d, (2 + t).toNat)], zz, some (.int (0 + ((j : Nat) : Int))), some (.int (2 + (0 + ((j : Nat) : Int)) + 9 * d)), some (.int (2 + t)), y15, ?_, Sep3.mono hsE (by omega), gok2.1⟩
                rw [gok2.2, sqz_app]
            · obtain ⟨gs, zz, y12, y13, y14, y15, rfl, hsA, gok⟩ := h.o
              have hWA := hsA.get upd_same
              have ljn : gs.length = (1 + m9).toNat := gok.1
              have gne : ungrp gs ≠ [] := fun z => by
                have := gok.2.1
                rw [z] at this
                have : gs = [] := this.symm
                rw [this] at ljn
                simp at ljn
                omega
              have ewr : wrds (ungrp gs) = gs.map fun p => wrd p.1.toNat p.2 := by
                unfold wrds
                rw [gok.2.1]
              have esh : TL.joinL [44, 32] (gs.map fun p => wrd p.1.toNat p.2) = showL (ungrp gs) := by
                unfold showL
                rw [if_neg gne, ewr]
              have lgs : (ungrp gs).length ≤ gs.length * 61 := ungrp_len fun p hp => (gok.2.2.1 p hp).2.2.2
              have nwg : NiceW (ungrp gs) := by
                refine ⟨fun k hk => ?_, ?_, ?_⟩
                · have := gok.two k hk
                  exact ⟨this.1, Int.lt_trans this.2 (by decide)⟩
                · have : gs.length ≤ 9 := by omega
                  omega
                · rw [gok.2.1]
                  omega
              have lnw := nwg.words
              have lsum := sum_le lnw.1
              have ljo := join_len [44, 32] (wrds (ungrp gs))
              have lwg : (wrds (ungrp gs)).length ≤ 9 := by
                rw [ewr, List.length_map]
                omega
              have lsh : (showL (ungrp gs)).length ≤ 2000 := by
                rw [← esh, ← ewr]
                have a1 := Nat.mul_le_mul_right 208 lwg
                have a2 : (wrds (ungrp gs)).length * ([44, 32] : List Nat).length ≤ 9 * 2 := Nat.mul_le_mul_right 2 lwg
                omega
              have rdg : RdOk (showL (ungrp gs)) := rd_show (k := 2) (fun p hp => by
                rw [gok.2.1] at hp
                have := (gok.2.2.1 p hp).2.2
                exact TL.numL_len (by decide) (by omega)) (by decide) (by omega)
              have midg : Mid (ungrp gs) := fun k hk => by
                have := gok.two k hk
                exact ⟨this.1, Int.lt_trans this.2 (by decide)⟩
              walk_at "sq go"
              refine ⟨⟨_, rfl⟩, _, rfl, _, W, (gs.map fun p => wrd p.1.toNat p.2).map SX.S, rfl, rfl, .inl (seqL_of (by rw [hWA, List.map_map, List.map_map]; rfl)), ?_, ?_⟩
              · rw [SX.lens, List.length_map, ← ewr, show (", " : Str).length = 2 from by decide +kernel]
                have a1 := Nat.mul_le_mul_right 208 lwg
                omega
              · rw [s_sep, SX.join_S, esh]
                walk_at "sq go"
                refine ⟨⟨rdg, read_shown nwg, fun l3 H3 s3 nl3 hl3 => ?_⟩⟩
                walk_at "sq go"
                refine ⟨⟨m0, midg⟩, fun H4 s4 => ?_⟩
                walk_at "sq go"
                refine ifIN (fun c => absurd rfl c) (fun _ => ?_)
                walk_at "sq go"
                exact ⟨_, _, _, _, _, _, _, _, _, _, _, _, _, _, rfl, Sep3.mono (((hsA.on s3).on s4).weak ((same_new gp).trans ((same_new gp2).trans (same_new gW)))) (by omega), hi9⟩
        · skip
          walk_at "sq go"
          refine ⟨⟨by decide, by decide, by omega⟩, fun many J1 m0 m1 hs12 => ?_⟩
          walk_at "sq go"
          intro W nW
          have gW := hs12.free nW
          have hs13 := hs12.new nW (.lst [])
          walk_at "sq go"
          refine ⟨⟨by decide, by decide, by omega⟩, fun m9 J2 m90 m99 hs14 => ?_⟩
          walk_at "sq go"
          refine for_range (lo := 0) (n := (1 + m9).toNat) (fun j σ H' => Keep (∃ gs zz y12 y13 y14 y15, σ = [some (.ref p0), some (.ref r), zz, some (.ref p), some (.ref p2), some (.str (SX.S (showL ns))), some (.int cut), some (.str (SX.S sg)), some (.str (SX.S bent)), some (.int many), some (.int (sqz many (ungrp gs))), some (.ref W), y12, y13, y14, y15] ∧
              Sep (rg3 r (2000 * i + 310 + 5 * j)) (upd (upd (upd H p (.lst (iv ns))) p2 (.lst (iv ms))) W (.lst (gs.map fun p => V.str (SX.S (wrd p.1.toNat p.2))))) H' ∧ GsOk gs j)) ⟨[], _, _, _, _, _, rfl, Sep3.mono hs14 (by omega), gs_nil⟩ (fun j σ H' hj h => ?_) (fun σ H' h => ?_)
          · obtain ⟨gs, zz, y12, y13, y14, y15, rfl, hsA, gok⟩ := h.o
            have j9 : j < 9 := by omega
            walk_at "sq go"
            refine ⟨⟨by decide, by decide, by omega⟩, fun d J3 d0 d9 hsB => ?_⟩
            have w9 : CMulW 9 d := Sm.wide (a := 10) (b := 10) (by unfold Sm; decide) (by unfold Sm; omega) (by decide) (by decide) (by decide)
            walk_at "sq go"
            refine ⟨⟨by decide, by decide, by omega⟩, fun t J4 t0 t60 hsC => ?_⟩
            have hW4 := hsC.get upd_same
            obtain ⟨N, eN⟩ : ∃ N : Int, N = 2 + (0 + ((j : Nat) : Int)) + 9 * d := ⟨_, rfl⟩
            have gok2 := gok.more (N := N) (T := 2 + t) (d := d) (by omega) d0 d9 (by omega) (by omega) j9
            have N2 : 2 ≤ N := by omega
            have N200 : N < 200 := by omega
            have lgn := num_lg (k := N) (by omega) (Int.lt_trans N200 (by decide))
            have lgt := num_lg (k := 2 + t) (by omega) (Int.lt_of_lt_of_le (show 2 + t < 100 by omega) (by decide))
            have ln : (TL.numL N.toNat).length ≤ 3 := TL.numL_len (by decide) (by omega)
            have lt : (TL.numL (2 + t).toNat).length ≤ 2 := TL.numL_len (by decide) (by omega)
            have z1 : (Str.ofString (toString N)).length + ("^" : Str).length ≤ sizeLine := by
              rw [s_pow, s_num (by omega), SX.S_len, SX.S_len, sizeLine_eq]
              show _ + 1 ≤ _
              omega
            have z2 : (Str.ofString (toString N) ++ ("^" : Str)).length + (Str.ofString (toString (2 + t))).length ≤ sizeLine := by
              rw [s_pow, s_num (by omega), s_num (by omega), SX.S_cat, SX.S_len, SX.S_len, sizeLine_eq, List.length_append]
              show _ + 1 + _ ≤ _
              omega
            have eF : Str.ofString (toString N) ++ ("^" : Str) ++ Str.ofString (toString (2 + t)) = SX.S (wrd N.toNat (2 + t).toNat) := by
              rw [s_pow, s_num (by omega), s_num (by omega), SX.S_cat, SX.S_cat]
              unfold wrd
              rw [if_pos (by omega)]
              simp
            have lW : (gs.map fun p => V.str (SX.S (wrd p.1.toNat p.2))).length < sizeLine := by
              have := gok.1
              rw [List.length_map]
              exact ltW (by omega)
            subst eN
            walk_at "sq go"
            have hsD := hsC.put upd_same (.lst ((gs.map fun p => V.str (SX.S (wrd p.1.toNat p.2))) ++ [V.str (Str.ofString (toString (2 + (0 + ((j : Nat) : Int)) + 9 * d)) ++ ("^" : Str) ++ Str.ofString (toString (2 + t)))]))
            rw [upd_upd] at hsD
            have em : (gs.map fun p => V.str (SX.S (wrd p.1.toNat p.2))) ++ [V.str (Str.ofString (toString (2 + (0 + ((j : Nat) : Int)) + 9 * d)) ++ ("^" : Str) ++ Str.ofString (toString (2 + t)))] = (gs ++ [(2 + (0 + ((j : Nat) : Int)) + 9 * d, (2 + t).toNat)]).map fun p => V.str (SX.S (wrd p.1.toNat p.2)) := by
              rw [eF, List.map_append]
              rfl
            rw [em] at hsD
            rw [em]
            have hmid : Mid [2 + (0 + ((j : Nat) : Int)) + 9 * d] := fun k hk => by
              rw [List.mem_singleton.mp hk]
              omega
            have gtwo : Two (ungrp gs) := fun k hk => (gok.two k hk).1
            have mn := sqz_nn m0 gtwo
            refine for_range (lo := 0) (n := (2 + t).toNat) (fun l σ H' => Keep (∃ y15, σ = [some (.ref p0), some (.ref r), zz, some (.ref p), some (.ref p2), some (.str (SX.S (showL ns))), some (.int cut), some (.str (SX.S sg)), some (.str (SX.S bent)), some (.int many), some (.int (sqz (sqz many (ungrp gs)) (List.replicate l (2 + (0 + ((j : Nat) : Int)) + 9 * d)))), some (.ref W), some (.int (0 + ((j : Nat) : Int))), some (.int (2 + (0 + ((j : Nat) : Int)) + 9 * d)), some (.int (2 + t)), y15] ∧
                Sep (rg3 r (2000 * i + 310 + 5 * j + 5)) (upd (upd (upd H p (.lst (iv ns))) p2 (.lst (iv ms))) W (.lst ((gs ++ [(2 + (0 + ((j : Nat) : Int)) + 9 * d, (2 + t).toNat)]).map fun p => V.str (SX.S (wrd p.1.toNat p.2))))) H')) ⟨_, rfl, Sep3.mono hsD (by omega)⟩ (fun l σ H' hl h => ?_) (fun σ H' h => ?_)
            · obtain ⟨y15, rfl, hsE⟩ := h.o
              walk_at "sq go"
              intro e ne
              have hE : SqL K (upd H' e (.lst [.int (2 + (0 + ((j : Nat) : Int)) + 9 * d)])) e (iv [2 + (0 + ((j : Nat) : Int)) + 9 * d]) := seqL_of upd_same
              have hsF := hsE.on (same_new (o := .lst [.int (2 + (0 + ((j : Nat) : Int)) + 9 * d)]) ne)
              have mn2 := sqz_nn mn (row := List.replicate l (2 + (0 + ((j : Nat) : Int)) + 9 * d)) fun k hk => by
                rw [List.eq_of_mem_replicate hk]
                omega
              walk_at "sq go"
              refine ⟨⟨mn2, hmid⟩, fun H2 s2 => ?_⟩
              walk_at "sq go"
              refine ⟨some (.int (0 + ((l : Nat) : Int))), ?_, hsF.on s2⟩
              rw [List.replicate_succ', sqz_app]
              rfl
            · obtain ⟨y15, rfl, hsE⟩ := h.o
              refine ⟨gs ++ [(2 + (0 + ((j : Nat) : Int)) + 9 * d, (2 + t).toNat)], zz, some (.int (0 + ((j : Nat) : Int))), some (.int (2 + (0 + ((j : Nat) : Int)) + 9 * d)), some (.int (2 + t)), y15, ?_, Sep3.mono hsE (by omega), gok2.1⟩
              rw [gok2.2, sqz_app]
          · obtain ⟨gs, zz, y12, y13, y14, y15, rfl, hsA, gok⟩ := h.o
            have hWA := hsA.get upd_same
            have ljn : gs.length = (1 + m9).toNat := gok.1
            have gne : ungrp gs ≠ [] := fun z => by
              have := gok.2.1
              rw [z] at this
              have : gs = [] := this.symm
              rw [this] at ljn
              simp at ljn
              omega
            have ewr : wrds (ungrp gs) = gs.map fun p => wrd p.1.toNat p.2 := by
              unfold wrds
              rw [gok.2.1]
            have esh : TL.joinL [44, 32] (gs.map fun p => wrd p.1.toNat p.2) = showL (ungrp gs) := by
              unfold showL
              rw [if_neg gne, ewr]
            have lgs : (ungrp gs).length ≤ gs.length * 61 := ungrp_len fun p hp => (gok.2.2.1 p hp).2.2.2
            have nwg : NiceW (ungrp gs) := by
              refine ⟨fun k hk => ?_, ?_, ?_⟩
              · have := gok.two k hk
                exact ⟨this.1, Int.lt_trans this.2 (by decide)⟩
              · have : gs.length ≤ 9 := by omega
                omega
              · rw [gok.2.1]
                omega
            have lnw := nwg.words
            have lsum := sum_le lnw.1
            have ljo := join_len [44, 32] (wrds (ungrp gs))
            have lwg : (wrds (ungrp gs)).length ≤ 9 := by
              rw [ewr, List.length_map]
              omega
            have lsh : (showL (ungrp gs)).length ≤ 2000 := by
              rw [← esh, ← ewr]
              have a1 := Nat.mul_le_mul_right 208 lwg
              have a2 : (wrds (ungrp gs)).length * ([44, 32] : List Nat).length ≤ 9 * 2 := Nat.mul_le_mul_right 2 lwg
              omega
            have rdg : RdOk (showL (ungrp gs)) := rd_show (k := 2) (fun p hp => by
              rw [gok.2.1] at hp
              have := (gok.2.2.1 p hp).2.2
              exact TL.numL_len (by decide) (by omega)) (by decide) (by omega)
            have midg : Mid (ungrp gs) := fun k hk => by
              have := gok.two k hk
              exact ⟨this.1, Int.lt_trans this.2 (by decide)⟩
            walk_at "sq go"
            refine ⟨⟨_, rfl⟩, _, rfl, _, W, (gs.map fun p => wrd p.1.toNat p.2).map SX.S, rfl, rfl, .inl (seqL_of (by rw [hWA, List.map_map, List.map_map]; rfl)), ?_, ?_⟩
            · rw [SX.lens, List.length_map, ← ewr, show (", " : Str).length = 2 from by decide +kernel]
              have a1 := Nat.mul_le_mul_right 208 lwg
              omega
            · rw [s_sep, SX.join_S, esh]
              walk_at "sq go"
              refine ⟨⟨rdg, read_shown nwg, fun l3 H3 s3 nl3 hl3 => ?_⟩⟩
              walk_at "sq go"
              refine ⟨⟨m0, midg⟩, fun H4 s4 => ?_⟩
              walk_at "sq go"
              refine ifIN (fun c => absurd rfl c) (fun _ => ?_)
              walk_at "sq go"
              exact ⟨_, _, _, _, _, _, _, _, _, _, _, _, _, _, rfl, Sep3.mono (((hsA.on s3).on s4).weak ((same_new gp).trans ((same_new gp2).trans (same_new gW)))) (by omega), hi9⟩
      · skip
        walk_at "sq go"
        refine ⟨⟨by decide, by decide, by omega⟩, fun many J1 m0 m1 hs12 => ?_⟩
        walk_at "sq go"
        intro W nW
        have gW := hs12.free nW
        have hs13 := hs12.new nW (.lst [])
        walk_at "sq go"
        refine ⟨⟨by decide, by decide, by omega⟩, fun m9 J2 m90 m99 hs14 => ?_⟩
        walk_at "sq go"
        refine for_range (lo := 0) (n := (1 + m9).toNat) (fun j σ H' => Keep (∃ gs zz y12 y13 y14 y15, σ = [some (.ref p0), some (.ref r), zz, some (.ref p), some (.ref p2), some (.str (SX.S (showL ns))), some (.int cut), some (.str (SX.S sg)), some (.str (SX.S bent)), some (.int many), some (.int (sqz many (ungrp gs))), some (.ref W), y12, y13, y14, y15] ∧
            Sep (rg3 r (2000 * i + 310 + 5 * j)) (upd (upd (upd H p (.lst (iv ns))) p2 (.lst (iv ms))) W (.lst (gs.map fun p => V.str (SX.S (wrd p.1.toNat p.2))))) H' ∧ GsOk gs j)) ⟨[], _, _, _, _, _, rfl, Sep3.mono hs14 (by omega), gs_nil⟩ (fun j σ H' hj h => ?_) (fun σ H' h => ?_)
        · obtain ⟨gs, zz, y12, y13, y14, y15, rfl, hsA, gok⟩ := h.o
          have j9 : j < 9 := by omega
          walk_at "sq go"
          refine ⟨⟨by decide, by decide, by omega⟩, fun d J3 d0 d9 hsB => ?_⟩
          have w9 : CMulW 9 d := Sm.wide (a := 10) (b := 10) (by unfold Sm; decide) (by unfold Sm; omega) (by decide) (by decide) (by decide)
          walk_at "sq go"
          refine ⟨⟨by decide, by decide, by omega⟩, fun t J4 t0 t60 hsC => ?_⟩
          have hW4 := hsC.get upd_same
          obtain ⟨N, eN⟩ : ∃ N : Int, N = 2 + (0 + ((j : Nat) : Int)) + 9 * d := ⟨_, rfl⟩
          have gok2 := gok.more (N := N) (T := 2 + t) (d := d) (by omega) d0 d9 (by omega) (by omega) j9
          have N2 : 2 ≤ N := by omega
          have N200 : N < 200 := by omega
          have lgn := num_lg (k := N) (by omega) (Int.lt_trans N200 (by decide))
          have lgt := num_lg (k := 2 + t) (by omega) (Int.lt_of_lt_of_le (show 2 + t < 100 by omega) (by decide))
          have ln : (TL.numL N.toNat).length ≤ 3 := TL.numL_len (by decide) (by omega)
          have lt : (TL.numL (2 + t).toNat).length ≤ 2 := TL.numL_len (by decide) (by omega)
          have z1 : (Str.ofString (toString N)).length + ("^" : Str).length ≤ sizeLine := by
            rw [s_pow, s_num (by omega), SX.S_len, SX.S_len, sizeLine_eq]
            show _ + 1 ≤ _
            omega
          have z2 : (Str.ofString (toString N) ++ ("^" : Str)).length + (Str.ofString (toString (2 + t))).length ≤ sizeLine := by
            rw [s_pow, s_num (by omega), s_num (by omega), SX.S_cat, SX.S_len, SX.S_len, sizeLine_eq, List.length_append]
            show _ + 1 + _ ≤ _
            omega
          have eF : Str.ofString (toString N) ++ ("^" : Str) ++ Str.ofString (toString (2 + t)) = SX.S (wrd N.toNat (2 + t).toNat) := by
            rw [s_pow, s_num (by omega), s_num (by omega), SX.S_cat, SX.S_cat]
            unfold wrd
            rw [if_pos (by omega)]
            simp
          have lW : (gs.map fun p => V.str (SX.S (wrd p.1.toNat p.2))).length < sizeLine := by
            have := gok.1
            rw [List.length_map]
            exact ltW (by omega)
          subst eN
          walk_at "sq go"
          have hsD := hsC.put upd_same (.lst ((gs.map fun p => V.str (SX.S (wrd p.1.toNat p.2))) ++ [V.str (Str.ofString (toString (2 + (0 + ((j : Nat) : Int)) + 9 * d)) ++ ("^" : Str) ++ Str.ofString (toString (2 + t)))]))
          rw [upd_upd] at hsD
          have em : (gs.map fun p => V.str (SX.S (wrd p.1.toNat p.2))) ++ [V.str (Str.ofString (toString (2 + (0 + ((j : Nat) : Int)) + 9 * d)) ++ ("^" : Str) ++ Str.ofString (toString (2 + t)))] = (gs ++ [(2 + (0 + ((j : Nat) : Int)) + 9 * d, (2 + t).toNat)]).map fun p => V.str (SX.S (wrd p.1.toNat p.2)) := by
            rw [eF, List.map_append]
            rfl
          rw [em] at hsD
          rw [em]
          have hmid : Mid [2 + (0 + ((j : Nat) : Int)) + 9 * d] := fun k hk => by
            rw [List.mem_singleton.mp hk]
            omega
          have gtwo : Two (ungrp gs) := fun k hk => (gok.two k hk).1
          have mn := sqz_nn m0 gtwo
          refine for_range (lo := 0) (n := (2 + t).toNat) (fun l σ H' => Keep (∃ y15, σ = [some (.ref p0), some (.ref r), zz, some (.ref p), some (.ref p2), some (.str (SX.S (showL ns))), some (.int cut), some (.str (SX.S sg)), some (.str (SX.S bent)), some (.int many), some (.int (sqz (sqz many (ungrp gs)) (List.replicate l (2 + (0 + ((j : Nat) : Int)) + 9 * d)))), some (.ref W), some (.int (0 + ((j : Nat) : Int))), some (.int (2 + (0 + ((j : Nat) : Int)) + 9 * d)), some (.int (2 + t)), y15] ∧
              Sep (rg3 r (2000 * i + 310 + 5 * j + 5)) (upd (upd (upd H p (.lst (iv ns))) p2 (.lst (iv ms))) W (.lst ((gs ++ [(2 + (0 + ((j : Nat) : Int)) + 9 * d, (2 + t).toNat)]).map fun p => V.str (SX.S (wrd p.1.toNat p.2))))) H')) ⟨_, rfl, Sep3.mono hsD (by omega)⟩ (fun l σ H' hl h => ?_) (fun σ H' h => ?_)
          · obtain ⟨y15, rfl, hsE⟩ := h.o
            walk_at "sq go"
            intro e ne
            have hE : SqL K (upd H' e (.lst [.int (2 + (0 + ((j : Nat) : Int)) + 9 * d)])) e (iv [2 + (0 + ((j : Nat) : Int)) + 9 * d]) := seqL_of upd_same
            have hsF := hsE.on (same_new (o := .lst [.int (2 + (0 + ((j : Nat) : Int)) + 9 * d)]) ne)
            have mn2 := sqz_nn mn (row := List.replicate l (2 + (0 + ((j : Nat) : Int)) + 9 * d)) fun k hk => by
              rw [List.eq_of_mem_replicate hk]
              omega
            walk_at "sq go"
            refine ⟨⟨mn2, hmid⟩, fun H2 s2 => ?_⟩
            walk_at "sq go"
            refine ⟨some (.int (0 + ((l : Nat) : Int))), ?_, hsF.on s2⟩
            rw [List.replicate_succ', sqz_app]
            rfl
          · obtain ⟨y15, rfl, hsE⟩ := h.o
            refine ⟨gs ++ [(2 + (0 + ((j : Nat) : Int)) + 9 * d, (2 + t).toNat)], zz, some (.int (0 + ((j : Nat) : Int))), some (.int (2 + (0 + ((j : Nat) : Int)) + 9 * d)), some (.int (2 + t)), y15, ?_, Sep3.mono hsE (by omega), gok2.1⟩
            rw [gok2.2, sqz_app]
        · obtain ⟨gs, zz, y12, y13, y14, y15, rfl, hsA, gok⟩ := h.o
          have hWA := hsA.get upd_same
          have ljn : gs.length = (1 + m9).toNat := gok.1
          have gne : ungrp gs ≠ [] := fun z => by
            have := gok.2.1
            rw [z] at this
            have : gs = [] := this.symm
            rw [this] at ljn
            simp at ljn
            omega
          have ewr : wrds (ungrp gs) = gs.map fun p => wrd p.1.toNat p.2 := by
            unfold wrds
            rw [gok.2.1]
          have esh : TL.joinL [44, 32] (gs.map fun p => wrd p.1.toNat p.2) = showL (ungrp gs) := by
            unfold showL
            rw [if_neg gne, ewr]
          have lgs : (ungrp gs).length ≤ gs.length * 61 := ungrp_len fun p hp => (gok.2.2.1 p hp).2.2.2
          have nwg : NiceW (ungrp gs) := by
            refine ⟨fun k hk => ?_, ?_, ?_⟩
            · have := gok.two k hk
              exact ⟨this.1, Int.lt_trans this.2 (by decide)⟩
            · have : gs.length ≤ 9 := by omega
              omega
            · rw [gok.2.1]
              omega
          have lnw := nwg.words
          have lsum := sum_le lnw.1
          have ljo := join_len [44, 32] (wrds (ungrp gs))
          have lwg : (wrds (ungrp gs)).length ≤ 9 := by
            rw [ewr, List.length_map]
            omega
          have lsh : (showL (ungrp gs)).length ≤ 2000 := by
            rw [← esh, ← ewr]
            have a1 := Nat.mul_le_mul_right 208 lwg
            have a2 : (wrds (ungrp gs)).length * ([44, 32] : List Nat).length ≤ 9 * 2 := Nat.mul_le_mul_right 2 lwg
            omega
          have rdg : RdOk (showL (ungrp gs)) := rd_show (k := 2) (fun p hp => by
            rw [gok.2.1] at hp
            have := (gok.2.2.1 p hp).2.2
            exact TL.numL_len (by decide) (by omega)) (by decide) (by omega)
          have midg : Mid (ungrp gs) := fun k hk => by
            have := gok.two k hk
            exact ⟨this.1, Int.lt_trans this.2 (by decide)⟩
          walk_at "sq go"
          refine ⟨⟨_, rfl⟩, _, rfl, _, W, (gs.map fun p => wrd p.1.toNat p.2).map SX.S, rfl, rfl, .inl (seqL_of (by rw [hWA, List.map_map, List.map_map]; rfl)), ?_, ?_⟩
          · rw [SX.lens, List.length_map, ← ewr, show (", " : Str).length = 2 from by decide +kernel]
            have a1 := Nat.mul_le_mul_right 208 lwg
            omega
          · rw [s_sep, SX.join_S, esh]
            walk_at "sq go"
            refine ⟨⟨rdg, read_shown nwg, fun l3 H3 s3 nl3 hl3 => ?_⟩⟩
            walk_at "sq go"
            refine ⟨⟨m0, midg⟩, fun H4 s4 => ?_⟩
            walk_at "sq go"
            refine ifIN (fun c => absurd rfl c) (fun _ => ?_)
            walk_at "sq go"
            exact ⟨_, _, _, _, _, _, _, _, _, _, _, _, _, _, rfl, Sep3.mono (((hsA.on s3).on s4).weak ((same_new gp).trans ((same_new gp2).trans (same_new gW)))) (by omega), hi9⟩
    · obtain ⟨x2, x3, x4, x5, x6, x7, x8, x9, x10, x11, x12, x13, x14, x15, rfl, hs, hi8⟩ := h.o
      have rdn : RdOk noneL := ⟨by decide, by decide, fun a b e => by
        have : 94 ∈ noneL := by rw [e]; simp
        exact absurd this (by decide)⟩
      have rd2 : RdOk [50, 44, 32, 50] := ⟨by decide, by decide, fun a b e => by
        have : 94 ∈ [50, 44, 32, 50] := by rw [e]; simp
        exact absurd this (by decide)⟩
      have ern : readR noneL = some [] := rfl
      have s22 : ("2, 2" : Str) = SX.S [50, 44, 32, 50] := by decide +kernel
      have rdn' : RdOk ("none" : Str).cps.toList := by
        rw [s_none]
        exact rdn
      have rd2' : RdOk ("2, 2" : Str).cps.toList := by
        rw [s22]
        exact rd2
      have ern' : readR ("none" : Str).cps.toList = some [] := by
        rw [s_none]
        exact ern
      walk_at "sq go"
      refine ⟨⟨rdn'⟩, fun H2 s2 => ?_⟩
      walk_at "sq go"
      refine ⟨⟨rd2'⟩, fun H3 s3 => ?_⟩
      walk_at "sq go"
      refine ⟨⟨rdn', ern', fun l H4 s4 nl hl4 => ?_⟩⟩
      walk_at "sq go"
      intro e ne
      refine r_eqI (xs := []) (ys := []) (seqL_of (upd_keep ne hl4)) (seqL_of upd_same) ?_
      exact q _
end
end Sq
open PySem PySem.W PyProof.Rows in
set_option maxRecDepth 100000 in
set_option maxHeartbeats 0 in
theorem PySem.Challenge.cw_squeezelists_k42_whole_texts_of_lists_holds : PySem.Challenge.rw_squeezelists_k42_whole_texts_of_lists.Holds := by
  w_on; o_law; k_head; (case hw => w_witness2)
  k_fill
  refine Sq.walk_ofG (l := PySem.Challenge.rw_squeezelists_k42_whole_texts_of_lists) (n := 63) (k := 6) (x := "script") (sp := Sq.spLaw) rfl (by decide) rfl ⟨rfl, by decide, by decide⟩ (fun w h Y => PySem.W.kIn_of Y) ?F (fun K H a ns hl hS => ⟨a, ns, rfl, hS, hl, fun _ => rfl⟩)
  case F =>
    intro w mg fa h KX G hmg
    have B : Sq.Bt mg := by
      refine' ⟨PySem.W.mg_none_of KX G ?z0, PySem.W.mg_none_of KX G ?z1, PySem.W.mg_none_of KX G ?z2, PySem.W.mg_none_of KX G ?z3, PySem.W.mg_none_of KX G ?z4, PySem.W.mg_none_of KX G ?z5, PySem.W.mg_none_of KX G ?z6, PySem.W.mg_none_of KX G ?z7, PySem.W.mg_none_of KX G ?z8, PySem.W.mg_none_of KX G ?z9, PySem.W.mg_none_of KX G ?z10⟩
      (case z0 => k_is)
      (case z1 => k_is)
      (case z2 => k_is)
      (case z3 => k_is)
      (case z4 => k_is)
      (case z5 => k_is)
      (case z6 => k_is)
      (case z7 => k_is)
      (case z8 => k_is)
      (case z9 => k_is)
      (case z10 => k_is)
    have g_SEPARATOR : ∃ u, mg "SEPARATOR" = some u ∧ L2.RelV (L2.V.str ", ") u := by
      refine' ⟨?u_SEPARATOR, PySem.W.mg_of KX G ?a_SEPARATOR, ?r_SEPARATOR⟩
      (case a_SEPARATOR => k_is)
      (case r_SEPARATOR => first | exact ⟨_, rfl⟩ | exact ⟨_, congrArg (fun z => PySem.Value.str z _) (by decide +kernel)⟩)
    have g_POWER : ∃ u, mg "POWER" = some u ∧ L2.RelV (L2.V.str "^") u := by
      refine' ⟨?u_POWER, PySem.W.mg_of KX G ?a_POWER, ?r_POWER⟩
      (case a_POWER => k_is)
      (case r_POWER => first | exact ⟨_, rfl⟩ | exact ⟨_, congrArg (fun z => PySem.Value.str z _) (by decide +kernel)⟩)
    have g_NO_REPLACEMENTS : ∃ u, mg "NO_REPLACEMENTS" = some u ∧ L2.RelV (L2.V.str "none") u := by
      refine' ⟨?u_NO_REPLACEMENTS, PySem.W.mg_of KX G ?a_NO_REPLACEMENTS, ?r_NO_REPLACEMENTS⟩
      (case a_NO_REPLACEMENTS => k_is)
      (case r_NO_REPLACEMENTS => first | exact ⟨_, rfl⟩ | exact ⟨_, congrArg (fun z => PySem.Value.str z _) (by decide +kernel)⟩)
    have g_DIGITS : ∃ u, mg "DIGITS" = some u ∧ L2.RelV (L2.V.str "0123456789") u := by
      refine' ⟨?u_DIGITS, PySem.W.mg_of KX G ?a_DIGITS, ?r_DIGITS⟩
      (case a_DIGITS => k_is)
      (case r_DIGITS => first | exact ⟨_, rfl⟩ | exact ⟨_, congrArg (fun z => PySem.Value.str z _) (by decide +kernel)⟩)
    have g_MOST_DIGITS : ∃ u, mg "MOST_DIGITS" = some u ∧ L2.RelV (L2.V.int 200) u := by
      refine' ⟨?u_MOST_DIGITS, PySem.W.mg_of KX G ?a_MOST_DIGITS, ?r_MOST_DIGITS⟩
      (case a_MOST_DIGITS => k_is)
      (case r_MOST_DIGITS => first | exact ⟨_, rfl⟩ | exact ⟨_, congrArg (fun z => PySem.Value.str z _) (by decide +kernel)⟩)
    refine' Sq.cutD (Sq.DefAt.mk1 (x := "check_list") (st := Sq.s_check_list) (ps := ["replacements"]) KX G ?a_check_list ?l_check_list ?c_check_list ?k_check_list (fun _ _ _ _ _ _ us hl => match us, hl with | [_], _ => rfl)) ?_
    (case a_check_list => k_is); (case l_check_list => k_is); (case c_check_list => k_is); (case k_check_list => k_is)
    intro D_check_list
    refine' Sq.cutD (Sq.DefAt.mk1 (x := "check_length") (st := Sq.s_check_length) (ps := ["length"]) KX G ?a_check_length ?l_check_length ?c_check_length ?k_check_length (fun _ _ _ _ _ _ us hl => match us, hl with | [_], _ => rfl)) ?_
    (case a_check_length => k_is); (case l_check_length => k_is); (case c_check_length => k_is); (case k_check_length => k_is)
    intro D_check_length
    refine' Sq.cutD (Sq.DefAt.mk1 (x := "squeezed_once") (st := Sq.s_squeezed_once) (ps := ["length", "replacement"]) KX G ?a_squeezed_once ?l_squeezed_once ?c_squeezed_once ?k_squeezed_once (fun _ _ _ _ _ _ us hl => match us, hl with | [_, _], _ => rfl)) ?_
    (case a_squeezed_once => k_is); (case l_squeezed_once => k_is); (case c_squeezed_once => k_is); (case k_squeezed_once => k_is)
    intro D_squeezed_once
    refine' Sq.cutD (Sq.DefAt.mk1 (x := "squeezed_by") (st := Sq.s_squeezed_by) (ps := ["length", "replacements"]) KX G ?a_squeezed_by ?l_squeezed_by ?c_squeezed_by ?k_squeezed_by (fun _ _ _ _ _ _ us hl => match us, hl with | [_, _], _ => rfl)) ?_
    (case a_squeezed_by => k_is); (case l_squeezed_by => k_is); (case c_squeezed_by => k_is); (case k_squeezed_by => k_is)
    intro D_squeezed_by
    refine' Sq.cutD (Sq.DefAt.mk1 (x := "squeezed") (st := Sq.s_squeezed) (ps := ["length", "replacements"]) KX G ?a_squeezed ?l_squeezed ?c_squeezed ?k_squeezed (fun _ _ _ _ _ _ us hl => match us, hl with | [_, _], _ => rfl)) ?_
    (case a_squeezed => k_is); (case l_squeezed => k_is); (case c_squeezed => k_is); (case k_squeezed => k_is)
    intro D_squeezed
    refine' Sq.cutD (Sq.DefAt.mk1 (x := "equal_neighbours") (st := Sq.s_equal_neighbours) (ps := ["replacements"]) KX G ?a_equal_neighbours ?l_equal_neighbours ?c_equal_neighbours ?k_equal_neighbours (fun _ _ _ _ _ _ us hl => match us, hl with | [_], _ => rfl)) ?_
    (case a_equal_neighbours => k_is); (case l_equal_neighbours => k_is); (case c_equal_neighbours => k_is); (case k_equal_neighbours => k_is)
    intro D_equal_neighbours
    refine' Sq.cutD (Sq.DefAt.mk1 (x := "show_list") (st := Sq.s_show_list) (ps := ["replacements"]) KX G ?a_show_list ?l_show_list ?c_show_list ?k_show_list (fun _ _ _ _ _ _ us hl => match us, hl with | [_], _ => rfl)) ?_
    (case a_show_list => k_is); (case l_show_list => k_is); (case c_show_list => k_is); (case k_show_list => k_is)
    intro D_show_list
    refine' Sq.cutD (Sq.DefAt.mk1 (x := "number_in") (st := Sq.s_number_in) (ps := ["word"]) KX G ?a_number_in ?l_number_in ?c_number_in ?k_number_in (fun _ _ _ _ _ _ us hl => match us, hl with | [_], _ => rfl)) ?_
    (case a_number_in => k_is); (case l_number_in => k_is); (case c_number_in => k_is); (case k_number_in => k_is)
    intro D_number_in
    refine' Sq.cutD (Sq.DefAt.mk1 (x := "numbers_in") (st := Sq.s_numbers_in) (ps := ["word"]) KX G ?a_numbers_in ?l_numbers_in ?c_numbers_in ?k_numbers_in (fun _ _ _ _ _ _ us hl => match us, hl with | [_], _ => rfl)) ?_
    (case a_numbers_in => k_is); (case l_numbers_in => k_is); (case c_numbers_in => k_is); (case k_numbers_in => k_is)
    intro D_numbers_in
    refine' Sq.cutD (Sq.DefAt.mk1 (x := "read_list") (st := Sq.s_read_list) (ps := ["text"]) KX G ?a_read_list ?l_read_list ?c_read_list ?k_read_list (fun _ _ _ _ _ _ us hl => match us, hl with | [_], _ => rfl)) ?_
    (case a_read_list => k_is); (case l_read_list => k_is); (case c_read_list => k_is); (case k_read_list => k_is)
    intro D_read_list
    refine' Sq.cutD (Sq.DefAt.mk1 (x := "_law_rng") (st := Sq.s_law_rng) (ps := ["script"]) KX G ?a_law_rng ?l_law_rng ?c_law_rng ?k_law_rng (fun _ _ _ _ _ _ us hl => match us, hl with | [_], _ => rfl)) ?_
    (case a_law_rng => k_is); (case l_law_rng => k_is); (case c_law_rng => k_is); (case k_law_rng => k_is)
    intro D_law_rng
    refine' Sq.cutD (Sq.DefAt.mk1 (x := "_law_draw") (st := Sq.s_law_draw) (ps := ["rng", "limit"]) KX G ?a_law_draw ?l_law_draw ?c_law_draw ?k_law_draw (fun _ _ _ _ _ _ us hl => match us, hl with | [_, _], _ => rfl)) ?_
    (case a_law_draw => k_is); (case l_law_draw => k_is); (case c_law_draw => k_is); (case k_law_draw => k_is)
    intro D_law_draw
    refine' Sq.cutD (Sq.DefAt.mk1 (x := "_law_list") (st := Sq.s_law_list) (ps := ["rng", "most", "greatest"]) KX G ?a_law_list ?l_law_list ?c_law_list ?k_law_list (fun _ _ _ _ _ _ us hl => match us, hl with | [_, _, _], _ => rfl)) ?_
    (case a_law_list => k_is); (case l_law_list => k_is); (case c_law_list => k_is); (case k_law_list => k_is)
    intro D_law_list
    refine' Sq.cutD (Sq.DefAt.mk1 (x := "_law_kept") (st := Sq.s_law_kept) (ps := ["written"]) KX G ?a_law_kept ?l_law_kept ?c_law_kept ?k_law_kept (fun _ _ _ _ _ _ us hl => match us, hl with | [_], _ => rfl)) ?_
    (case a_law_kept => k_is); (case l_law_kept => k_is); (case c_law_kept => k_is); (case k_law_kept => k_is)
    intro D_law_kept
    refine' Sq.cutD (Sq.DefAt.mk1 (x := "law") (st := Sq.s_law) (ps := ["script"]) KX G ?a_law ?l_law ?c_law ?k_law (fun _ _ _ _ _ _ us hl => match us, hl with | [_], _ => rfl)) ?_
    (case a_law => k_is); (case l_law => k_is); (case c_law => k_is); (case k_law => k_is)
    intro D_law
    refine' Sq.cutD (Sq.glob_mk (x := "Unreadable") KX G ?aC_Unreadable) ?_
    (case aC_Unreadable => k_is)
    intro C_Unreadable
    refine' Sq.cutD (Sq.exm_self KX C_Unreadable ?e1_Unreadable ?e2_Unreadable ?e3_Unreadable ?e4_Unreadable) ?_
    (case e1_Unreadable => k_is)
    (case e2_Unreadable => k_is)
    (case e3_Unreadable => k_is)
    (case e4_Unreadable => k_is)
    intro S_Unreadable
    have tx : Sq.TxC mg := ⟨g_SEPARATOR, g_POWER, g_NO_REPLACEMENTS⟩
    have rd : Sq.RdC mg := ⟨g_DIGITS, g_MOST_DIGITS⟩
    obtain ⟨fd, F, hb⟩ := D_law.law hmg (fun _ _ _ _ _ _ us hl => match us, hl with | [_], _ => rfl)
    refine ⟨fd, hb, fun base _ _ => ?_⟩
    refine' Sq.cutD (Sq.rai_mk (P := PySem.Challenge.rw_squeezelists_k42_whole_texts_of_lists.prog) (w := w) (base := base) KX G C_Unreadable ?lC_Unreadable ?rC_Unreadable ?sa_Unreadable ?ex_Unreadable ?ty_Unreadable ?kc_Unreadable ?ini_Unreadable ?tyf_Unreadable ?l_Unreadable ?co_Unreadable ?cell_Unreadable ?rec__Unreadable ?v2_Unreadable ?fl_Unreadable ?top_Unreadable ?opq_Unreadable ?sup_Unreadable ?veb_Unreadable ?slf_Unreadable ?val_Unreadable ?ms_Unreadable ?he_Unreadable ?hb_Unreadable) ?_
    (case lC_Unreadable => k_is)
    (case rC_Unreadable => decide +kernel)
    (case sa_Unreadable => k_is)
    (case ex_Unreadable => k_is)
    (case ty_Unreadable => k_is)
    (case kc_Unreadable => k_is)
    (case ini_Unreadable => k_is)
    (case tyf_Unreadable => k_is)
    (case l_Unreadable => k_is)
    (case co_Unreadable => k_is)
    (case cell_Unreadable => k_is)
    (case rec__Unreadable => k_is)
    (case v2_Unreadable => rfl)
    (case fl_Unreadable => rfl)
    (case top_Unreadable => rfl)
    (case opq_Unreadable => k_is)
    (case sup_Unreadable => ks_is)
    (case veb_Unreadable => k_is)
    (case slf_Unreadable => k_is)
    (case val_Unreadable => k_is)
    (case ms_Unreadable => k_is)
    (case he_Unreadable => exact fun _ => rfl)
    (case hb_Unreadable => exact fun us hl => match us, hl with | [_, _], _ => rfl)
    intro R_Unreadable
    have ccl := Sq.cal_check_list (P := PySem.Challenge.rw_squeezelists_k42_whole_texts_of_lists.prog) (w := w) (base := base) D_check_list B
    have cln := Sq.cal_check_length (P := PySem.Challenge.rw_squeezelists_k42_whole_texts_of_lists.prog) (w := w) (base := base) D_check_length B
    have csq := Sq.cal_squeezed_p D_squeezed B cln ccl (Sq.cal_squeezed_by D_squeezed_by B (Sq.cal_squeezed_once D_squeezed_once B))
    have ce := Sq.cal_equal (P := PySem.Challenge.rw_squeezelists_k42_whole_texts_of_lists.prog) (w := w) (base := base) D_equal_neighbours B
    have s2 := Sq.two_show D_show_list B tx ce
    have cr := Sq.cal_readX D_read_list B tx (Sq.cal_numbers_in D_numbers_in B tx (Sq.cal_number_in D_number_in B rd)) s2.cal R_Unreadable
    have cd := Sq.cal_drawW (P := PySem.Challenge.rw_squeezelists_k42_whole_texts_of_lists.prog) (w := w) (base := base) D_law_draw B
    refine Sq.ok_law F B (Sq.cal_rng D_law_rng B) cd (Sq.cal_list4 D_law_list B (Sq.drawW3 cd)) s2.cal (Sq.read_calm cr) (Sq.cal_kept D_law_kept B C_Unreadable S_Unreadable cr s2.cal) csq
