import PyProof.Rows.All
import Wide.All
import OpenK.AllK
import Wide.FinOn
import HandS.ForMost
import HandS.Wide
import HandS.Style
import HandS.SortInts
import HandS.Deep
import HandS.Defaults
import HandS.Flow
import HandS.IsInst
import HandS.Codes
import HandS.NoneIn
import HandS.Property
import HandS.RaiseMore
import PyProof.ReprRoads
import PySem.Challenge.RW_squeezelists_k17_hidden_lists_found
set_option Elab.async false
set_option linter.all false
set_option maxRecDepth 100000
set_option maxHeartbeats 4000000
namespace Sq
open PySem PySem.Spec PyProof.Rows L2
/-! ## operators -/
/-- a power whose base has at most 100000 bits -/
def CPowW (i j : Int) : Prop := 0 ≤ j ∧ j ≤ 1000 ∧ i.natAbs.log2 < 100000
theorem bitsOf_le (i : Int) : Builtin.Int.intBits i ≤ i.natAbs.log2 + 1 := by
  unfold Builtin.Int.intBits
  split <;> omega
theorem op_powW {X : Cx} : OpR X (binaryOp .Pow) (rI CPowW fun i j => .int (i ^ j.toNat)) := opI fun i j _ _ _ _ _ hc q => by
  obtain ⟨h1, h2, h3⟩ := hc
  refine pow_int h1 ?_ q
  have hb := bitsOf_le i
  have h4 : ((Builtin.Int.intBits i : Nat) : Int) ≤ 100000 := by omega
  have h5 := Int.mul_le_mul h4 h2 h1 (by decide : (0 : Int) ≤ 100000)
  exact Int.le_trans h5 (by decide)
def ipIC (C : Int → Int → Prop) (f : Int → Int → Int) : TIp := fun x y H Q => ∃ i j, x = .int i ∧ y = .int j ∧ C i j ∧ Q (.int (f i j)) H
section
variable {X : Cx}
theorem ip_mulW : PIp X .Mult (ipIC CMulW fun i j => i * j) := by
  intro pins s σ H x y v u Q I r1 r2 h
  obtain ⟨i, j, e1, e2, c, q⟩ := h
  subst e1; subst e2
  obtain ⟨t, rfl⟩ := r1
  obtain ⟨t', rfl⟩ := r2
  exact imul_int ⟨.int _, H, I.tok _, ⟨_, rfl⟩, q⟩ c.ok
theorem ip_fdivW : PIp X .FloorDiv (ipIC CDivW fun i j => i / j) := by
  intro pins s σ H x y v u Q I r1 r2 h
  obtain ⟨i, j, e1, e2, c, q⟩ := h
  subst e1; subst e2
  obtain ⟨t, rfl⟩ := r1
  obtain ⟨t', rfl⟩ := r2
  have h1 : (0 : Int) < j := c.1
  refine ifloordiv_int (by omega) ?_ (.inl (PyProof.noPylong_of_log2 c.2))
  rw [Int.fdiv_eq_ediv_of_nonneg i (by omega)]
  exact ⟨.int _, H, I.tok _, ⟨_, rfl⟩, q⟩
end
/-- numbers below 2 ^ n have a small log2 -/
theorem lg_lt {i : Int} {n : Nat} (h : i.natAbs < 2 ^ n) (h0 : 0 < n) : i.natAbs.log2 < n := PySem.Flt.log2_lt_of h0 h

/-! ## sizes -/
/-- at most b bits -/
def Sm (b : Nat) (i : Int) : Prop := i.natAbs < 2 ^ b
theorem Sm.mono {a b : Nat} {i : Int} (h : Sm a i) (hab : a ≤ b) : Sm b i := Nat.lt_of_lt_of_le h (Nat.pow_le_pow_right (by decide) hab)
theorem Sm.lg {b : Nat} {i : Int} (h : Sm b i) (h0 : 0 < b) : i.natAbs.log2 < b := PySem.Flt.log2_lt_of h0 h
theorem Sm.add {b : Nat} {i j : Int} (h : Sm b i) (h' : Sm b j) : Sm (b + 1) (i + j) := by
  have e : 2 ^ (b + 1) = 2 ^ b + 2 ^ b := by rw [Nat.pow_succ]; omega
  unfold Sm at *
  omega
theorem Sm.neg {b : Nat} {i : Int} (h : Sm b i) : Sm b (-i) := by
  unfold Sm at *
  rw [Int.natAbs_neg]
  exact h
theorem Sm.sub {b : Nat} {i j : Int} (h : Sm b i) (h' : Sm b j) : Sm (b + 1) (i - j) := by
  rw [Int.sub_eq_add_neg]
  exact h.add h'.neg
theorem Sm.mul {a b : Nat} {i j : Int} (h : Sm a i) (h' : Sm b j) : Sm (a + b) (i * j) := by
  unfold Sm at *
  rw [Int.natAbs_mul, Nat.pow_add]
  exact Nat.mul_lt_mul'' h h'
theorem Sm.le {b : Nat} {i j : Int} (h : Sm b j) (h0 : 0 ≤ i) (hij : i ≤ j) : Sm b i := by
  unfold Sm at *
  omega
theorem Sm.wide {a b : Nat} {i j : Int} (h : Sm a i) (h' : Sm b j) (ha : 0 < a) (hb : 0 < b) (hab : a + b ≤ 1000000) : CMulW i j := by
  have h1 := h.lg ha
  have h2 := h'.lg hb
  unfold CMulW
  omega
/-- a small number -/
theorem Sm.of {b : Nat} {i : Int} (h : i.natAbs < 2 ^ 10) (hb : 10 ≤ b) : Sm b i := Sm.mono (a := 10) h hb
theorem div_ok {i k : Int} (h : 0 < k) (h2 : k < 2 ^ 240) : CDivW i k := ⟨h, Nat.lt_trans ((show Sm 240 k by unfold Sm; omega).lg (by decide)) (by decide)⟩
theorem pow_ok {b : Nat} {i j : Int} (h : Sm b i) (h0 : 0 < b) (hb : b ≤ 100000) (j0 : 0 ≤ j) (j1 : j ≤ 1000) : CPowW i j := ⟨j0, j1, Nat.lt_of_lt_of_le (h.lg h0) hb⟩
/-! ## rules whose reading speaks of the written part K itself (a comprehension's block has it too) -/
section
variable {X : Cx} {K : PySem.W.Frag}
theorem ix_listK (h : X.K = K := by rfl) : IxR X (rIxL K) := by subst h; exact ix_list
theorem ix_tupK (h : X.K = K := by rfl) : IxR X (rIxT K) := by subst h; exact ix_tup
theorem sl_listK (h : X.K = K := by rfl) : SlR X (rSlL K) := by subst h; exact sl_list
theorem sl_tupK (h : X.K = K := by rfl) : SlR X (rSlT K) := by subst h; exact sl_tup
def rLenQ (K : PySem.W.Frag) : List V → Hp → VK → Prop := fun xs H Q => ∃ p ys, xs = [.ref p] ∧ SqL K H p ys ∧ Q (.int ys.length) H
theorem len_seqK (h : X.K = K := by rfl) : CallR X (.builtin "len") (rLenQ K) := by
  subst h
  intro pins s σ H xs us Q I r q
  obtain ⟨p, ys, e, hs, q⟩ := q
  exact call_len_seq pins s σ H xs us Q I r ⟨p, ys, e, .inl hs, q⟩
/-- readings that are not to be opened by themselves -/
@[irreducible] def rEqQ (K : PySem.W.Frag) : R2 := rEqD K
@[irreducible] def rNeQ (K : PySem.W.Frag) : R2 := rNeD K
@[irreducible] def rInQ (K : PySem.W.Frag) : R2 := rInD K
@[irreducible] def rNotInQ (K : PySem.W.Frag) : R2 := rNotInD K
theorem rEqQ_of {H : Hp} {x y : V} {Q : VK} (h : rEqD K x y H Q) : rEqQ K x y H Q := by unfold rEqQ; exact h
theorem rNeQ_of {H : Hp} {x y : V} {Q : VK} (h : rNeD K x y H Q) : rNeQ K x y H Q := by unfold rNeQ; exact h
theorem rInQ_of {H : Hp} {x y : V} {Q : VK} (h : rInD K x y H Q) : rInQ K x y H Q := by unfold rInQ; exact h
theorem rNotInQ_of {H : Hp} {x y : V} {Q : VK} (h : rNotInD K x y H Q) : rNotInQ K x y H Q := by unfold rNotInQ; exact h
theorem op_eqDK (hu : X.A.units + 64 < cLine) (h : X.K = K := by rfl) : OpR X (compareOp .Eq) (rEqQ K) := by subst h; unfold rEqQ; exact op_eqD hu
theorem op_neDK (hu : X.A.units + 64 < cLine) (h : X.K = K := by rfl) : OpR X (compareOp .NotEq) (rNeQ K) := by subst h; unfold rNeQ; exact op_neD hu
theorem op_inDK (hu : X.A.units + 65 < cLine) (h : X.K = K := by rfl) : OpR X (compareOp .In) (rInQ K) := by subst h; unfold rInQ; exact op_inD hu
theorem op_notInDK (hu : X.A.units + 65 < cLine) (h : X.K = K := by rfl) : OpR X (compareOp .NotIn) (rNotInQ K) := by subst h; unfold rNotInQ; exact op_notInD hu
theorem isiK (h : X.K = K := by rfl) : CallR X (.builtin "isinstance") (rIsi K) := by subst h; exact call_isi
def rListOf (K : PySem.W.Frag) : List V → Hp → VK → Prop := fun xs H Q => ∃ p ys, xs = [.ref p] ∧ SqL K H p ys ∧ ∀ l, H l = none → Q (.ref l) (upd H l (.lst ys))
theorem list_ofK (h : X.K = K := by rfl) : CallR X (.type "list") (rListOf K) := by
  subst h
  intro pins s σ H xs us Q I r q
  obtain ⟨p, ys, e, hs, q⟩ := q
  exact call_list_of pins s σ H xs us Q I r ⟨p, ys, e, .inl hs, q⟩
theorem cr_sumK (hc : X.calm = true) (h : X.K = K := by rfl) : CallR X (.builtin "sum") (rSum K) := by subst h; exact cr_sum hc
theorem cr_maxK (hc : X.calm = true) (h : X.K = K := by rfl) : CallR X (.builtin "max") (rMax K) := by subst h; exact cr_max hc
theorem cr_minK (hc : X.calm = true) (h : X.K = K := by rfl) : CallR X (.builtin "min") (rMin K) := by subst h; exact cr_min hc
theorem cr_allK (hc : X.calm = true) (h : X.K = K := by rfl) : CallR X (.builtin "all") (rAll K) := by subst h; exact cr_all hc
theorem cr_anyK (hc : X.calm = true) (h : X.K = K := by rfl) : CallR X (.builtin "any") (rAny K) := by subst h; exact cr_any hc
theorem cr_sortedIK (h : X.K = K := by rfl) : CallR X (.builtin "sorted") (rSortedI K) := by subst h; exact cr_sortedI
variable {e a b : Expr} {te ta tb : TE} {es : List Expr} {t : TA} {tgs : TGs} {tg : Expr} {pos p q : Pos} {n : Nat}
theorem pi_listK (he : PE X e te) (h : X.K = K := by rfl) : PI X tg e (iList K te) := by subst h; exact pi_list he
theorem pg_tupK {k : Nat} (hc : X.calm = true) (hg : PGs X es tgs) (hn : (assignEach es X.env).length = n := by rfl) (hst : (assignEach es X.env).findIdx? (·.1) = none := by rfl) (h : X.K = K := by rfl) : PG X (.Tuple es k pos) (gTup K n tgs) := by
  subst h
  exact pg_tup hc hg hn hst
theorem pg_lstK {k : Nat} (hc : X.calm = true) (hg : PGs X es tgs) (hn : (assignEach es X.env).length = n := by rfl) (hst : (assignEach es X.env).findIdx? (·.1) = none := by rfl) (h : X.K = K := by rfl) : PG X (.Tuple es k pos) (gUnl K n tgs) := by
  subst h
  exact pg_unl hc hg hn hst
theorem pi_enumK {elts : List Expr} {kk : Nat} (hg : Gl X "enumerate") (hm : X.mg "enumerate" = none) (ha : PA X [e] t) (hs : starEach [e] X.env = [(false, eval e X.env)] := by rfl) (h : X.K = K := by rfl) :
    PI X (.Tuple elts kk p) (.Call (.Name "enumerate" q) [e] [] pos) (iEnum K t) := by
  subst h
  exact pi_enum hg hm ha hs
theorem pi_zipK {elts : List Expr} {kk : Nat} (hg : Gl X "zip") (hm : X.mg "zip" = none) (ha : PA X [a, b] t) (hs : starEach [a, b] X.env = (false, eval a X.env) :: starEach [b] X.env := by rfl)
    (hpl : (backTo pos (starEach [b] X.env)).any (·.1) = false := by rfl) (h : X.K = K := by rfl) : PI X (.Tuple elts kk p) (.Call (.Name "zip" q) [a, b] [] pos) (iZip K t) := by
  subst h
  exact pi_zip hg hm ha hs hpl
theorem pe_revLK {k : Nat} {p1 p2 p3 : Pos} (he : PE X e te) (h : X.K = K := by rfl) : PE X (.Subscript e (.Slice none none (some (.UnaryOp .USub (.Constant (.int 1) k p1) p2)) p3) pos) (tRevL K te) := by
  subst h
  exact pe_revL he
theorem pe_fldK {f : Str} (he : PE X e te) (hb : attributeBase e f X.env (eval e X.env) = eval e X.env := by rfl) (h : X.K = K := by rfl) : PE X (.Attribute e f pos) (tFld K te f) := by
  subst h
  exact pe_fld he hb
end

/-! ## heaps -/
/-- what holds between the turns of a loop (a wrapper: it is not taken apart by itself) -/
structure Keep (P : Prop) : Prop where
  o : P

theorem Same.get {H H' : Hp} {a : Addr} {o : HO} (s : Same H H') (h : H a = some o) : H' a = some o := s a o h
theorem same_new {H : Hp} {p : Addr} {o : HO} (h : H p = none) : Same H (upd H p o) := fun b u e => by
  rw [upd_ne (ne_of_none e h)]
  exact e
theorem upd_keep {H : Hp} {p a : Addr} {o u : HO} (n : H p = none) (h : H a = some u) : upd H p o a = some u := same_new n a u h
theorem upd_off {H : Hp} {p a : Addr} {o u : HO} (n : a ≠ p) (h : H a = some u) : upd H p o a = some u := by
  rw [upd_ne n]
  exact h
/-- a source of draws: what is true of it, where it stands -/
structure Rg where
  I : Hp → Prop
  S : Addr → Prop
  loc : ∀ H H' : Hp, (∀ a, S a → H' a = H a) → I H → I H'
  has : ∀ (H : Hp) (a : Addr), I H → S a → H a ≠ none
/-- the heap H is the quiet part G and the source -/
structure Sep (R : Rg) (G H : Hp) : Prop where
  inv : R.I H
  same : Same G H
  off : ∀ a, R.S a → G a = none
section
variable {R : Rg} {G G' H H' : Hp} {p a : Addr} {o u : HO}
theorem Sep.get (s : Sep R G H) (h : G a = some o) : H a = some o := s.same a o h
theorem Sep.free (s : Sep R G H) (h : H p = none) : G p = none := s.same.free h
theorem Sep.weak (s : Sep R G H) (h : Same G' G) : Sep R G' H := ⟨s.inv, h.trans s.same, fun a ha => by
  cases q : G' a with
  | none => rfl
  | some o =>
    have z := h a o q
    rw [s.off a ha] at z
    cases z⟩
theorem Sep.new (s : Sep R G H) (h : H p = none) (o : HO) : Sep R (upd G p o) (upd H p o) := by
  have np : ∀ a, R.S a → a ≠ p := fun a ha e => R.has H a s.inv ha (by rw [e]; exact h)
  refine ⟨R.loc H _ (fun a ha => upd_ne (np a ha)) s.inv, fun b x e => ?_, fun a ha => by rw [upd_ne (np a ha)]; exact s.off a ha⟩
  by_cases hb : b = p
  · rw [hb, upd_same] at e
    rw [hb, upd_same]
    exact e
  · rw [upd_ne hb] at e
    rw [upd_ne hb]
    exact s.same b x e
/-- a store into an object of the quiet part -/
theorem Sep.put (s : Sep R G H) (h : G p = some u) (o : HO) : Sep R (upd G p o) (upd H p o) := by
  have np : ∀ a, R.S a → a ≠ p := fun a ha e => by
    have z := s.off a ha
    rw [e, h] at z
    cases z
  refine ⟨R.loc H _ (fun a ha => upd_ne (np a ha)) s.inv, fun b x e => ?_, fun a ha => by rw [upd_ne (np a ha)]; exact s.off a ha⟩
  by_cases hb : b = p
  · rw [hb, upd_same] at e
    rw [hb, upd_same]
    exact e
  · rw [upd_ne hb] at e
    rw [upd_ne hb]
    exact s.same b x e
/-- behind something that only makes new things -/
theorem Sep.on (s : Sep R G H) (h : Same H H') : Sep R G H' := by
  refine ⟨R.loc H _ (fun a ha => ?_) s.inv, s.same.trans h, s.off⟩
  cases q : H a with
  | none => exact absurd q (R.has H a s.inv ha)
  | some o => exact h a o q
theorem Sep.grow (s : Sep R G H) (h : Same H H') (n : H p = none) (e : H' p = some o) : Sep R (upd G p o) H' := by
  have s' := s.on h
  have np : ∀ a, R.S a → a ≠ p := fun a ha z => R.has H a s.inv ha (by rw [z]; exact n)
  refine ⟨s'.inv, fun b x q => ?_, fun a ha => by rw [upd_ne (np a ha)]; exact s.off a ha⟩
  by_cases hb : b = p
  · rw [hb, upd_same] at q
    rw [hb, e]
    exact q
  · rw [upd_ne hb] at q
    exact s'.same b x q
end
/-- a source of draws that is a list of three ints: digits, a mix, a count that is at most N -/
def R3 (r : Addr) (N a b c : Int) (H : Hp) : Prop := H r = some (.lst [.int a, .int b, .int c]) ∧ 0 ≤ a ∧ 0 ≤ b ∧ b < 2 ^ 100 ∧ 0 ≤ c ∧ c ≤ N
def rg3 (r : Addr) (N : Int) : Rg where
  I := fun H => ∃ a b c, R3 r N a b c H
  S := fun x => x = r
  loc := fun H H' e ⟨a, b, c, h1, h2⟩ => ⟨a, b, c, (e r rfl).trans h1, h2⟩
  has := fun H x ⟨a, b, c, h1, _⟩ hx => by
    subst hx
    rw [h1]
    exact fun z => nomatch z
theorem Sep3.redo {r : Addr} {N N' : Int} {G H : Hp} {o : HO} (s : Sep (rg3 r N) G H) (h : ∃ a b c, R3 r N' a b c (upd H r o)) : Sep (rg3 r N') G (upd H r o) := by
  refine ⟨h, fun b u q => ?_, s.off⟩
  have nr : b ≠ r := fun z => by
    have := s.off b z
    rw [q] at this
    cases this
  rw [upd_ne nr]
  exact s.same b u q
theorem Sep3.mono {r : Addr} {N N' : Int} {G H : Hp} (s : Sep (rg3 r N) G H) (h : N ≤ N') : Sep (rg3 r N') G H := by
  obtain ⟨a, b, c, h1, h2, h3, h4, h5, h6⟩ := s.inv
  exact ⟨⟨a, b, c, h1, h2, h3, h4, h5, by omega⟩, s.same, s.off⟩
/-- a draw from it -/
def spDraw3 : Sp := fun vs H Q _ => ∃ (r : Addr) (m N : Int) (G : Hp), vs = [.ref r, .int m] ∧ Sep (rg3 r N) G H ∧ Keep (0 < m ∧ m < 2 ^ 240 ∧ N < 2 ^ 60) ∧ ∀ v H', 0 ≤ v → v < m → Sep (rg3 r (N + 1)) G H' → Q (.int v) H'
theorem seqL_of {K : PySem.W.Frag} {H : Hp} {a : Addr} {xs : List V} (h : H a = some (.lst xs)) : SqL K H a xs := .inl (.inl h)
/-- ints as values -/
abbrev iv (ns : List Int) : List V := ns.map V.int
theorem iv_app (ns : List Int) (x : Int) : iv ns ++ [V.int x] = iv (ns ++ [x]) := by simp
theorem iv_len (ns : List Int) : (iv ns).length = ns.length := List.length_map _
theorem iv_get {ns : List Int} {i : Nat} {x : V} (h : (iv ns)[i]? = some x) : ∃ n, ns[i]? = some n ∧ x = .int n := by
  rw [List.getElem?_map] at h
  cases e : ns[i]? with
  | none =>
    rw [e] at h
    cases h
  | some n =>
    rw [e] at h
    exact ⟨n, rfl, (Option.some.inj h).symm⟩

theorem atI_iv {ns : List Int} {i : Int} (h0 : 0 ≤ i) (h1 : i < ns.length) : ∃ n, atI (iv ns) i = some (.int n) := by
  obtain ⟨j, rfl⟩ := Int.eq_ofNat_of_zero_le h0
  have hj : j < ns.length := by omega
  exact ⟨ns[j], atI_nat (by rw [List.getElem?_map, List.getElem?_eq_getElem hj]; rfl)⟩
theorem seqIx0 {n : Nat} (h : 0 < n) : seqIndex? 0 n = some 0 := by
  unfold seqIndex?
  simp
  omega
theorem lit_len {n : Nat} (h : n ≤ 1000) : n ≤ sizeLine := Nat.le_of_lt (small1000 h)
/-- for i, x in enumerate(xs) -/
theorem for_enum {K : PySem.W.Frag} {a : Addr} {xs : List V} {g : TG} {tb : TS} {D : Ends} {σ : L2.St} {H : Hp} (Pv : Nat → L2.St → Hp → Prop) (h0 : Pv 0 σ H) (hq : ∀ i σ H, Pv i σ H → SqL K H a xs)
    (hs : ∀ (i : Nat) (x : V) (T : Addr) (σ : L2.St) (H : Hp), xs[i]? = some x → Pv i σ H → H T = none → g (.ref T) σ (upd H T (.tup [.int (i : Nat), x])) fun σ2 H2 => tb { D with nx := Pv (i + 1), ct := Pv (i + 1), bk := D.nx } σ2 H2) (hd : ∀ σ H, Pv xs.length σ H → D.nx σ H) :
    ∃ W : Nat → Nat → L2.St → Hp → Prop, (∃ m, W 0 m σ H) ∧ ∀ i m σ H, W i m σ H → ((Ite K a).stop i H ∧ D.nx σ H) ∨
      ((Ite K a).go i H ∧ ∃ N : L2.St → Hp → Prop, (∀ σ' H', N σ' H' → ∃ m', m' < m ∧ W (i + 1) m' σ' H') ∧ ∀ v H', (Ite K a).yld i H v H' → g v σ H' fun σ2 H2 => tb { D with nx := N, ct := N, bk := D.nx } σ2 H2) := by
  refine ⟨fun i m σ H => m + i = xs.length ∧ Pv i σ H, ⟨xs.length, rfl, h0⟩, fun i m σ H hW => ?_⟩
  obtain ⟨em, p⟩ := hW
  have q := hq i σ H p
  by_cases lt : i < xs.length
  · have ex : xs[i]? = some xs[i] := List.getElem?_eq_getElem lt
    refine .inr ⟨⟨xs, _, q, ex⟩, Pv (i + 1), fun σ' H' p' => ⟨m - 1, by omega, by omega, p'⟩, fun v H' hy => ?_⟩
    obtain ⟨T, x, rfl, nT, rfl, f⟩ := hy
    exact hs i x T σ H (f xs q) p nT
  · have ei : i = xs.length := by omega
    subst ei
    exact .inl ⟨⟨xs, q, Nat.le_refl _⟩, hd σ H p⟩

/-! ## repr of data, where no repr is under way -/
@[irreducible] def rReprD (K : PySem.W.Frag) : List V → Hp → VK → Prop := fun xs H Q => ∃ (a : Addr) (d : PyData), xs = [.ref a] ∧ Dp K H (.ref a) d ∧ d.showable = true ∧ d.hasDict = false ∧ d.depth ≤ 30 ∧ d.shown.length ≤ sizeLine ∧ Q (.str d.shown) H
theorem call_reprDK {X : Cx} {K : PySem.W.Frag} (hG : X.A.guards = some []) (hu : X.A.units + 64 < cLine) (h : X.K = K := by rfl) : CallR X (.builtin "repr") (rReprD K) := by
  subst h
  intro pins s σ H xs us Q I r h
  unfold rReprD at h
  obtain ⟨a, d, rfl, hd, hs, hn, hdp, hz, q⟩ := h
  obtain ⟨v, rfl, rv⟩ := vals1 r
  cases rv
  obtain ⟨as, rd⟩ := Dp.reads I d _ _ hd rfl
  refine repr_of_reads' rd hs (PyData.noDict_hsm hn) hG (by omega) (fun b o e => e) (fun h' t tk hk => ?_) hz
  exact ⟨.str d.shown, H, I.kept hk, ⟨_, rfl⟩, q⟩
/-! ## lists of ints as data -/
def dI (ns : List Int) : PyData := .list (ns.map .int)
theorem dpall_iv {K : PySem.W.Frag} {H : Hp} : ∀ ns : List Int, DpAll K H (iv ns) (ns.map .int)
  | [] => .nil
  | n :: r => .cons (.int n) (dpall_iv r)
theorem dp_iv {K : PySem.W.Frag} {H : Hp} {a : Addr} {ns : List Int} (h : SqL K H a (iv ns)) : Dp K H (.ref a) (dI ns) := .lst h (dpall_iv ns)
theorem can_ints : ∀ ns : List Int, PyData.canLayAll0 (ns.map .int) = true
  | [] => by simp [PyData.canLayAll0]
  | n :: r => by simp [PyData.canLayAll0, PyData.canLay0, can_ints r]
theorem dep_ints : ∀ ns : List Int, PyData.depthAll (ns.map .int) = 0
  | [] => by simp [PyData.depthAll]
  | n :: r => by simp [PyData.depthAll, PyData.depth, dep_ints r]
theorem eqv_ints : ∀ xs ys : List Int, PyData.eqvAll (xs.map .int) (ys.map .int) = decide (xs = ys)
  | [], [] => by simp [PyData.eqvAll]
  | [], _ :: _ => by simp [PyData.eqvAll]
  | _ :: _, [] => by simp [PyData.eqvAll]
  | x :: r, y :: t => by
    have ih := eqv_ints r t
    simp only [List.map_cons, PyData.eqvAll, PyData.eqv, ih, List.cons.injEq]
    by_cases e : x = y <;> by_cases e2 : r = t <;> simp [e, e2]
theorem shaped_dI (ns : List Int) : SeqAt.shaped (dI ns) = true := by
  unfold SeqAt.shaped dI
  simp only [PyData.canLay0, can_ints, PyData.depth, dep_ints]
  decide
theorem eqv_dI (xs ys : List Int) : PyData.eqv (dI xs) (dI ys) = decide (xs = ys) := by
  unfold dI
  simp only [PyData.eqv, eqv_ints]
theorem shown_ints_len : ∀ ns : List Int, (∀ n ∈ ns, n.natAbs.log2 < 1920) → ((PyData.shownAll (ns.map .int)).map (·.length)).sum ≤ 2000 * ns.length ∧ (PyData.shownAll (ns.map .int)).length = ns.length
  | [], _ => by simp [PyData.shownAll]
  | n :: r, h => by
    obtain ⟨h1, h2⟩ := shown_ints_len r fun m hm => h m (List.mem_cons_of_mem _ hm)
    have e := int_text_length_le (k := 1920) (by decide) (h n (List.mem_cons_self ..))
    have e2 : (PyData.shown (.int n)).length ≤ 2000 := by
      show (Str.ofString (toString n)).length ≤ 2000
      rw [PySem.ofString_length]
      omega
    simp only [List.map_cons, PyData.shownAll, List.sum_cons, List.length_cons]
    omega
theorem show_ints : ∀ ns : List Int, (∀ n ∈ ns, n.natAbs.log2 < 1920) → PyData.showableAll (ns.map .int) = true
  | [], _ => by simp [PyData.showableAll]
  | n :: r, h => by simp [PyData.showableAll, PyData.showable, h n (List.mem_cons_self ..), show_ints r fun m hm => h m (List.mem_cons_of_mem _ hm)]
theorem nod_ints : ∀ ns : List Int, PyData.hasDictAll (ns.map .int) = false
  | [] => by simp [PyData.hasDictAll]
  | n :: r => by simp [PyData.hasDictAll, PyData.hasDict, nod_ints r]
theorem r_eqI {K : PySem.W.Frag} {H : Hp} {a b : Addr} {xs ys : List Int} {Q : VK} (h1 : SqL K H a (iv xs)) (h2 : SqL K H b (iv ys)) (q : Q (.bl (decide (xs = ys))) H) : rEqQ K (.ref a) (.ref b) H Q :=
  rEqQ_of ⟨dI xs, dI ys, dp_iv h1, dp_iv h2, shaped_dI xs, shaped_dI ys, by rw [eqv_dI]; exact q⟩
theorem r_neI {K : PySem.W.Frag} {H : Hp} {a b : Addr} {xs ys : List Int} {Q : VK} (h1 : SqL K H a (iv xs)) (h2 : SqL K H b (iv ys)) (q : Q (.bl (!decide (xs = ys))) H) : rNeQ K (.ref a) (.ref b) H Q :=
  rNeQ_of ⟨dI xs, dI ys, dp_iv h1, dp_iv h2, shaped_dI xs, shaped_dI ys, by rw [eqv_dI]; exact q⟩
theorem r_repr {K : PySem.W.Frag} {H : Hp} {a : Addr} {ns : List Int} {Q : VK} (h1 : SqL K H a (iv ns)) (hl : ns.length ≤ 5000) (hz : ∀ n ∈ ns, n.natAbs.log2 < 1920) (q : Q (.str (dI ns).shown) H) : rReprD K [.ref a] H Q := by
  unfold rReprD
  refine ⟨a, dI ns, rfl, dp_iv h1, ?_, ?_, ?_, ?_, q⟩
  · simp only [dI, PyData.showable]
    exact show_ints ns hz
  · simp only [dI, PyData.hasDict]
    exact nod_ints ns
  · simp only [dI, PyData.depth, dep_ints]
    decide
  · obtain ⟨e1, e2⟩ := shown_ints_len ns hz
    have e3 := listText_len_le (PyData.shownAll (ns.map .int))
    simp only [dI, PyData.shown]
    rw [sizeLine_eq]
    omega
mutual
theorem dp_same {K : PySem.W.Frag} {H H' : Hp} (s : Same H H') : ∀ (d : PyData) (x : V), Dp K H x d → Dp K H' x d
  | .none, _, h => by cases h; exact .non
  | .bool _, _, h => by cases h; exact .bl _
  | .int _, _, h => by cases h; exact .int _
  | .str _, _, h => by cases h; exact .str _
  | .list ds, _, h => by
    cases h with
    | lst a b => exact .lst (s.seq a) (dpall_same s ds _ b)
  | .tuple ds, _, h => by
    cases h with
    | tup a b =>
      refine .tup ?_ (dpall_same s ds _ b)
      rcases a with (a | ⟨o, a⟩) | a
      · exact .inl (.inl (s _ _ a))
      · exact .inl (.inr ⟨o, s _ _ a⟩)
      · exact .inr a
  | .dict _, _, h => nomatch h
theorem dpall_same {K : PySem.W.Frag} {H H' : Hp} (s : Same H H') : ∀ (ds : List PyData) (xs : List V), DpAll K H xs ds → DpAll K H' xs ds
  | [], _, h => by cases h; exact .nil
  | d :: ds, _, h => by
    cases h with
    | cons a b => exact .cons (dp_same s d _ a) (dpall_same s ds _ b)
end
theorem dpall_len {K : PySem.W.Frag} {H : Hp} : ∀ (ds : List PyData) (xs : List V), DpAll K H xs ds → xs.length = ds.length
  | [], _, h => by cases h; rfl
  | d :: ds, _, h => by
    cases h with
    | cons a b => rw [List.length_cons, List.length_cons, dpall_len ds _ b]
theorem dpall_get {K : PySem.W.Frag} {H : Hp} : ∀ (ds : List PyData) (xs : List V), DpAll K H xs ds → ∀ (i : Nat) (d : PyData), ds[i]? = some d → ∃ x, xs[i]? = some x ∧ Dp K H x d
  | [], _, _, _, _, e => by simp at e
  | d :: ds, _, h, i, d', e => by
    cases h with
    | cons a b =>
      cases i with
      | zero =>
        have z : d = d' := by simpa using e
        subst z
        exact ⟨_, rfl, a⟩
      | succ i => exact dpall_get ds _ b i d' (by simpa using e)
theorem tyx_lst {K : PySem.W.Frag} {H : Hp} {a : Addr} {xs : List V} (h : SqL K H a xs) : TyX K H (.ref a) (.type "list") := by
  rcases h with (h | ⟨o, h⟩) | ⟨o, its, n, h1, h2, _⟩
  · exact .base (.lst h)
  · exact .base (.frz h)
  · exact .kList h1 h2
theorem tyx_tup {K : PySem.W.Frag} {H : Hp} {a : Addr} {xs : List V} (h : SqT K H a xs) : TyX K H (.ref a) (.type "tuple") := by
  rcases h with (h | ⟨o, h⟩) | ⟨o, its, n, h1, h2, _⟩
  · exact .base (.tup h)
  · exact .fTuple h
  · exact .kTuple h1 h2
theorem kit_no {K : PySem.W.Frag} : PySem.W.kitOne K (.type "int") (.type "bool") = some false ∧ PySem.W.kitOne K (.type "str") (.type "bool") = some false ∧ PySem.W.kitOne K (.type "list") (.type "bool") = some false ∧
    PySem.W.kitOne K (.type "bool") (.type "int") = some true ∧ PySem.W.kitOne K (.type "int") (.type "int") = some true := ⟨rfl, rfl, rfl, rfl, rfl⟩
/-! ## tests -/
theorem ifD {p A B : Prop} [Decidable p] (h1 : p → A) (h2 : ¬ p → B) : if decide p = true then A else B := by
  by_cases h : p
  · rw [decide_eq_true h]; exact iteT (h1 h)
  · rw [decide_eq_false h]; exact iteF (h2 h)
theorem ifN {p A B : Prop} [Decidable p] (h1 : ¬ p → A) (h2 : p → B) : if (!decide p) = true then A else B := by
  by_cases h : p
  · rw [decide_eq_true h]; exact iteF (h2 h)
  · rw [decide_eq_false h]; exact iteT (h1 h)
theorem ifI {i j : Int} {A B : Prop} (h1 : i = j → A) (h2 : i ≠ j → B) : if decide (V.int i = V.int j) = true then A else B :=
  ifD (fun e => h1 (V.int.inj e)) fun e => h2 fun z => e (congrArg V.int z)
theorem ifIN {i j : Int} {A B : Prop} (h1 : i ≠ j → A) (h2 : i = j → B) : if (!decide (V.int i = V.int j)) = true then A else B :=
  ifN (fun e => h1 fun z => e (congrArg V.int z)) fun e => h2 (V.int.inj e)
/-! ## defs that may ask for repr: called where no repr is under way -/
structure FnG (P : Program) (w : World) (K : PySem.W.Frag) (mg : Str → Option Value) (base : Heap) (CX : CXT) (k : Nat) (f : Addr) (fd : FuncData) (ps : List Str) (sp : Sp) : Prop where
  len : ∀ vs H Q E, sp vs H Q E → vs.length = ps.length
  run : ∀ (A : Around) (outer : List Env) (s : Shared) (H : Hp) (args : Args) (us : List Value) (vs : List V) (Q : VK) (E : XK), Room k A → A.guards = some [] →
    Env0 P w K mg base A outer s H → BindsTo s fd args (ps.zip us) → Vals vs us → sp vs H Q E → codeAny (model P w) A (.call (.ref f) args) (CR CX outer P w H s Q E) s
section
variable {P : Program} {w : World} {K : PySem.W.Frag} {mg : Str → Option Value} {base : Heap} {CX : CXT}
theorem FnG.of {k : Nat} {f : Addr} {fd : FuncData} {ps : List Str} {sp : Sp} (F : FnOk P w K mg base CX k f fd ps sp) : FnG P w K mg base CX k f fd ps sp :=
  ⟨F.len, fun A outer s H args us vs Q E hr _ => F.run A outer s H args us vs Q E hr⟩
theorem fnG_of {k : Nat} {f : Addr} {nm qual : Str} {pms : Arguments} {body : List Stmt} {sc : Scope} {dV kV dc pm cdv ct oc : Value} {an od : Option Addr} {sl : Array (Option Value)} {N ps : List Str} {sp : Sp}
    (lk : K.lookup f = some ⟨oc, od, .func (PySem.W.fnOf nm qual pms body sc dV kV dc pm an cdv ct), sl⟩) (hcd : PySem.W.codeIn K cdv qual = true) (S : FnScope N ps sc) (len : ∀ vs H Q E, sp vs H Q E → vs.length = ps.length)
    (hb : ∀ (A : Around) (outer : List Env) (s : Shared) (H : Hp) (vs : List V) (Q : VK) (E : XK), A.guards = some [] → Room k (A.deeper (envOfC qual sc s.heap.objs.size f cdv)) → sp vs H Q E →
      ∃ t, PSs (cxOf CX P w K mg base N qual sc f cdv A outer s H E) body t ∧ t { nx := fun _ H' => Q .non H', rt := Q } (start N vs) H) :
    FnG P w K mg base CX (k + 1) f (PySem.W.fnOf nm qual pms body sc dV kV dc pm an cdv ct) ps sp := by
  refine ⟨len, ?_⟩
  intro A out s H args us vs Q E room hG env bnd rel pre
  have ln := len _ _ _ _ pre
  have kin : K.In s.heap := env.mod.kin.keeps fun b o e => (env.bs b o e).1
  have nl : s.heap.NoLimit := env.mod.nolimit.keeps fun b o e => (env.bs b o e).1
  have kinds : ∀ y ∈ ps.zip us, sc.names.lookup y.1 = some .local ∨ (sc.names.lookup y.1 = some .cell ∧ ((cellsFrom (s.heap.objs.size + 1) sc.names []).lookup y.1).isSome = true) := by
    rintro ⟨x, v⟩ hy
    rcases S.par x (List.of_mem_zip hy).1 with z | z
    · exact .inl z
    · exact .inr ⟨z, PySem.W.cellsFrom_some _ _ _ (.inl z)⟩
  refine codeAny_call_function room.depth (kin _ _ lk) rfl S.co S.gen rfl (PySem.W.codeRec_of kin hcd) (bnd _ _ _ _ ?_)
  refine wpAny_newFunctionEnv_cells S.kind kinds fun en hen s1 x1 => ?_
  cases hen
  refine ⟨nl.keeps x1.toInCall.keep, codeAny_func ?_⟩
  obtain ⟨t, ht, hq⟩ := hb A out s H vs Q E hG (room.deeper _) pre
  have J0 : Inv (cxOf CX P w K mg base N qual sc f cdv A out s H E) [] (start N vs) H s1 := inv_start S room.hd env ln rel x1
  refine wpAny_mono (ht.run [] s1 (start N vs) H _ J0 hq) (fun fl s2 hs => ?_) fun e s2 hs => hs
  cases fl with
  | ret u =>
    obtain ⟨v, τ, H2, J, rv, q⟩ := hs
    exact ⟨v, H2, J.os, J.bare, J.base, J.hok, rv, q⟩
  | next =>
    obtain ⟨τ, H2, J, q⟩ := hs
    exact ⟨V.non, H2, J.os, J.bare, J.base, J.hok, rfl, q⟩
  | brk =>
    obtain ⟨_, _, _, q⟩ := hs
    cases q
  | cont =>
    obtain ⟨_, _, _, q⟩ := hs
    cases q
end
/-! ## a def of the text: where it stands; its promise -/
structure DefAt (K : PySem.W.Frag) (mg : Str → Option Value) (x : Str) (st : Stmt) (ps : List Str) : Prop where
  ex : ∃ (f : Addr) (fd : FuncData), Fun K x x st f fd ∧ mg x = some (.ref f) ∧ Binds K fd ps []
/-- a def that may be called by its name; dvs: the defaults that fill up -/
structure Cal (P : Program) (w : World) (K : PySem.W.Frag) (mg : Str → Option Value) (base : Heap) (k : Nat) (x : Str) (sp : Sp) (dvs : List V) : Prop where
  ex : ∃ (f : Addr) (fd : FuncData) (ps : List Str) (ds : List Value), FnOk P w K mg base CX0 k f fd ps sp ∧ mg x = some (.ref f) ∧ PySem.W.keepIn K (.ref f) = true ∧ L2.Binds K fd ps ds ∧ Vals dvs ds
/-- a def that may be called by its name; it may ask for repr -/
structure CalG (P : Program) (w : World) (K : PySem.W.Frag) (mg : Str → Option Value) (base : Heap) (k : Nat) (x : Str) (sp : Sp) : Prop where
  ex : ∃ (f : Addr) (fd : FuncData) (ps : List Str), FnG P w K mg base CX0 k f fd ps sp ∧ mg x = some (.ref f) ∧ PySem.W.keepIn K (.ref f) = true ∧ Binds K fd ps []
section
variable {P : Program} {w : World} {K : PySem.W.Frag} {mg : Str → Option Value} {base : Heap}
theorem DefAt.cal {x : Str} {st : Stmt} {ps N : List Str} {k : Nat} {sp : Sp} (D : DefAt K mg x st ps) (S : FnScope N ps (defScope st)) (len : ∀ vs H Q E, sp vs H Q E → vs.length = ps.length)
    (hb : ∀ (f : Addr) (cdv : Value) (A : Around) (outer : List Env) (s : Shared) (H : Hp) (vs : List V) (Q : VK) (E : XK), Room k (A.deeper (envOfC x (defScope st) s.heap.objs.size f cdv)) → sp vs H Q E →
      ∃ t, PSs (cxOf CX0 P w K mg base N x (defScope st) f cdv A outer s H E).nox (defBody st) t ∧ t { nx := fun _ H' => Q .non H', rt := Q } (start N vs) H) : Cal P w K mg base (k + 1) x sp [] := by
  obtain ⟨f, fd, F, hm, b⟩ := D.ex
  exact ⟨f, fd, ps, [], F.ok S len fun cdv A outer s H vs Q E => hb f cdv A outer s H vs Q E, hm, F.kp, b, .nil⟩
theorem DefAt.calG {x : Str} {st : Stmt} {ps N : List Str} {k : Nat} {sp : Sp} (D : DefAt K mg x st ps) (S : FnScope N ps (defScope st)) (len : ∀ vs H Q E, sp vs H Q E → vs.length = ps.length)
    (hb : ∀ (f : Addr) (cdv : Value) (A : Around) (outer : List Env) (s : Shared) (H : Hp) (vs : List V) (Q : VK) (E : XK), A.guards = some [] → Room k (A.deeper (envOfC x (defScope st) s.heap.objs.size f cdv)) → sp vs H Q E →
      ∃ t, PSs (cxOf CX0 P w K mg base N x (defScope st) f cdv A outer s H E).nox (defBody st) t ∧ t { nx := fun _ H' => Q .non H', rt := Q } (start N vs) H) : CalG P w K mg base (k + 1) x sp := by
  obtain ⟨f, fd, ⟨⟨oc, od, kV, doc, pm, an, cdv, ct, osl, rfl, lk, hcd⟩, kp⟩, hm, b⟩ := D.ex
  refine ⟨f, _, ps, fnG_of lk hcd S len fun A outer s H vs Q E hG hr hsp => ?_, hm, kp, b⟩
  obtain ⟨t, h, q⟩ := hb f cdv A outer s H vs Q E hG hr hsp
  exact ⟨t, h.nox, q⟩
theorem okG {x qual : Str} {st : Stmt} {f : Addr} {fd : FuncData} {N ps : List Str} {k : Nat} {sp : Sp} (F : Fun K x qual st f fd) (S : FnScope N ps (defScope st)) (len : ∀ vs H Q E, sp vs H Q E → vs.length = ps.length)
    (hb : ∀ (cdv : Value) (A : Around) (outer : List Env) (s : Shared) (H : Hp) (vs : List V) (Q : VK) (E : XK), A.guards = some [] → Room k (A.deeper (envOfC qual (defScope st) s.heap.objs.size f cdv)) → sp vs H Q E →
      ∃ t, PSs (cxOf CX0 P w K mg base N qual (defScope st) f cdv A outer s H E).nox (defBody st) t ∧ t { nx := fun _ H' => Q .non H', rt := Q } (start N vs) H) : FnG P w K mg base CX0 (k + 1) f fd ps sp := by
  obtain ⟨⟨oc, od, kV, doc, pm, an, cdv, ct, osl, rfl, lk, hcd⟩, kp⟩ := F
  refine fnG_of lk hcd S len fun A outer s H vs Q E hG hr hsp => ?_
  obtain ⟨t, h, q⟩ := hb cdv A outer s H vs Q E hG hr hsp
  exact ⟨t, h.nox, q⟩
theorem calG_of {x : Str} {k : Nat} {sp : Sp} (c : Cal P w K mg base k x sp []) : CalG P w K mg base k x sp := by
  obtain ⟨f, fd, ps, ds, F, hm, kp, b, d⟩ := c.ex
  cases d
  exact ⟨f, fd, ps, FnG.of F, hm, kp, b⟩
theorem Cal.imp {x : Str} {k j : Nat} {sp sp' : Sp} {dvs : List V} (c : Cal P w K mg base k x sp dvs) (hk : k ≤ j) (h : ∀ vs H Q E, sp' vs H Q E → sp vs H Q E) : Cal P w K mg base j x sp' dvs := by
  obtain ⟨f, fd, ps, ds, F, hm, kp, b, d⟩ := c.ex
  exact ⟨f, fd, ps, ds, (F.mono hk).imp h, hm, kp, b, d⟩
end
section
variable {X : Cx} {k j : Nat} {x : Str} {sp : Sp} {p pos : Pos} {e : Expr} {es : List Expr} {t : TA}
theorem pe_c {dvs : List V} (c : Cal X.prog X.w X.K X.mg X.base k x sp dvs) (hr : Room j X.A) (hk : k ≤ j) (hg : Gl X x) (ha : PA X (e :: es) t)
    (hdb : (x == ("__debug__" : Str)) = false := by decide) (he : starEach (e :: es) X.env = (false, eval e X.env) :: starEach es X.env := by rfl) (hpl : (backTo pos (starEach es X.env)).any (·.1) = false := by rfl) :
    PE X (.Call (.Name x p) (e :: es) [] pos) (tCall sp dvs E0 t) := by
  obtain ⟨f, fd, ps, ds, F, hm, kp, bd, vd⟩ := c.ex
  exact L2.pe_call F (hr.mono hk) hg hm kp bd vd pass0 ha hdb he hpl
/-- a call of a def that may ask for repr -/
theorem pe_cG (c : CalG X.prog X.w X.K X.mg X.base k x sp) (hG : X.A.guards = some []) (hr : Room j X.A) (hk : k ≤ j) (hg : Gl X x) (ha : PA X (e :: es) t)
    (hdb : (x == ("__debug__" : Str)) = false := by decide) (he : starEach (e :: es) X.env = (false, eval e X.env) :: starEach es X.env := by rfl) (hpl : (backTo pos (starEach es X.env)).any (·.1) = false := by rfl) :
    PE X (.Call (.Name x p) (e :: es) [] pos) (tCall sp [] E0 t) := by
  obtain ⟨f, fd, ps, F, hm, kp, b⟩ := c.ex
  refine ⟨fun pins s σ H Q I h => wpAny_Call_Name_kw (ld_glob I hg hm ?_ hdb)⟩
  refine PySem.W.callWith_K (h₀ := X.base) I.ok.mod.kin kp (thn (ha.run pos pins s σ H _ I h) fun us s1 hx => ?_) he hpl
  obtain ⟨vs, H1, I1, r, q⟩ := hx
  rw [List.append_nil] at q
  have ln : us.length = ps.length := by rw [← r.length]; exact F.len _ _ _ _ q
  have bb : BindsTo s1 fd ⟨us, []⟩ (ps.zip us) := by
    have z := b s1 us I1.kIn (by rw [List.append_nil]; exact ln)
    rw [List.append_nil] at z
    exact z
  refine ⟨I1.kIn, wpAny_call (codeAny_mono (F.run X.A X.stack s1 H1 ⟨us, []⟩ us vs Q E0 (hr.mono hk) hG I1.env0 bb r q) fun r s' hq => ?_)⟩
  cases r with
  | error e => exact False.elim hq
  | ok fl =>
    cases fl with
    | ret u => exact I1.after hq
    | next => exact False.elim hq
    | brk => exact False.elim hq
    | cont => exact False.elim hq
end
/-! ## methods, properties, new objects -/
structure Met (P : Program) (w : World) (K : PySem.W.Frag) (mg : Str → Option Value) (base : Heap) (k : Nat) (C : Addr) (m : Str) (sp : Sp) : Prop where
  ex : ∃ (f : Addr) (fd : FuncData) (ps : List Str), Cls K C ∧ Meth K C m f ∧ FnOk P w K mg base CX0 k f fd ps sp ∧ L2.Binds K fd ps []
structure Prp (P : Program) (w : World) (K : PySem.W.Frag) (mg : Str → Option Value) (base : Heap) (k : Nat) (C : Addr) (m : Str) (sp : Sp) : Prop where
  ex : ∃ (f p : Addr) (fd : FuncData) (ps : List Str), Cls K C ∧ PropOf K C m p f ∧ FnOk P w K mg base CX0 k f fd ps sp ∧ L2.Binds K fd ps []
structure Mak (P : Program) (w : World) (K : PySem.W.Frag) (mg : Str → Option Value) (base : Heap) (k : Nat) (x : Str) (C : Addr) (sp : Sp) : Prop where
  ex : ∃ (f : Addr) (fd : FuncData) (ps : List Str), Mk K C f ∧ FnOk P w K mg base CX0 k f fd ps sp ∧ mg x = some (.ref C) ∧ L2.Binds K fd ps []
section
variable {X : Cx} {k j : Nat} {C : Addr} {x m : Str} {sp : Sp} {p pos apos : Pos} {e o : Expr} {es : List Expr} {ta : TE} {t : TA}
theorem pe_m {pl : Sem Bool} (c : Met X.prog X.w X.K X.mg X.base k C m sp) (hr : Room j X.A) (hk : k ≤ j) (he : PE X o ta) (ha : PA X (e :: es) t)
    (ht : eval (.Call (.Attribute o m apos) (e :: es) [] pos) X.env = (do
      let ov ← eval o X.env
      standAt apos.atName
      let (f, first) ← holding [ov] (getMethod ov m pl)
      callWith pos f first (backTo pos (starEach (e :: es) X.env)) (backToKw pos (keywordEach [] X.env))) := by rfl)
    (hst : starEach (e :: es) X.env = (false, eval e X.env) :: starEach es X.env := by rfl) (hpl : (backTo pos (starEach es X.env)).any (·.1) = false := by rfl) : PE X (.Call (.Attribute o m apos) (e :: es) [] pos) (tMeth C m sp [] E0 ta t) := by
  obtain ⟨f, fd, ps, c1, c2, F, b⟩ := c.ex
  exact L2.pe_meth (pl := pl) he c1 c2 F (hr.mono hk) b .nil pass0 ha hst hpl ht
theorem pe_mk (c : Mak X.prog X.w X.K X.mg X.base k x C sp) (hr : Room j X.A) (hk : k + 1 ≤ j) (hg : Gl X x) (ha : PA X (e :: es) t)
    (hdb : (x == ("__debug__" : Str)) = false := by decide) (he : starEach (e :: es) X.env = (false, eval e X.env) :: starEach es X.env := by rfl) (hpl : (backTo pos (starEach es X.env)).any (·.1) = false := by rfl) :
    PE X (.Call (.Name x p) (e :: es) [] pos) (tMake C sp [] E0 t) := by
  obtain ⟨f, fd, ps, M, F, hm, b⟩ := c.ex
  exact L2.pe_make M F (hr.mono hk) hg hm b .nil pass0 ha hdb he hpl
theorem pe_p (c : Prp X.prog X.w X.K X.mg X.base k C m sp) (hr : Room j X.A) (hk : k + 1 ≤ j) (he : PE X e ta) (hab : attributeBase e m X.env (eval e X.env) = eval e X.env := by rfl) : PE X (.Attribute e m pos) (tProp C sp [] E0 ta) := by
  obtain ⟨f, q, fd, ps, c1, c2, F, b⟩ := c.ex
  exact L2.pe_prop he c1 c2 F (hr.mono hk) b .nil pass0 hab
end
section
variable {X : Cx} {K : PySem.W.Frag} {C : Addr} {k j : Nat} {m f : Str} {sp : Sp} {ta tv : TE} {o value : Expr} {pos pos' apos tpos : Pos}
theorem pe_m0 {pl : Sem Bool} (c : Met X.prog X.w X.K X.mg X.base k C m sp) (hr : Room j X.A) (hk : k ≤ j) (he : PE X o ta)
    (ht : eval (.Call (.Attribute o m apos) [] [] pos) X.env = (do
      let ov ← eval o X.env
      standAt apos.atName
      let (f, first) ← holding [ov] (getMethod ov m pl)
      callWith pos f first (backTo pos (starEach [] X.env)) (backToKw pos (keywordEach [] X.env))) := by rfl) : PE X (.Call (.Attribute o m apos) [] [] pos) (tMeth C m sp [] E0 ta tNil) := by
  obtain ⟨f, fd, ps, c1, c2, F, b⟩ := c.ex
  exact L2.pe_meth0 (pl := pl) he c1 c2 F (hr.mono hk) b .nil pass0 ht
theorem ps_fldK (ha : PE X o ta) (hv : PE X value tv) (hs : swapsWith value (some (.Attribute o f pos')) pos.line X.env = pure false) (h : X.K = K := by rfl) : PS X (.Assign [.Attribute o f pos'] value pos) (sFld K ta tv f) := by
  subst h
  exact ps_fld ha hv hs
theorem ps_fldaugK {op : Operator} {rd : V → V → Hp → VK → Prop} (ha : PE X o ta) (hv : PE X value tv) (hop : InOp X op rd) (h : X.K = K := by rfl) : PS X (.AugAssign (.Attribute o f tpos) op value pos) (sFldAug K ta tv rd f) := by
  subst h
  exact ps_fldaug ha hv hop
end
/-- a method of the text -/
structure MetAt (K : PySem.W.Frag) (C : Addr) (m qual : Str) (st : Stmt) (ps : List Str) : Prop where
  ex : ∃ (f : Addr) (fd : FuncData), Fun K m qual st f fd ∧ Meth K C m f ∧ L2.Binds K fd ps []
section
variable {P : Program} {w : World} {K : PySem.W.Frag} {mg : Str → Option Value} {base : Heap} {C : Addr} {m x qual : Str} {st : Stmt} {ps N : List Str} {k : Nat} {sp : Sp}
theorem MetAt.met (D : MetAt K C m qual st ps) (cl : Cls K C) (S : FnScope N ps (defScope st)) (len : ∀ vs H Q E, sp vs H Q E → vs.length = ps.length)
    (hb : ∀ (f : Addr) (cdv : Value) (A : Around) (outer : List Env) (s : Shared) (H : Hp) (vs : List V) (Q : VK) (E : XK), Room k (A.deeper (envOfC qual (defScope st) s.heap.objs.size f cdv)) → sp vs H Q E →
      ∃ t, PSs (cxOf CX0 P w K mg base N qual (defScope st) f cdv A outer s H E).nox (defBody st) t ∧ t { nx := fun _ H' => Q .non H', rt := Q } (start N vs) H) : Met P w K mg base (k + 1) C m sp := by
  obtain ⟨f, fd, F, hm, b⟩ := D.ex
  exact ⟨f, fd, ps, cl, hm, F.ok S len fun cdv A outer s H vs Q E => hb f cdv A outer s H vs Q E, b⟩
end
/-- a class's __init__ of the text -/
structure IniAt (K : PySem.W.Frag) (mg : Str → Option Value) (C : Addr) (x qual : Str) (st : Stmt) (ps : List Str) : Prop where
  ex : ∃ (f : Addr) (fd : FuncData), Fun K "__init__" qual st f fd ∧ Mk K C f ∧ mg x = some (.ref C) ∧ L2.Binds K fd ps []
/-- a property of the text -/
structure PrpAt (K : PySem.W.Frag) (C : Addr) (m qual : Str) (st : Stmt) (ps : List Str) : Prop where
  ex : ∃ (f p : Addr) (fd : FuncData), Fun K m qual st f fd ∧ PropOf K C m p f ∧ L2.Binds K fd ps []
section
variable {P : Program} {w : World} {K : PySem.W.Frag} {mg : Str → Option Value} {base : Heap} {C : Addr} {m x qual : Str} {st : Stmt} {ps N : List Str} {k : Nat} {sp : Sp}
theorem IniAt.mak (D : IniAt K mg C x qual st ps) (S : FnScope N ps (defScope st)) (len : ∀ vs H Q E, sp vs H Q E → vs.length = ps.length)
    (hb : ∀ (f : Addr) (cdv : Value) (A : Around) (outer : List Env) (s : Shared) (H : Hp) (vs : List V) (Q : VK) (E : XK), Room k (A.deeper (envOfC qual (defScope st) s.heap.objs.size f cdv)) → sp vs H Q E →
      ∃ t, PSs (cxOf CX0 P w K mg base N qual (defScope st) f cdv A outer s H E).nox (defBody st) t ∧ t { nx := fun _ H' => Q .non H', rt := Q } (start N vs) H) : Mak P w K mg base (k + 1) x C sp := by
  obtain ⟨f, fd, F, hm, hg, b⟩ := D.ex
  exact ⟨f, fd, ps, hm, F.ok S len fun cdv A outer s H vs Q E => hb f cdv A outer s H vs Q E, hg, b⟩
theorem PrpAt.prp (D : PrpAt K C m qual st ps) (cl : Cls K C) (S : FnScope N ps (defScope st)) (len : ∀ vs H Q E, sp vs H Q E → vs.length = ps.length)
    (hb : ∀ (f : Addr) (cdv : Value) (A : Around) (outer : List Env) (s : Shared) (H : Hp) (vs : List V) (Q : VK) (E : XK), Room k (A.deeper (envOfC qual (defScope st) s.heap.objs.size f cdv)) → sp vs H Q E →
      ∃ t, PSs (cxOf CX0 P w K mg base N qual (defScope st) f cdv A outer s H E).nox (defBody st) t ∧ t { nx := fun _ H' => Q .non H', rt := Q } (start N vs) H) : Prp P w K mg base (k + 1) C m sp := by
  obtain ⟨f, p, fd, F, hm, b⟩ := D.ex
  exact ⟨f, p, fd, ps, cl, hm, F.ok S len fun cdv A outer s H vs Q E => hb f cdv A outer s H vs Q E, b⟩
end
/-- all but o stands -/
def But (o : Addr) (H H' : Hp) : Prop := ∀ b u, b ≠ o → H b = some u → H' b = some u
theorem But.refl (o : Addr) (H : Hp) : But o H H := fun _ _ _ h => h
theorem But.trans {o : Addr} {H H1 H2 : Hp} (a : But o H H1) (b : But o H1 H2) : But o H H2 := fun c u n h => b c u n (a c u n h)
theorem But.of {o : Addr} {H H1 : Hp} (s : Same H H1) : But o H H1 := fun b u _ h => s b u h
theorem But.put {o : Addr} {H : Hp} {u : HO} : But o H (upd H o u) := fun b x n h => by
  rw [upd_ne n]
  exact h
theorem But.seq {K : PySem.W.Frag} {o a : Addr} {H H' : Hp} {xs : List V} (b : But o H H') (n : a ≠ o) (h : H a = some (.lst xs)) : SqL K H' a xs := seqL_of (b a _ n h)
theorem Sep.but {R : Rg} {G H H' : Hp} {o : Addr} {u u' : HO} (s : Sep R G H) (h : G o = some u) (b : But o H H') (e : H' o = some u') : Sep R (upd G o u') H' := by
  have no : ∀ a, R.S a → a ≠ o := fun a ha z => by
    have q := s.off a ha
    rw [z, h] at q
    cases q
  refine ⟨R.loc H _ (fun a ha => ?_) s.inv, fun c x q => ?_, fun a ha => by rw [upd_ne (no a ha)]; exact s.off a ha⟩
  · cases q : H a with
    | none => exact absurd q (R.has H a s.inv ha)
    | some z => exact b a z (no a ha) q
  · by_cases hc : c = o
    · rw [hc, upd_same] at q
      rw [hc, e]
      exact q
    · rw [upd_ne hc] at q
      exact b c x hc (s.same c x q)

theorem Sep.add {R : Rg} {G0 H0 G H : Hp} {l : Addr} {u : HO} (s0 : Sep R G0 H0) (n : H0 l = none) (s : Sep R G H) (e : H l = some u) : Sep R (upd G l u) H := by
  have nl : ∀ a, R.S a → a ≠ l := fun a ha z => R.has H0 a s0.inv ha (by rw [z]; exact n)
  refine ⟨s.inv, fun b x q => ?_, fun a ha => by rw [upd_ne (nl a ha)]; exact s.off a ha⟩
  by_cases hb : b = l
  · rw [hb, upd_same] at q
    rw [hb, e]
    exact q
  · rw [upd_ne hb] at q
    exact s.same b x q

/-! ## calls by keywords alone -/
/-- a def called with the keywords ks alone: sp speaks of their values -/
structure CalK (P : Program) (w : World) (K : PySem.W.Frag) (mg : Str → Option Value) (base : Heap) (k : Nat) (x : Str) (ks : List Str) (sp : Sp) : Prop where
  ex : ∃ (f : Addr) (fd : FuncData) (ps : List Str) (spf : Sp) (g : List Value → List Value → List Value) (gV : List V → List V → List V),
    FnOk P w K mg base CX0 k f fd ps spf ∧ mg x = some (.ref f) ∧ PySem.W.keepIn K (.ref f) = true ∧ KBn K fd ps 0 ks g gV ∧ ∀ zs H Q E, sp zs H Q E → zs.length = ks.length ∧ spf (gV [] zs) H Q E
def tCk (sp : Sp) (tk : TA) : TE := fun σ H Q => tk σ H fun zs H1 => sp zs H1 Q E0
section
variable {X : Cx} {k j : Nat} {x : Str} {ks : List Str} {sp : Sp} {p pos : Pos} {kws : List Keyword} {tk : TA}
theorem pe_ck (c : CalK X.prog X.w X.K X.mg X.base k x ks sp) (hr : Room j X.A) (hk : k ≤ j) (hg : Gl X x) (hkw : PK X kws tk)
    (hall : (backToKw pos (keywordEach kws X.env)).all (·.1.isSome) = true := by rfl) (hks : (backToKw pos (keywordEach kws X.env)).filterMap (·.1) = ks := by rfl) (hdb : (x == ("__debug__" : Str)) = false := by decide)
    (hpl : ((backTo pos (starEach [] X.env)).any (·.1) || (backToKw pos (keywordEach kws X.env)).any (·.1.isNone)) = false := by rfl) : PE X (.Call (.Name x p) [] kws pos) (tCk sp tk) := by
  obtain ⟨f, fd, ps, spf, g, gV, F, hm, kp, hb, hs⟩ := c.ex
  refine ⟨fun pins s σ H Q I h => wpAny_Call_Name_kw (ld_glob I hg hm ?_ hdb)⟩
  refine PySem.W.callWith_KW0 (h₀ := X.base) I.ok.mod.kin kp hall (thn (hkw.run pos pins s σ H _ I h) fun ws s1 hx => ?_) hpl
  obtain ⟨zs, H1, I1, rz, q⟩ := hx
  obtain ⟨lz, q⟩ := hs _ _ _ _ q
  refine ⟨I1.kIn, ?_⟩
  rw [hks]
  exact run_fnN F (hr.mono hk) hb pass0 I1 .nil rz rfl lz q
end

/-! ## a def with defaults, called by place or by keywords -/
section
variable {P : Program} {w : World} {K : PySem.W.Frag} {mg : Str → Option Value} {base : Heap} {x qual : Str} {pms : Arguments} {body : List Stmt} {sc : Scope} {dvs : List V} {f : Addr} {fd : FuncData} {ps ks : List Str}
/-- all parameters by keywords; g brings the values in the parameters' order -/
theorem kbn_dflt (F : FunD K x qual pms body sc dvs [] f fd) (hd : dvs ≠ []) (g : {α : Type} → List α → List α) (hg : ∀ {vs : List V} {us : List Value}, Vals vs us → Vals (g vs) (g us))
    (h : ∀ (T : Addr) (kV doc pm : Value) (an : Option Addr) (cdv ct : Value) (ws its : List Value), ws.length = ks.length → its.length = dvs.length →
      ∃ k, bindArgs (PySem.W.fnOf x qual pms body sc (.ref T) kV doc pm an cdv ct) ⟨[], ks.zip ws⟩ = seqItems? (.ref T) >>= k ∧ k (some its.toArray) = pure (ps.zip (g ws))) : KBn K fd ps 0 ks (fun _ ws => g ws) (fun _ zs => g zs) := by
  obtain ⟨oc, od, dV, kV, doc, pm, an, cdv, ct, osl, rfl, lk, hcd, hD, hK⟩ := F.ex
  rcases hD with ⟨e, _⟩ | ⟨_, T, o, its, m, rfl, lT, oT, rT⟩
  · exact absurd e hd
  · refine ⟨fun s us ws X l1 l2 => ?_, fun r1 r2 => hg r2⟩
    cases us with
    | cons u us => cases l1
    | nil =>
      obtain ⟨k, e1, e2⟩ := h T kV doc pm an cdv ct ws its l2 rT.length.symm
      refine BindsTo.of_looks fun M => ?_
      rw [e1]
      exact looks_items X lT oT (.of_pure e2)
/-- .. of a def without defaults -/
theorem kbn_plain {st : Stmt} (F : Fun K x qual st f fd) (g : {α : Type} → List α → List α) (hg : ∀ {vs : List V} {us : List Value}, Vals vs us → Vals (g vs) (g us))
    (h : ∀ (kV doc pm : Value) (an : Option Addr) (cdv ct : Value) (ws : List Value), ws.length = ks.length →
      bindArgs (PySem.W.fnOf x qual (defArgs st) (defBody st) (defScope st) .none kV doc pm an cdv ct) ⟨[], ks.zip ws⟩ = pure (ps.zip (g ws))) : KBn K fd ps 0 ks (fun _ ws => g ws) (fun _ zs => g zs) := by
  obtain ⟨oc, od, kV, doc, pm, an, cdv, ct, osl, rfl, lk, hcd⟩ := F.ex
  refine ⟨fun s us ws X l1 l2 => ?_, fun r1 r2 => hg r2⟩
  cases us with
  | cons u us => cases l1
  | nil => exact .of_eq (h kV doc pm an cdv ct ws l2)
theorem calK_mk {k : Nat} {spf sp : Sp} {g : List Value → List Value → List Value} {gV : List V → List V → List V} (F : FnOk P w K mg base CX0 k f fd ps spf) (hm : mg x = some (.ref f)) (kp : PySem.W.keepIn K (.ref f) = true) (b : KBn K fd ps 0 ks g gV)
    (h : ∀ zs H Q E, sp zs H Q E → zs.length = ks.length ∧ spf (gV [] zs) H Q E) : CalK P w K mg base k x ks sp := ⟨f, fd, ps, spf, g, gV, F, hm, kp, b, h⟩
end
/-- a def without defaults that is called by place and by keywords -/
structure Def2 (P : Program) (w : World) (K : PySem.W.Frag) (mg : Str → Option Value) (base : Heap) (k : Nat) (x : Str) (st : Stmt) (ps : List Str) (sp : Sp) : Prop where
  ex : ∃ (f : Addr) (fd : FuncData), Fun K x x st f fd ∧ mg x = some (.ref f) ∧ Binds K fd ps [] ∧ FnOk P w K mg base CX0 k f fd ps sp
section
variable {P : Program} {w : World} {K : PySem.W.Frag} {mg : Str → Option Value} {base : Heap} {x : Str} {st : Stmt} {ps ks N : List Str} {k : Nat} {sp sp' : Sp}
theorem DefAt.two (D : DefAt K mg x st ps) (S : FnScope N ps (defScope st)) (len : ∀ vs H Q E, sp vs H Q E → vs.length = ps.length)
    (hb : ∀ (f : Addr) (cdv : Value) (A : Around) (outer : List Env) (s : Shared) (H : Hp) (vs : List V) (Q : VK) (E : XK), Room k (A.deeper (envOfC x (defScope st) s.heap.objs.size f cdv)) → sp vs H Q E →
      ∃ t, PSs (cxOf CX0 P w K mg base N x (defScope st) f cdv A outer s H E).nox (defBody st) t ∧ t { nx := fun _ H' => Q .non H', rt := Q } (start N vs) H) : Def2 P w K mg base (k + 1) x st ps sp := by
  obtain ⟨f, fd, F, hm, b⟩ := D.ex
  exact ⟨f, fd, F, hm, b, F.ok S len fun cdv A outer s H vs Q E => hb f cdv A outer s H vs Q E⟩
theorem Def2.cal (D : Def2 P w K mg base k x st ps sp) : Cal P w K mg base k x sp [] := by
  obtain ⟨f, fd, F, hm, b, ok⟩ := D.ex
  exact ⟨f, fd, ps, [], ok, hm, F.kp, b, .nil⟩
theorem Def2.calK (D : Def2 P w K mg base k x st ps sp) (g : {α : Type} → List α → List α) (hg : ∀ {vs : List V} {us : List Value}, Vals vs us → Vals (g vs) (g us))
    (h : ∀ (kV doc pm : Value) (an : Option Addr) (cdv ct : Value) (ws : List Value), ws.length = ks.length →
      bindArgs (PySem.W.fnOf x x (defArgs st) (defBody st) (defScope st) .none kV doc pm an cdv ct) ⟨[], ks.zip ws⟩ = pure (ps.zip (g ws))) (hs : ∀ zs H Q E, sp' zs H Q E → zs.length = ks.length ∧ sp (g zs) H Q E) : CalK P w K mg base k x ks sp' := by
  obtain ⟨f, fd, F, hm, b, ok⟩ := D.ex
  exact calK_mk ok hm F.kp (kbn_plain F g hg h) hs
end
theorem perm_sorted_eq : ∀ {xs ys : List Int}, xs.Perm ys → xs.Pairwise (· ≤ ·) → ys.Pairwise (· ≤ ·) → xs = ys
  | [], ys, p, _, _ => (List.nil_perm.mp p).symm
  | x :: r, [], p, _, _ => absurd (List.perm_nil.mp p) (by simp)
  | x :: r, y :: t, p, h1, h2 => by
    have a1 := (List.pairwise_cons.mp h1).1
    have a2 := (List.pairwise_cons.mp h2).1
    have m1 : x ∈ y :: t := p.mem_iff.mp (List.mem_cons_self ..)
    have m2 : y ∈ x :: r := p.mem_iff.mpr (List.mem_cons_self ..)
    have e : x = y := by
      rcases List.mem_cons.mp m1 with z | z
      · exact z
      · rcases List.mem_cons.mp m2 with z2 | z2
        · exact z2.symm
        · have := a1 y z2
          have := a2 x z
          omega
    subst e
    rw [perm_sorted_eq (List.Perm.cons_inv p) (List.pairwise_cons.mp h1).2 (List.pairwise_cons.mp h2).2]

/-! ## a law's end, of a law that may ask for repr -/
theorem law_endG {P : Program} {w : World} {K : PySem.W.Frag} {mg mb : Str → Option Value} {k : Nat} {fa a : Addr} {fd : FuncData} {x : Str} {sp : Sp} {s₁ : Shared} {vs : List Value} {ns : List Int}
    (KX : K.In s₁.heap) (hns : s₁.heap.Ns mainGlobals mg) (hb : s₁.heap.Ns builtinsNs mb) (hbb : ∀ x : Str, x ≠ "__name__" → mb x = bootBuiltins x) (hlim : s₁.heap.NoLimit) (hg : s₁.gens = #[])
    (ha : s₁.heap.get? a = some { cls := .type "list", data := .seq vs.toArray }) (hi : IntsAre vs ns) (hl : ns.length ≤ sizeLine) (hr : Room k callerA)
    (F : ∀ base : Heap, K.In base → base.Ns mainGlobals mg → FnG P w K mg base CX0 k fa fd [x] sp) (hbind : ∀ (s : Shared) (u : Value), BindsTo s fd ⟨[u], []⟩ [(x, u)])
    (hsp : ∀ H : Hp, Only H → SqL K H a (iv ns) → sp [.ref a] H (fun v _ => v = .bl true) fun _ _ _ => False) :
    codeAny (model P w) callerA (.call (.ref fa) ⟨[.ref a], []⟩) (fun r s' => r = .ok (.ret (.bool true)) ∧ OldK s₁.heap s'.heap ∧ s'.os = s₁.os ∧ AllBare s'.gens) s₁ := by
  have rel := vals_ints hi
  have same : ∀ H : Hp, Only H → SqL K H a (iv ns) → HOk P w H s₁.heap → (∀ b, H b ≠ none → b = a) → (H a ≠ none → K.lookup a = none) →
      codeAny (model P w) callerA (.call (.ref fa) ⟨[.ref a], []⟩) (fun r s' => r = .ok (.ret (.bool true)) ∧ OldK s₁.heap s'.heap ∧ s'.os = s₁.os ∧ AllBare s'.gens) s₁ := by
    intro H only sq hok at_a k_a
    have nonK : ∀ {b : Addr} {o : Obj}, K.lookup b = some o → H b = none := by
      intro b o e
      cases q : H b with
      | none => rfl
      | some u =>
        have z := at_a b (by rw [q]; simp)
        subst z
        rw [k_a (by rw [q]; simp)] at e
        cases e
    have nonD : ∀ {b : Addr} {o : Obj} {es : Array DictEntry} {ep : Nat}, s₁.heap.get? b = some o → o.data = .dict es ep → H b = none := by
      intro b o es ep e d
      cases q : H b with
      | none => rfl
      | some u =>
        have z := at_a b (by rw [q]; simp)
        subst z
        rw [ha] at e
        cases e
        cases d
    have nsB : ∀ {b : Addr} {m : Str → Option Value}, s₁.heap.Ns b m → (hidT s₁.heap H).Ns b m := by
      rintro b m ⟨o, es, ep, e, d, r⟩
      exact ⟨o, es, ep, hidT_get e (nonD e d), d, r⟩
    have kinB : K.In (hidT s₁.heap H) := fun b o e => hidT_get (KX b o e) (nonK e)
    have md : Mod K mg (hidT s₁.heap H) := by
      obtain ⟨mc, h1, h2⟩ := hlim
      exact ⟨kinB, nsB hns, ⟨mb, nsB hb, hbb⟩, ⟨mc, nsB h1, h2⟩⟩
    have noIn : ∀ b : Addr, b ∉ frs [] := fun b z => by cases z
    have env : Env0 P w K mg (hidT s₁.heap H) callerA [] s₁ H := ⟨rfl, md, fun b o e => of_hidT e, Nat.le_of_eq (hidT_size _ _), trivial, fun b z => absurd z (noIn b), hok, .of_eq hg⟩
    refine codeAny_mono ((F _ kinB (nsB hns)).run callerA [] s₁ H ⟨[.ref a], []⟩ [.ref a] [.ref a] _ _ hr rfl env (hbind s₁ (.ref a)) (.cons rfl .nil) (hsp H only sq)) fun r s' h => ?_
    cases r with
    | error e => exact False.elim h
    | ok fl =>
      cases fl with
      | next => exact False.elim h
      | brk => exact False.elim h
      | cont => exact False.elim h
      | ret u =>
        obtain ⟨v, H', os, bare, un, hok', rv, q⟩ := h
        have ev : v = .bl true := q
        subst ev
        have eu : u = Value.bool true := rv
        subst eu
        refine ⟨rfl, OldK.of_keep fun b o e => ?_, os, bare⟩
        cases q : H b with
        | none => exact un.keep b o e q (noIn b) (by simp)
        | some u =>
          rcases only b with z | ⟨ob, xs, z⟩
          · rw [q] at z
            cases z
          · obtain ⟨e1, _⟩ := hok b _ z
            obtain ⟨e2, _⟩ := hok' b _ (un.frzs b ob _ z)
            rw [e] at e1
            cases e1
            exact e2
  cases hk : K.lookup a with
  | some o =>
    have e := KX a o hk
    rw [ha] at e
    cases e
    refine same (fun _ => none) (fun _ => .inl rfl) (.inr ⟨_, vs.toArray, _, hk, rfl, rfl, rfl, ?_, by simpa using rel⟩) (fun b u z => ?_) (fun b z => absurd rfl z) fun z => absurd rfl z
    · rw [List.size_toArray, hi.length]
      exact hl
    · exact nomatch (show (none : Option HO) = some u from z)
  | none =>
    let H0 : Hp := fun b => if b = a then some (.frz { cls := .type "list", data := .seq vs.toArray } (.lst (iv ns))) else none
    have at1 : H0 a = some (.frz { cls := .type "list", data := .seq vs.toArray } (.lst (iv ns))) := if_pos rfl
    have at0 : ∀ b, b ≠ a → H0 b = none := fun b hb => if_neg hb
    refine same H0 (fun b => ?_) (.inl (.inr ⟨_, at1⟩)) (fun b u z => ?_) (fun b z => ?_) fun _ => hk
    · by_cases hb : b = a
      · exact .inr ⟨_, _, by rw [hb]; exact at1⟩
      · exact .inl (at0 b hb)
    · by_cases hb : b = a
      · subst hb
        rw [at1] at z
        cases z
        exact ⟨ha, by rw [iv_len]; exact hl, vs, _, rel, ha⟩
      · rw [at0 b hb] at z
        cases z
    · by_cases hb : b = a
      · exact hb
      · exact absurd (at0 b hb) z
theorem walk_ofG {l : PySem.W.OpenLaw} {n k : Nat} {q : Program} {loose : List Str} {XP : (Str → Option Value) → Heap → Prop} {YP : World → Heap → Prop} {d : DefRec} {K : Params → PySem.W.Frag} {sp : PySem.W.Frag → Sp} {x : Str}
    (hn : l.most = some n) (hn2 : n ≤ sizeLine) (hdf : d.params.defaults = []) (hr : Room k callerA) (hY : ∀ (w : World) (h : Heap), YP w h → (K w.params).In h)
    (F : ∀ (w : World) (mg : Str → Option Value) (fa : Addr) (h : Heap), (K w.params).In h → h.Ns mainGlobals mg → mg d.name = some (.ref fa) →
      ∃ fd : FuncData, (∀ (s : Shared) (u : Value), BindsTo s fd ⟨[u], []⟩ [(x, u)]) ∧
        ∀ base : Heap, (K w.params).In base → base.Ns mainGlobals mg → FnG l.prog w (K w.params) mg base CX0 k fa fd [x] (sp (K w.params)))
    (hsp : ∀ (K : PySem.W.Frag) (H : Hp) (a : Addr) (ns : List Int), ns.length ≤ n → SqL K H a (iv ns) → sp K [.ref a] H (fun v _ => v = .bl true) fun _ _ _ => False) :
    PySem.W.WalkO q loose XP YP l.row.toRowW d [] (fun f vs => PySem.call f vs) := by
  refine Att.attach_call hn hdf fun w s₀ s₁ mg mb fa o pm cd doc a vs ns G Y ho hd hcd hmg hobj hints hlen hg => ?_
  have KX := hY w _ Y
  obtain ⟨fd, hb, hF⟩ := F w mg fa _ KX G.T.g hmg
  exact law_endG KX G.T.g G.T.b G.T.builtins G.T.nolimit hg hobj hints (Nat.le_trans hlen hn2) hr hF hb fun H _ hS => hsp (K w.params) H a ns hlen hS

/-! ## a def of the text, out of what the top has written -/
theorem DefAt.mk1 {K : PySem.W.Frag} {h : Heap} {mg : Str → Option Value} {x : Str} {st : Stmt} {ps : List Str} {f : Addr} {od an : Option Addr} {sl : Array (Option Value)} {oc kV dc pm cd ct : Value} (X : K.In h) (G : h.Ns mainGlobals mg)
    (a : PySem.W.nsIn K mainGlobals x = some (some (.ref f))) (l : K.lookup f = some ⟨oc, od, .func (PySem.W.fnOf x x (defArgs st) (defBody st) (defScope st) .none kV dc pm an cd ct), sl⟩) (c : PySem.W.codeIn K cd x = true) (k : PySem.W.keepIn K (.ref f) = true)
    (hb : ∀ (kV doc pm : Value) (an : Option Addr) (cdv ct : Value) (us : List Value), us.length = ps.length → bindArgs (PySem.W.fnOf x x (defArgs st) (defBody st) (defScope st) .none kV doc pm an cdv ct) ⟨us, []⟩ = pure (ps.zip us)) : DefAt K mg x st ps :=
  ⟨f, _, fun_mk (st := st) l c k, PySem.W.mg_of X G a, (fun_mk (st := st) l c k).binds hb⟩
theorem cutD {p q : Prop} (h : p) (k : p → q) : q := k h
/-- a class: what its facts say -/
theorem cls_mk {K : PySem.W.Frag} {h : Heap} {mg : Str → Option Value} {x : Str} {C : Addr} (X : K.In h) (hC : mg x = some (.ref C)) (pg : PySem.W.plainGet K C Str.empty = true) (hd : PySem.W.hasDictIn K C = true) (po : PySem.W.plainOver K C = true) (sa : PySem.W.findIn K (.ref C) "__setattr__" = some (some (.builtin "object.__setattr__"))) : Cls K C := ⟨pg, hd, po, sa⟩
theorem noat_mk {K : PySem.W.Frag} {h : Heap} {mg : Str → Option Value} {x : Str} {C : Addr} {m : Str} (X : K.In h) (hC : mg x = some (.ref C)) (n : PySem.W.findIn K (.ref C) m = some none) : NoAttr K C m := n
theorem IniAt.mk1 {K : PySem.W.Frag} {h : Heap} {mg : Str → Option Value} {C : Addr} {x qual : Str} {st : Stmt} {ps : List Str} {f : Addr} {od an : Option Addr} {sl : Array (Option Value)} {oc kV dc pm cd ct : Value} (X : K.In h) (hm : mg x = some (.ref C))
    (a : PySem.W.findIn K (.ref C) "__init__" = some (some (.ref f))) (l : K.lookup f = some ⟨oc, od, .func (PySem.W.fnOf "__init__" qual (defArgs st) (defBody st) (defScope st) .none kV dc pm an cd ct), sl⟩) (c : PySem.W.codeIn K cd qual = true) (k : PySem.W.keepIn K (.ref f) = true)
    (mk : PySem.W.makesIn K C = true) (i : PySem.W.isFn K (.ref f) = true) (kc : PySem.W.keepIn K (.ref C) = true)
    (hb : ∀ (kV doc pm : Value) (an : Option Addr) (cdv ct : Value) (us : List Value), us.length = ps.length → bindArgs (PySem.W.fnOf "__init__" qual (defArgs st) (defBody st) (defScope st) .none kV doc pm an cdv ct) ⟨us, []⟩ = pure (ps.zip us)) : IniAt K mg C x qual st ps :=
  ⟨f, _, fun_mk (st := st) l c k, ⟨mk, a, i, kc⟩, hm, (fun_mk (st := st) l c k).binds hb⟩
theorem MetAt.mk1 {K : PySem.W.Frag} {h : Heap} {mg : Str → Option Value} {x : Str} {C : Addr} {m qual : Str} {st : Stmt} {ps : List Str} {f : Addr} {od an : Option Addr} {sl : Array (Option Value)} {oc kV dc pm cd ct : Value} (X : K.In h) (hC : mg x = some (.ref C))
    (a : PySem.W.findIn K (.ref C) m = some (some (.ref f))) (l : K.lookup f = some ⟨oc, od, .func (PySem.W.fnOf m qual (defArgs st) (defBody st) (defScope st) .none kV dc pm an cd ct), sl⟩) (c : PySem.W.codeIn K cd qual = true) (k : PySem.W.keepIn K (.ref f) = true) (i : PySem.W.isFn K (.ref f) = true)
    (hb : ∀ (kV doc pm : Value) (an : Option Addr) (cdv ct : Value) (us : List Value), us.length = ps.length → bindArgs (PySem.W.fnOf m qual (defArgs st) (defBody st) (defScope st) .none kV doc pm an cdv ct) ⟨us, []⟩ = pure (ps.zip us)) : MetAt K C m qual st ps :=
  ⟨f, _, fun_mk (st := st) l c k, ⟨a, i, k⟩, (fun_mk (st := st) l c k).binds hb⟩
theorem PrpAt.mk1 {K : PySem.W.Frag} {h : Heap} {mg : Str → Option Value} {x : Str} {C : Addr} {m qual : Str} {st : Stmt} {ps : List Str} {f p : Addr} {rest : List Value} {od an : Option Addr} {sl : Array (Option Value)} {oc kV dc pm cd ct : Value} (X : K.In h) (hC : mg x = some (.ref C))
    (a : PySem.W.findIn K (.ref C) m = some (some (.ref p))) (g : PySem.W.specialIn K (.ref p) "__get__" = some (some (.builtin "property.__get__"))) (t : PySem.W.takesIn K (.ref p) = some true) (r : PySem.W.recIn K p "property" = some (.ref f :: rest))
    (l : K.lookup f = some ⟨oc, od, .func (PySem.W.fnOf m qual (defArgs st) (defBody st) (defScope st) .none kV dc pm an cd ct), sl⟩) (c : PySem.W.codeIn K cd qual = true) (k : PySem.W.keepIn K (.ref f) = true)
    (hb : ∀ (kV doc pm : Value) (an : Option Addr) (cdv ct : Value) (us : List Value), us.length = ps.length → bindArgs (PySem.W.fnOf m qual (defArgs st) (defBody st) (defScope st) .none kV doc pm an cdv ct) ⟨us, []⟩ = pure (ps.zip us)) : PrpAt K C m qual st ps :=
  ⟨f, p, _, fun_mk (st := st) l c k, ⟨a, g, t, rest, r⟩, (fun_mk (st := st) l c k).binds hb⟩
theorem glob_mk {K : PySem.W.Frag} {h : Heap} {mg : Str → Option Value} {x : Str} {C : Addr} (X : K.In h) (G : h.Ns mainGlobals mg) (a : PySem.W.nsIn K mainGlobals x = some (some (.ref C))) : mg x = some (.ref C) := PySem.W.mg_of X G a
/-- a def with defaults -/
theorem funD_mk {K : PySem.W.Frag} {h : Heap} {mg : Str → Option Value} {x : Str} {st : Stmt} {dvs : List V} {f T : Addr} {o : Obj} {its : List Value} {n : Nat} {od an : Option Addr} {sl : Array (Option Value)} {oc kV dc pm cd ct : Value} (X : K.In h) (G : h.Ns mainGlobals mg)
    (a : PySem.W.nsIn K mainGlobals x = some (some (.ref f))) (l : K.lookup f = some ⟨oc, od, .func (PySem.W.fnOf x x (defArgs st) (defBody st) (defScope st) (.ref T) kV dc pm an cd ct), sl⟩) (c : PySem.W.codeIn K cd x = true) (k : PySem.W.keepIn K (.ref f) = true)
    (t : K.lookup T = some o) (e : o.data = .seq its.toArray n) (hv : Vals dvs its) (hd : dvs ≠ []) : FunD K x x (defArgs st) (defBody st) (defScope st) dvs [] f (PySem.W.fnOf x x (defArgs st) (defBody st) (defScope st) (.ref T) kV dc pm an cd ct) ∧ mg x = some (.ref f) :=
  ⟨⟨⟨oc, od, _, kV, dc, pm, an, cd, ct, sl, rfl, l, c, .inr ⟨hd, T, o, its, n, rfl, t, e, hv⟩, .inl rfl⟩, k⟩, PySem.W.mg_of X G a⟩
/-- the law's own def -/
theorem DefAt.law {K : PySem.W.Frag} {mg : Str → Option Value} {x : Str} {st : Stmt} {fa : Addr} {p : Str} (D : DefAt K mg x st [p]) (hfa : mg x = some (.ref fa))
    (hb : ∀ (kV doc pm : Value) (an : Option Addr) (cdv ct : Value) (us : List Value), us.length = 1 → bindArgs (PySem.W.fnOf x x (defArgs st) (defBody st) (defScope st) .none kV doc pm an cdv ct) ⟨us, []⟩ = pure ([p].zip us)) :
    ∃ fd : FuncData, Fun K x x st fa fd ∧ ∀ (s : Shared) (u : Value), BindsTo s fd ⟨[u], []⟩ [(p, u)] := by
  obtain ⟨f, fd, F, hm, b⟩ := D.ex
  rw [hfa] at hm
  cases hm
  obtain ⟨oc, od, kV, doc, pm, an, cdv, ct, osl, rfl, lk, hcd⟩ := F.ex
  exact ⟨_, F, fun s u => .of_eq (hb kV doc pm an cdv ct [u] rfl)⟩
end Sq

/-! the mathematics of replacements on lengths of runs -/
namespace Sq
def once (n k : Int) : Int := n / k + n % k
def sqz (n : Int) (row : List Int) : Int := row.foldl once n
def rb (R k : Int) : Int := if k > R + 1 then R else (R + 3 - k) * k - 2
def reachOf (row : List Int) (most : Int) : Int := row.foldr (fun k R => rb R k) most
abbrev Two (row : List Int) : Prop := ∀ k ∈ row, (2 : Int) ≤ k
def Mid (ns : List Int) : Prop := ∀ k ∈ ns, (2 : Int) ≤ k ∧ k < 2 ^ 240
theorem Mid.two {ns : List Int} (h : Mid ns) : Two ns := fun k hk => (h k hk).1
theorem sqz_cons (n k : Int) (r : List Int) : sqz n (k :: r) = sqz (once n k) r := rfl
theorem sqz_app (n : Int) (a b : List Int) : sqz n (a ++ b) = sqz (sqz n a) b := by simp [sqz, List.foldl_append]
theorem sqz_snoc (n k : Int) (a : List Int) : sqz n (a ++ [k]) = once (sqz n a) k := by rw [sqz_app]; rfl
theorem sqz_take {row : List Int} {n k : Int} {i : Nat} (h : row[i]? = some k) : sqz n (row.take (i + 1)) = once (sqz n (row.take i)) k := by
  rw [List.take_add_one, h]
  exact sqz_snoc _ _ _
theorem once_nn {n k : Int} (hn : 0 ≤ n) (hk : 2 ≤ k) : 0 ≤ once n k := by
  unfold once
  have h1 := Int.ediv_nonneg hn (by omega : (0 : Int) ≤ k)
  have h2 := Int.emod_nonneg n (by omega : k ≠ 0)
  omega
/-- quotient and rest -/
theorem qr (n : Int) {k : Int} (hk : 2 ≤ k) : ∃ q r, n = q * k + r ∧ 0 ≤ r ∧ r < k ∧ n / k = q ∧ n % k = r :=
  ⟨n / k, n % k, by have := Int.mul_ediv_add_emod n k; rw [Int.mul_comm] at this; omega, Int.emod_nonneg n (by omega), Int.emod_lt_of_pos n (by omega), rfl, rfl⟩
theorem qr_of {q r k : Int} (h0 : 0 ≤ r) (h1 : r < k) : (q * k + r) / k = q ∧ (q * k + r) % k = r := by
  have hk : k ≠ 0 := by omega
  constructor
  · rw [Int.add_comm, Int.add_mul_ediv_right _ _ hk, Int.ediv_eq_zero_of_lt h0 h1]; omega
  · rw [Int.add_comm, Int.add_mul_emod_self_right, Int.emod_eq_of_lt h0 h1]
theorem once_qr {q r k : Int} (h0 : 0 ≤ r) (h1 : r < k) : once (q * k + r) k = q + r := by
  obtain ⟨a, b⟩ := qr_of (q := q) h0 h1
  unfold once
  rw [a, b]
theorem once_le {n k : Int} (hn : 0 ≤ n) (hk : 2 ≤ k) : once n k ≤ n := by
  obtain ⟨q, r, e, h0, h1, e1, e2⟩ := qr n hk
  unfold once
  rw [e1, e2]
  have hq : 0 ≤ q := by rw [← e1]; exact Int.ediv_nonneg hn (by omega)
  have := Int.mul_le_mul_of_nonneg_left (by omega : (1 : Int) ≤ k) hq
  omega
theorem once_small {n k : Int} (hn : 0 ≤ n) (h : n < k) : once n k = n := by
  unfold once
  rw [Int.ediv_eq_zero_of_lt hn h, Int.emod_eq_of_lt hn h]
  omega
theorem once_pos {n k : Int} (hn : 1 ≤ n) (hk : 2 ≤ k) : 1 ≤ once n k := by
  obtain ⟨q, r, e, h0, h1, e1, e2⟩ := qr n hk
  unfold once
  rw [e1, e2]
  have hq : 0 ≤ q := by rw [← e1]; exact Int.ediv_nonneg (by omega) (by omega)
  rcases Int.lt_or_eq_of_le hq with h | h
  · omega
  · subst h; omega
theorem sqz_nn : ∀ {row : List Int} {n : Int}, 0 ≤ n → Two row → 0 ≤ sqz n row
  | [], n, h, _ => h
  | k :: r, n, h, t => sqz_nn (row := r) (once_nn h (t k (List.mem_cons_self ..))) fun j hj => t j (List.mem_cons_of_mem _ hj)
theorem sqz_le : ∀ {row : List Int} {n : Int}, 0 ≤ n → Two row → sqz n row ≤ n
  | [], n, h, _ => Int.le_refl n
  | k :: r, n, h, t => Int.le_trans (sqz_le (row := r) (once_nn h (t k (List.mem_cons_self ..))) fun j hj => t j (List.mem_cons_of_mem _ hj)) (once_le h (t k (List.mem_cons_self ..)))
theorem sqz_pos : ∀ {row : List Int} {n : Int}, 1 ≤ n → Two row → 1 ≤ sqz n row
  | [], n, h, _ => h
  | k :: r, n, h, t => sqz_pos (row := r) (once_pos h (t k (List.mem_cons_self ..))) fun j hj => t j (List.mem_cons_of_mem _ hj)
/-- one step of the reach -/
theorem rb_pos {R k : Int} (hR : 1 ≤ R) (hk : 2 ≤ k) : R ≤ rb R k := by
  unfold rb
  split
  · omega
  · rename_i h
    have e : (R + 3 - k) * k - 2 - R = (R + 1 - k) * (k - 1) + (k - 1) := by
      have e1 : R + 3 - k = (R + 1 - k) + 2 := by omega
      have e2 : k = (k - 1) + 1 := by omega
      rw [e1]
      have e3 : (R + 1 - k) * k = (R + 1 - k) * (k - 1) + (R + 1 - k) := by
        have := Int.mul_sub (R + 1 - k) k 1
        omega
      have e4 : (R + 1 - k + 2) * k = (R + 1 - k) * k + 2 * k := Int.add_mul _ _ _
      omega
    have := Int.mul_nonneg (by omega : (0 : Int) ≤ R + 1 - k) (by omega : (0 : Int) ≤ k - 1)
    omega
theorem rb_all {R k n : Int} (hR : 1 ≤ R) (hk : 2 ≤ k) (h0 : 0 ≤ n) (h : n ≤ rb R k) : once n k ≤ R := by
  unfold rb at h
  split at h
  · rw [once_small h0 (by omega)]; exact h
  · rename_i hh
    obtain ⟨q, r, e, h1, h2, e1, e2⟩ := qr n hk
    unfold once
    rw [e1, e2]
    have e3 : (R + 3 - k) * k = (R + 2 - k) * k + k := by
      have : R + 3 - k = (R + 2 - k) + 1 := by omega
      rw [this, Int.add_mul, Int.one_mul]
    rcases Int.lt_or_le q (R + 2 - k) with hq | hq
    · omega
    · rcases Int.lt_or_eq_of_le hq with hq | hq
      · have := Int.mul_le_mul_of_nonneg_right (by omega : R + 3 - k ≤ q) (by omega : (0 : Int) ≤ k)
        omega
      · subst hq
        omega
theorem rb_next {R k : Int} (hR : 1 ≤ R) (hk : 2 ≤ k) : once (rb R k + 1) k = R + 1 := by
  unfold rb
  split
  · rw [once_small (by omega) (by omega)]
  · have e3 : (R + 3 - k) * k - 2 + 1 = (R + 2 - k) * k + (k - 1) := by
      have : R + 3 - k = (R + 2 - k) + 1 := by omega
      rw [this, Int.add_mul, Int.one_mul]; omega
    rw [e3, once_qr (by omega) (by omega)]
    omega
theorem reach_pos : ∀ {row : List Int} {m : Int}, 1 ≤ m → Two row → m ≤ reachOf row m
  | [], m, _, _ => Int.le_refl m
  | k :: r, m, h, t => by
    have ih := reach_pos (row := r) h fun j hj => t j (List.mem_cons_of_mem _ hj)
    exact Int.le_trans ih (rb_pos (by omega) (t k (List.mem_cons_self ..)))
theorem reach_all : ∀ {row : List Int} {m n : Int}, 1 ≤ m → Two row → 0 ≤ n → n ≤ reachOf row m → sqz n row ≤ m
  | [], m, n, _, _, _, h => h
  | k :: r, m, n, h, t, h0, hn => by
    have t' : Two r := fun j hj => t j (List.mem_cons_of_mem _ hj)
    have hk := t k (List.mem_cons_self ..)
    have p := reach_pos h t'
    exact reach_all (row := r) h t' (once_nn h0 hk) (rb_all (by omega) hk h0 hn)
theorem reach_next : ∀ {row : List Int} {m : Int}, 1 ≤ m → Two row → sqz (reachOf row m + 1) row = m + 1
  | [], m, _, _ => rfl
  | k :: r, m, h, t => by
    have t' : Two r := fun j hj => t j (List.mem_cons_of_mem _ hj)
    have hk := t k (List.mem_cons_self ..)
    have p := reach_pos h t'
    show sqz (once (rb (reachOf r m) k + 1) k) r = m + 1
    rw [rb_next (by omega) hk]
    exact reach_next h t'
/-- the reach is where the first greater one stands -/
theorem reach_is {row : List Int} {m n : Int} (h : 1 ≤ m) (t : Two row) (h0 : 0 ≤ n) (hn : m < sqz n row) (ha : ∀ j, 0 ≤ j → j < n → sqz j row ≤ m) : reachOf row m = n - 1 := by
  have p := reach_pos h t
  rcases Int.lt_or_le (reachOf row m) n with a | a
  · rcases Int.lt_or_le (reachOf row m + 1) n with b | b
    · have := ha _ (by omega) b
      rw [reach_next h t] at this
      omega
    · omega
  · have := reach_all h t h0 a
    omega
theorem reach_mono {row : List Int} {m m' : Int} (h : 1 ≤ m) (hm : m ≤ m') (t : Two row) : reachOf row m ≤ reachOf row m' := by
  rcases Int.lt_or_le (reachOf row m') (reachOf row m) with a | a
  · have p := reach_pos (m := m') (by omega) t
    have := reach_all h t (n := reachOf row m' + 1) (by omega) (by omega)
    rw [reach_next (by omega) t] at this
    omega
  · exact a
end Sq


namespace Sq
def prodL (ns : List Int) : Int := ns.foldr (fun k p => k * p) 1
def slack (ns : List Int) : Int := (ns.map fun k => k - 1).sum
theorem prodL_cons (k : Int) (r : List Int) : prodL (k :: r) = k * prodL r := rfl
theorem prodL_app (a b : List Int) : prodL (a ++ b) = prodL a * prodL b := by
  induction a with
  | nil => simp [prodL]
  | cons k r ih => rw [List.cons_append, prodL_cons, prodL_cons, ih, Int.mul_assoc]
theorem prodL_snoc (a : List Int) (k : Int) : prodL (a ++ [k]) = prodL a * k := by rw [prodL_app]; simp [prodL]
theorem prodL_pos : ∀ {ns : List Int}, Two ns → 1 ≤ prodL ns
  | [], _ => Int.le_refl 1
  | k :: r, h => by
    have ih := prodL_pos (ns := r) fun j hj => h j (List.mem_cons_of_mem _ hj)
    have hk := h k (List.mem_cons_self ..)
    rw [prodL_cons]
    have := Int.mul_le_mul (show (1 : Int) ≤ k by omega) ih (by decide) (by omega)
    omega
theorem prodL_one : ∀ {ns : List Int}, Two ns → prodL ns ≤ 1 → ns = []
  | [], _, _ => rfl
  | k :: r, h, h1 => by
    have ih := prodL_pos (ns := r) fun j hj => h j (List.mem_cons_of_mem _ hj)
    have hk := h k (List.mem_cons_self ..)
    rw [prodL_cons] at h1
    have := Int.mul_le_mul hk ih (by decide) (by omega)
    omega
theorem once_mul (n : Int) {k : Int} (hk : 2 ≤ k) : k * once n k = n + (k - 1) * (n % k) := by
  have e := Int.mul_ediv_add_emod n k
  unfold once
  rw [Int.mul_add, Int.sub_mul, Int.one_mul]
  omega
theorem sqz_ge : ∀ {ns : List Int} {n : Int}, 0 ≤ n → Two ns → n ≤ prodL ns * sqz n ns
  | [], n, _, _ => by simp [prodL, sqz]
  | k :: r, n, h0, h => by
    have t : Two r := fun j hj => h j (List.mem_cons_of_mem _ hj)
    have hk := h k (List.mem_cons_self ..)
    have ih := sqz_ge (ns := r) (once_nn h0 hk) t
    have e := once_mul n hk
    have hm := Int.emod_nonneg n (show k ≠ 0 by omega)
    have := Int.mul_nonneg (show 0 ≤ k - 1 by omega) hm
    have := Int.mul_le_mul_of_nonneg_left ih (show 0 ≤ k by omega)
    rw [prodL_cons, sqz_cons, Int.mul_assoc]
    omega
theorem slack_cons (k : Int) (r : List Int) : slack (k :: r) = (k - 1) + slack r := by simp [slack]
theorem slack_nn : ∀ {ns : List Int}, Two ns → 0 ≤ slack ns
  | [], _ => Int.le_refl 0
  | k :: r, h => by
    have ih := slack_nn (ns := r) fun j hj => h j (List.mem_cons_of_mem _ hj)
    have hk := h k (List.mem_cons_self ..)
    rw [slack_cons]
    omega
theorem sqz_up : ∀ {ns : List Int} {n : Int}, 0 ≤ n → Two ns → prodL ns * sqz n ns ≤ n + prodL ns * slack ns
  | [], n, _, _ => by simp [prodL, sqz, slack]
  | k :: r, n, h0, h => by
    have t : Two r := fun j hj => h j (List.mem_cons_of_mem _ hj)
    have hk := h k (List.mem_cons_self ..)
    have ih := sqz_up (ns := r) (once_nn h0 hk) t
    have e := once_mul n hk
    have hl := Int.emod_lt_of_pos n (show 0 < k by omega)
    have p := prodL_pos t
    have a1 : (k - 1) * (n % k) ≤ (k - 1) * k := Int.mul_le_mul_of_nonneg_left (by omega) (by omega)
    have a2 := Int.mul_le_mul_of_nonneg_left ih (show 0 ≤ k by omega)
    -- k * (prodL r * x) ≤ k * once n k + k * prodL r * slack r
    have a3 : k * prodL r * (k - 1) = (k - 1) * k * prodL r := by
      rw [Int.mul_comm (k * prodL r), Int.mul_assoc]
    have a4 : (k - 1) * k * 1 ≤ (k - 1) * k * prodL r := Int.mul_le_mul_of_nonneg_left p (Int.mul_nonneg (by omega) (by omega))
    rw [prodL_cons, sqz_cons, slack_cons, Int.mul_add (k * prodL r), a3, Int.mul_assoc k (prodL r) (sqz _ _)]
    rw [Int.mul_add, ← Int.mul_assoc] at a2
    rw [← Int.mul_assoc] at a2
    rw [← Int.mul_assoc]
    omega
theorem sqz_mul : ∀ {ns : List Int} {m : Int}, Two ns → sqz (m * prodL ns) ns = m
  | [], m, _ => by simp [prodL, sqz]
  | k :: r, m, h => by
    have hk := h k (List.mem_cons_self ..)
    have e : m * prodL (k :: r) = (m * prodL r) * k + 0 := by
      rw [prodL_cons, Int.add_zero, Int.mul_assoc, Int.mul_comm k]
    rw [sqz_cons, e, once_qr (by omega) (by omega), Int.add_zero]
    exact sqz_mul fun j hj => h j (List.mem_cons_of_mem _ hj)
theorem slack_le : ∀ {ns : List Int} {g : Int}, (∀ k ∈ ns, k ≤ g) → slack ns ≤ ns.length * (g - 1)
  | [], g, _ => by simp [slack]
  | k :: r, g, h => by
    have ih := slack_le (ns := r) (g := g) fun j hj => h j (List.mem_cons_of_mem _ hj)
    have hk := h k (List.mem_cons_self ..)
    rw [slack_cons, List.length_cons]
    have : ((r.length + 1 : Nat) : Int) * (g - 1) = r.length * (g - 1) + (g - 1) := by
      rw [Int.natCast_add, Int.add_mul]
      simp
    omega
theorem prodL_le : ∀ {ns : List Int} {g : Int} {n : Nat}, Two ns → (∀ k ∈ ns, k ≤ g) → ns.length ≤ n → 1 ≤ g → prodL ns ≤ g ^ n
  | [], g, n, _, _, _, hg => by
    show (1 : Int) ≤ g ^ n
    exact Int.pow_pos (show 0 < g by omega)
  | k :: r, g, 0, _, _, hl, _ => by simp at hl
  | k :: r, g, n + 1, h, hk, hl, hg => by
    have ih := prodL_le (ns := r) (g := g) (n := n) (fun j hj => h j (List.mem_cons_of_mem _ hj)) (fun j hj => hk j (List.mem_cons_of_mem _ hj)) (by simpa using hl) hg
    have p := prodL_pos (ns := r) fun j hj => h j (List.mem_cons_of_mem _ hj)
    have k2 := h k (List.mem_cons_self ..)
    rw [prodL_cons, Int.pow_succ, Int.mul_comm]
    exact Int.mul_le_mul ih (hk k (List.mem_cons_self ..)) (by omega) (by omega)
/-- the product is told by one long run -/
theorem told_prod {ns : List Int} {b s : Int} (h : Two ns) (hb : prodL ns ≤ b) (hs : slack ns < s) : ((s * b * (b + 1)) + sqz (s * b * (b + 1)) ns - 1) / sqz (s * b * (b + 1)) ns = prodL ns := by
  have p := prodL_pos h
  have s0 := slack_nn h
  have L0 : 0 ≤ s * b * (b + 1) := Int.mul_nonneg (Int.mul_nonneg (by omega) (by omega)) (by omega)
  have g := sqz_ge L0 h
  have u := sqz_up L0 h
  generalize hL : s * b * (b + 1) = L at *
  generalize hx : sqz L ns = x at *
  generalize hP : prodL ns = Pr at *
  generalize hS : slack ns = S at *
  -- (Pr - 1) * x < L ≤ Pr * x
  have e1 : Pr * S * Pr ≤ S * b * b := by
    have a := Int.mul_le_mul hb hb (by omega) (by omega : 0 ≤ b)
    have c := Int.mul_le_mul_of_nonneg_left a s0
    have d1 : Pr * S * Pr = S * (Pr * Pr) := by rw [Int.mul_comm Pr S, Int.mul_assoc]
    have d2 : S * b * b = S * (b * b) := Int.mul_assoc _ _ _
    omega
  have e2 : S * b * b + b < L := by
    have a1 : (S + 1) * b * (b + 1) ≤ s * b * (b + 1) := Int.mul_le_mul_of_nonneg_right (Int.mul_le_mul_of_nonneg_right (by omega) (by omega)) (by omega)
    have a2 : (S + 1) * b * (b + 1) = S * b * b + S * b + (b * b + b) := by
      rw [Int.add_mul, Int.one_mul, Int.mul_add, Int.mul_one, Int.add_mul]
      omega
    have a3 := Int.mul_nonneg s0 (show 0 ≤ b by omega)
    have a4 := Int.mul_le_mul (show (1 : Int) ≤ b by omega) (show (1 : Int) ≤ b by omega) (by decide) (by omega)
    omega
  have xpos : 0 < x := by
    rcases Int.lt_or_le 0 x with z | z
    · exact z
    · have := Int.mul_nonpos_of_nonneg_of_nonpos (show 0 ≤ Pr by omega) z
      have := Int.mul_nonneg (Int.mul_nonneg s0 (show 0 ≤ b by omega)) (show 0 ≤ b by omega)
      omega
  have lo : (Pr - 1) * x < L := by
    -- Pr * ((Pr - 1) * x) ≤ (Pr - 1) * (L + Pr * S) < Pr * L
    have a1 := Int.mul_le_mul_of_nonneg_left u (show 0 ≤ Pr - 1 by omega)
    have a2 : (Pr - 1) * (Pr * x) = Pr * ((Pr - 1) * x) := by
      rw [← Int.mul_assoc, ← Int.mul_assoc, Int.mul_comm (Pr - 1) Pr]
    have a3 : (Pr - 1) * (L + Pr * S) = Pr * L - L + (Pr * S * Pr - Pr * S) := by
      rw [Int.sub_mul, Int.one_mul, Int.mul_add, Int.mul_comm Pr (Pr * S)]
      omega
    have a4 := Int.mul_nonneg (show 0 ≤ Pr by omega) s0
    rcases Int.lt_or_le ((Pr - 1) * x) L with z | z
    · exact z
    · have := Int.mul_le_mul_of_nonneg_left z (show 0 ≤ Pr by omega)
      omega
  have q1 : L + x - 1 = (L - (Pr - 1) * x - 1) + Pr * x := by
    rw [Int.sub_mul, Int.one_mul]
    omega
  rw [q1, Int.add_mul_ediv_right _ _ (by omega), Int.ediv_eq_zero_of_lt (by omega) (by rw [Int.sub_mul, Int.one_mul]; omega)]
  omega
/-- the next number of the list is told by runs below the product -/
theorem next_hit {k : Int} {r : List Int} (h : Two (k :: r)) : sqz (prodL (k :: r) - k + 1) (k :: r) = 1 := by
  have t : Two r := fun j hj => h j (List.mem_cons_of_mem _ hj)
  have hk := h k (List.mem_cons_self ..)
  have e : prodL (k :: r) - k + 1 = (prodL r - 1) * k + 1 := by
    rw [prodL_cons, Int.sub_mul, Int.one_mul, Int.mul_comm]
  rw [sqz_cons, e, once_qr (by omega) (by omega)]
  have := sqz_mul (m := 1) t
  rw [Int.one_mul] at this
  rw [show prodL r - 1 + 1 = prodL r by omega]
  exact this
theorem next_miss {k j : Int} {r : List Int} (h : Two (k :: r)) (hj : 2 ≤ j) (hjk : j < k) : 1 < sqz (prodL (k :: r) - j + 1) (k :: r) := by
  have t : Two r := fun j hj => h j (List.mem_cons_of_mem _ hj)
  have hk := h k (List.mem_cons_self ..)
  have p := prodL_pos t
  have e : prodL (k :: r) - j + 1 = (prodL r - 1) * k + (k - j + 1) := by
    rw [prodL_cons, Int.sub_mul, Int.one_mul, Int.mul_comm]
    omega
  rw [sqz_cons, e, once_qr (by omega) (by omega)]
  have g := sqz_ge (n := prodL r - 1 + (k - j + 1)) (by omega) t
  rcases Int.lt_or_le 1 (sqz (prodL r - 1 + (k - j + 1)) r) with z | z
  · exact z
  · have := Int.mul_le_mul_of_nonneg_left z (show 0 ≤ prodL r by omega)
    omega
end Sq

/-! ## own tactic words (local) -/
local macro_rules | `(tactic| walk_at "sq hp") => `(tactic| first
  | assumption
  | exact L2.upd_same
  | (refine Sq.Sep.get (by assumption) ?_; walk_at "sq hp")
  | (refine Sq.upd_keep (by assumption) ?_; walk_at "sq hp")
  | (refine Sq.Same.get (by assumption) ?_; walk_at "sq hp")
  | (refine Sq.upd_off (by assumption) ?_; walk_at "sq hp")
  | (refine Sq.upd_off (Ne.symm (by assumption)) ?_; walk_at "sq hp"))
local macro_rules | `(tactic| walk_at "sq sql") => `(tactic| first
  | assumption
  | exact Sq.seqL_of (by walk_at "sq hp")
  | exact L2.Same.seq (by assumption) (by assumption)
  | exact L2.Same.seq (Sq.Sep.same (by assumption)) (by assumption))
local macro_rules | `(tactic| walk_at "sq len") => `(tactic| (
  (try simp only [List.length_map, List.length_append, List.length_cons, List.length_nil, List.length_take, List.length_drop, List.length_reverse]); (try rw [PySem.sizeLine_eq]); omega))
local macro_rules | `(tactic| walk_at "sq side") => `(tactic| first
  | exact rfl
  | exact Nat.zero_le _
  | exact Sq.lit_len (Nat.le_of_ble_eq_true rfl)
  | ((with_reducible show L2.SqL _ _ _ _); walk_at "sq sql")
  | ((with_reducible show L2.SqT _ _ _ _); exact L2.SqT.of (by walk_at "sq hp"))
  | (apply Exists.intro; walk_at "sq sql")
  | ((with_reducible show _ = some _); walk_at "sq hp")
  | ((with_reducible show Sq.Sep _ _ _); assumption)
  | ((with_reducible show L2.ClsV _ _); first | exact .ty _ | exact .own _)
  | ((with_reducible show L2.TyX _ _ _ _); first | exact .base .non | exact .base (.bl _) | exact .base (.int _) | exact .base (.str _) | exact Sq.tyx_lst (by walk_at "sq sql") | exact Sq.tyx_tup (by exact L2.SqT.of (by walk_at "sq hp")) | assumption)
  | ((with_reducible show Sq.CPowW _ _); first | assumption | exact ⟨by decide, by decide, by decide⟩)
  | ((with_reducible show L2.CMulW _ _); first | assumption | exact (by decide +kernel))
  | ((with_reducible show L2.CDivW _ _); first | assumption | exact ⟨by decide, by decide⟩)
  | ((with_reducible show L2.tyV _ "list" _ _); exact Or.inl ⟨rfl, _, by walk_at "sq sql"⟩)
  | ((with_reducible show _ < PySem.sizeLine); walk_at "sq len")
  | ((with_reducible show _ ≤ PySem.sizeLine); walk_at "sq len")
  | ((with_reducible show (0 : Int) < _); first | assumption | decide | omega)
  | decide
  | omega)
local macro_rules | `(tactic| walk_at "sq go") => `(tactic| repeat (first
  | exact rfl
  | (fail_if_success (show ∃ W : Nat → Nat → L2.St → L2.Hp → Prop, _)
     fail_if_success (show ∃ W : Nat → Nat → L2.Hp → Prop, _)
     fail_if_success (show ∃ W : Nat → L2.St → L2.Hp → Prop, _)
     apply Exists.intro)
  | (apply And.intro; focus walk_at "sq side")
  | refine L2.iteT ?_
  | refine L2.iteF ?_))
namespace Sq
open PySem PySem.Spec PyProof.Rows L2
def topS (i : Nat) : Stmt := PySem.Challenge.pw_squeezelists_k17_hidden_lists_found.main.body.getD i (.Pass ⟨0, 0, 0, 0⟩)
structure Bt (mg : Str → Option Value) : Prop where
  «abs» : mg "abs" = none
  «enumerate» : mg "enumerate" = none
  «isinstance» : mg "isinstance" = none
  «len» : mg "len" = none
  «list» : mg "list" = none
  «max» : mg "max" = none
  «min» : mg "min" = none
  «range» : mg "range" = none
section
variable {P : Program} {w : World} {K : PySem.W.Frag} {mg : Str → Option Value} {base : Heap}

/-! ### check_list, of valid lists -/
abbrev s_check_list : Stmt := topS 5
theorem sc_check_list : FnScope ["replacements", "index", "replacement"] ["replacements"] (defScope s_check_list) := ⟨rfl, rfl, rfl, by decide +kernel, rfl, by decide +kernel, by decide +kernel⟩

def spCheckList (K : PySem.W.Frag) : Sp := fun vs H Q _ => ∃ (a : Addr) (ns : List Int), vs = [.ref a] ∧ SqL K H a (iv ns) ∧ Keep (Two ns) ∧ ∀ H', Same H H' → Q .non H'
theorem cal_check_list (D : DefAt K mg "check_list" s_check_list ["replacements"]) (B : Bt mg) : Cal P w K mg base 1 "check_list" (spCheckList K) [] := by
  refine D.cal sc_check_list (fun vs H Q E h => ?_) (fun f cdv A outer s H vs Q E hr h => ?_)
  · obtain ⟨a, ns, rfl, _⟩ := h
    rfl
  · obtain ⟨a, ns, rfl, hS, ⟨h2⟩, q⟩ := h
    refine ⟨_, (pss_one (ps_for PassesOwn.never rfl (pi_enumK (K := K) (by rfl) B.enumerate (pa_cons (pv 0) pa_nil)) (pg_tupK (K := K) rfl (pgs_cons (pg_name (i := 1) sc_check_list.nd rfl (Or.inl rfl)) (pgs_cons (pg_name (i := 2) sc_check_list.nd rfl (Or.inl rfl)) pgs_nil)))
   (pss_one (ps_if (pt_cmpR op_lt (pv 2) pe_int (nomark _)) (pss_one ps_never) pss_nil)))), ?_⟩
    walk_at "sq go"
    refine for_enum (K := K) (a := a) (xs := iv ns) (fun i σ H' => Keep (∃ x y, σ = [some (.ref a), x, y] ∧ Same H H')) ⟨none, none, rfl, .refl H⟩ (fun i σ H' h => ?_) (fun i x T σ H' hx h nT => ?_) (fun σ H' h => ?_)
    · obtain ⟨_, _, _, s⟩ := h.o
      exact s.seq hS
    · obtain ⟨y1, y2, rfl, s⟩ := h.o
      obtain ⟨n, hn, rfl⟩ := iv_get hx
      have hn2 := h2 n (List.mem_of_getElem? hn)
      walk_at "sq go"
      refine ifD (fun c => absurd c (by omega)) (fun c => ?_)
      exact ⟨_, _, rfl, s.trans (same_new nT)⟩
    · obtain ⟨y1, y2, rfl, s⟩ := h.o
      exact q H' s

/-! ### lengths of runs, of valid arguments -/
abbrev s_check_length : Stmt := topS 6
theorem sc_check_length : FnScope ["length"] ["length"] (defScope s_check_length) := ⟨rfl, rfl, rfl, by decide +kernel, rfl, by decide +kernel, by decide +kernel⟩

def spCheckLength : Sp := fun vs H Q _ => ∃ m : Int, vs = [.int m] ∧ Keep (0 ≤ m) ∧ Q .non H
theorem cal_check_length (D : DefAt K mg "check_length" s_check_length ["length"]) (B : Bt mg) : Cal P w K mg base 1 "check_length" spCheckLength [] := by
  refine D.cal sc_check_length (fun vs H Q E h => ?_) (fun f cdv A outer s H vs Q E hr h => ?_)
  · obtain ⟨m, rfl, _⟩ := h
    rfl
  · obtain ⟨m, rfl, ⟨h1⟩, q⟩ := h
    refine ⟨_, (pss_one (ps_if (pt_cmpR op_lt (pv 0) pe_int (nomark _)) (pss_one ps_never) pss_nil)), ?_⟩
    walk_at "sq go"
    exact ifD (fun c => absurd c (by omega)) (fun c => q)
abbrev s_squeezed_once : Stmt := topS 7
theorem sc_squeezed_once : FnScope ["length", "replacement"] ["length", "replacement"] (defScope s_squeezed_once) := ⟨rfl, rfl, rfl, by decide +kernel, rfl, by decide +kernel, by decide +kernel⟩

def spSqOnce : Sp := fun vs H Q _ => ∃ n k : Int, vs = [.int n, .int k] ∧ Keep (2 ≤ k ∧ k < 2 ^ 240) ∧ Q (.int (once n k)) H
theorem cal_squeezed_once (D : DefAt K mg "squeezed_once" s_squeezed_once ["length", "replacement"]) (B : Bt mg) : Cal P w K mg base 1 "squeezed_once" spSqOnce [] := by
  refine D.cal sc_squeezed_once (fun vs H Q E h => ?_) (fun f cdv A outer s H vs Q E hr h => ?_)
  · obtain ⟨n, k, rfl, _⟩ := h
    rfl
  · obtain ⟨n, k, rfl, ⟨h2, hb⟩, q⟩ := h
    refine ⟨_, (pss_one (ps_ret (pe_op op_add (pe_op op_fdivW (pv 0) (pv 1)) (pe_op op_mod (pv 0) (pv 1))))), ?_⟩
    have c : CDivW n k := div_ok (by omega) hb
    walk_at "sq go"
    exact q
abbrev s_squeezed_by : Stmt := topS 8
theorem sc_squeezed_by : FnScope ["length", "replacements", "replacement"] ["length", "replacements"] (defScope s_squeezed_by) := ⟨rfl, rfl, rfl, by decide +kernel, rfl, by decide +kernel, by decide +kernel⟩

def spSqBy (K : PySem.W.Frag) : Sp := fun vs H Q _ => ∃ (n : Int) (p : Addr) (ns : List Int), vs = [.int n, .ref p] ∧ SqL K H p (iv ns) ∧ Keep (Mid ns) ∧ Q (.int (sqz n ns)) H
theorem cal_squeezed_by (D : DefAt K mg "squeezed_by" s_squeezed_by ["length", "replacements"]) (B : Bt mg) (c_squeezed_once : Cal P w K mg base 1 "squeezed_once" spSqOnce []) : Cal P w K mg base 2 "squeezed_by" (spSqBy K) [] := by
  refine D.cal sc_squeezed_by (fun vs H Q E h => ?_) (fun f cdv A outer s H vs Q E hr h => ?_)
  · obtain ⟨n, p, ns, rfl, _⟩ := h
    rfl
  · obtain ⟨n, p, ns, rfl, hS, ⟨hm⟩, q⟩ := h
    refine ⟨_, (pss_cons (ps_for PassesOwn.never rfl (pi_listK (K := K) (pv 1)) (pg_name (i := 2) sc_squeezed_by.nd rfl (Or.inl rfl))
   (pss_one (ps_set (i := 0) sc_squeezed_by.nd rfl (Or.inl rfl) (pe_c c_squeezed_once hr (by first | decide | omega) (by rfl) (pa_cons (pv 0) (pa_cons (pv 2) pa_nil))))))
  (pss_one (ps_ret (pv 0)))), ?_⟩
    walk_at "sq go"
    refine for_list (K := K) (a := p) (xs := iv ns) (fun i σ H' => Keep (∃ x, σ = [some (.int (sqz n (ns.take i))), some (.ref p), x] ∧ H' = H)) ⟨none, rfl, rfl⟩ (fun i σ H' _ h => ?_) (fun i x σ H' hx h => ?_) (fun σ H' h => ?_)
    · obtain ⟨x, _, rfl⟩ := h.o
      exact hS
    · obtain ⟨x, rfl, rfl⟩ := h.o
      obtain ⟨k, hk, rfl⟩ := iv_get hx
      walk_at "sq go"
      refine ⟨⟨hm k (List.mem_of_getElem? hk)⟩, ?_⟩
      exact ⟨_, by rw [sqz_take hk]; rfl, rfl⟩
    · obtain ⟨x, rfl, rfl⟩ := h.o
      have e : (iv ns).length = ns.length := iv_len _
      rw [e, List.take_length]
      walk_at "sq go"
      exact q
abbrev s_squeezed : Stmt := topS 9
theorem sc_squeezed : FnScope ["length", "replacements"] ["length", "replacements"] (defScope s_squeezed) := ⟨rfl, rfl, rfl, by decide +kernel, rfl, by decide +kernel, by decide +kernel⟩

def spSq (K : PySem.W.Frag) : Sp := fun vs H Q _ => ∃ (n : Int) (p : Addr) (ns : List Int), vs = [.int n, .ref p] ∧ SqL K H p (iv ns) ∧ Keep (0 ≤ n ∧ Mid ns) ∧ ∀ H', Same H H' → Q (.int (sqz n ns)) H'
theorem cal_squeezed_p (D : DefAt K mg "squeezed" s_squeezed ["length", "replacements"]) (B : Bt mg) (c_check_length : Cal P w K mg base 1 "check_length" spCheckLength []) (c_check_list : Cal P w K mg base 1 "check_list" (spCheckList K) [])
    (c_squeezed_by : Cal P w K mg base 2 "squeezed_by" (spSqBy K) []) : Cal P w K mg base 3 "squeezed" (spSq K) [] := by
  refine D.cal sc_squeezed (fun vs H Q E h => ?_) (fun f cdv A outer s H vs Q E hr h => ?_)
  · obtain ⟨n, p, ns, rfl, _⟩ := h
    rfl
  · obtain ⟨n, p, ns, rfl, hS, ⟨h0, hm⟩, q⟩ := h
    refine ⟨_, (pss_cons (ps_expr (pe_c c_check_length hr (by first | decide | omega) (by rfl) (pa_cons (pv 0) pa_nil)))
  (pss_cons (ps_expr (pe_c c_check_list hr (by first | decide | omega) (by rfl) (pa_cons (pv 1) pa_nil)))
  (pss_one (ps_ret (pe_c c_squeezed_by hr (by first | decide | omega) (by rfl) (pa_cons (pv 0) (pa_cons (pv 1) pa_nil))))))), ?_⟩
    walk_at "sq go"
    refine ⟨⟨h0⟩, ?_⟩
    walk_at "sq go"
    refine ⟨⟨hm.two⟩, fun H1 s1 => ?_⟩
    have hS1 := s1.seq hS
    walk_at "sq go"
    exact ⟨⟨hm⟩, q H1 s1⟩

/-! ### the source of draws: a list of three ints -/
abbrev s_law_draw : Stmt := topS 16
theorem sc_law_draw : FnScope ["pool", "many", "drawn", "mixed"] ["pool", "many"] (defScope s_law_draw) := ⟨rfl, rfl, rfl, by decide +kernel, rfl, by decide +kernel, by decide +kernel⟩

theorem cal_draw (D : DefAt K mg "_law_draw" s_law_draw ["pool", "many"]) (B : Bt mg) : Cal P w K mg base 1 "_law_draw" spDraw3 [] := by
  refine D.cal sc_law_draw (fun vs H Q E h => ?_) (fun f cdv A outer s H vs Q E hr h => ?_)
  · obtain ⟨r, m, N, G, rfl, _⟩ := h
    rfl
  · obtain ⟨r, m, N, G, rfl, hS, ⟨hm, hmb, hN⟩, q⟩ := h
    obtain ⟨a, b, c, gr, a0, b0, b1, c0, c1⟩ := id hS.inv
    have cm : CDivW a m := div_ok hm hmb
    refine ⟨_, (pss_cons (ps_if (pt_cmpR op_gt (pe_ix (ix_listK (K := K)) (pv 0) pe_int (fun _ _ => rfl)) pe_int (nomark _)) (pss_cons (ps_set (i := 2) sc_law_draw.nd rfl (Or.inl rfl) (pe_op op_mod (pe_ix (ix_listK (K := K)) (pv 0) pe_int (fun _ _ => rfl)) (pv 1)))
  (pss_cons (ps_asg (pe_op op_fdivW (pe_ix (ix_listK (K := K)) (pv 0) pe_int (fun _ _ => rfl)) (pv 1)) (pg_sub (pv 0) pe_int set_list))
  (pss_one (ps_ret (pv 2))))) pss_nil)
  (pss_cons (ps_asg (pe_op op_add (pe_ix (ix_listK (K := K)) (pv 0) pe_int (fun _ _ => rfl)) pe_int) (pg_sub (pv 0) pe_int set_list))
  (pss_cons (ps_set (i := 3) sc_law_draw.nd rfl (Or.inl rfl) (pe_op op_mod (pe_op op_powW (pe_op op_add (pe_ix (ix_listK (K := K)) (pv 0) pe_int (fun _ _ => rfl)) (pe_op op_mulW pe_int (pe_ix (ix_listK (K := K)) (pv 0) pe_int (fun _ _ => rfl)))) pe_int) pe_int))
  (pss_cons (ps_set (i := 3) sc_law_draw.nd rfl (Or.inl rfl) (pe_op op_mod (pe_op op_powW (pe_op op_add (pv 3) (pe_op op_mulW pe_int (pe_ix (ix_listK (K := K)) (pv 0) pe_int (fun _ _ => rfl)))) pe_int) pe_int))
  (pss_one (ps_ret (pe_op op_mod (pe_op op_fdivW (pv 3) pe_int) (pv 1)))))))), ?_⟩
    have k1 : Sm 62 (c + 1) := by unfold Sm; omega
    have k2 : Sm 30 (15493301) := by unfold Sm; decide
    have k3 : Sm 25 (32454031) := by unfold Sm; decide
    have w1 : CMulW (15493301) (c + 1) := k2.wide k1 (by decide) (by decide) (by decide)
    have w2 : CMulW (32454031) (c + 1) := k3.wide k1 (by decide) (by decide) (by decide)
    have s1 : Sm 101 (b + 15493301 * (c + 1)) := (show Sm 100 b by unfold Sm; omega).add ((k2.mul k1).mono (by decide))
    have p1 : CPowW (b + 15493301 * (c + 1)) 3 := pow_ok s1 (by decide) (by decide) (by decide) (by decide)
    have p2 : ∀ y : Int, CPowW (y % 162259276829213363391578010288127 + 32454031 * (c + 1)) 5 := fun y => by
      have y0 := Int.emod_nonneg y (show (162259276829213363391578010288127 : Int) ≠ 0 by decide)
      have y1 := Int.emod_lt_of_pos y (show (0 : Int) < 162259276829213363391578010288127 by decide)
      exact pow_ok ((show Sm 107 (y % 162259276829213363391578010288127) by unfold Sm; omega).add ((k3.mul k1).mono (by decide))) (by decide) (by decide) (by decide) (by decide)
    have p3 := p2 ((b + 15493301 * (c + 1)) ^ (3 : Int).toNat)
    have v0 : ∀ y : Int, 0 ≤ y % m := fun y => Int.emod_nonneg y (show m ≠ 0 by omega)
    have v1 : ∀ y : Int, y % m < m := fun y => Int.emod_lt_of_pos y hm
    walk_at "sq go"
    refine ifD (fun h => ?_) (fun h => ?_)
    · walk_at "sq go"
      exact q _ _ (v0 _) (v1 _) (Sep3.redo hS ⟨a / m, b, c, upd_same, Int.ediv_nonneg a0 (by omega), b0, b1, c0, by omega⟩)
    · walk_at "sq go"
      exact q _ _ (v0 _) (v1 _) (Sep3.redo hS ⟨a, b, c + 1, upd_same, a0, b0, b1, by omega, by omega⟩)

abbrev s_law_pool : Stmt := topS 15
theorem sc_law_pool : FnScope ["script", "at", "cell"] ["script", "at"] (defScope s_law_pool) := ⟨rfl, rfl, rfl, by decide +kernel, rfl, by decide +kernel, by decide +kernel⟩

def spPool (K : PySem.W.Frag) : Sp := fun vs H Q _ => ∃ (p : Addr) (ns : List Int) (i : Int), vs = [.ref p, .int i] ∧ SqL K H p (iv ns) ∧ Keep (0 ≤ i ∧ i < 100) ∧ ∀ r H', Same H H' → Sep (rg3 r 0) H H' → Q (.ref r) H'
theorem cal_pool (D : DefAt K mg "_law_pool" s_law_pool ["script", "at"]) (B : Bt mg) : Cal P w K mg base 1 "_law_pool" (spPool K) [] := by
  refine D.cal sc_law_pool (fun vs H Q E h => ?_) (fun f cdv A outer s H vs Q E hr h => ?_)
  · obtain ⟨p, ns, i, rfl, _⟩ := h
    rfl
  · obtain ⟨p, ns, i, rfl, hS, ⟨i0, i1⟩, q⟩ := h
    refine ⟨_, (pss_cons (ps_set (i := 2) sc_law_pool.nd rfl (Or.inl rfl) pe_int)
  (pss_cons (ps_if (pt_cmpR op_lt (pv 1) (pe_callB (len_seqK (K := K)) (by rfl) B.len boot_len (pa_cons (pv 0) pa_nil)) (nomark _)) (pss_one (ps_set (i := 2) sc_law_pool.nd rfl (Or.inl rfl) (pe_ix (ix_listK (K := K)) (pv 0) (pv 1) (fun _ _ => rfl)))) pss_nil)
  (pss_one (ps_ret (pe_lst (pa_cons (pe_callB (call_max2 rfl) (by rfl) B.max (by decide +kernel) (pa_cons pe_int (pa_cons (pe_op op_sub (pe_callB call_abs (by rfl) B.abs (by decide +kernel) (pa_cons (pv 2) pa_nil)) (pe_op op_powW pe_int pe_int)) pa_nil))) (pa_cons (pe_op op_add (pe_op op_mod (pv 2) pe_int) (pe_op op_mulW pe_int (pe_op op_add (pv 1) pe_int))) (pa_cons pe_int pa_nil)))))))), ?_⟩
    have wm : CMulW 3367900279 (i + 1) := Sm.wide (a := 32) (b := 10) (by unfold Sm; decide) (by unfold Sm; omega) (by decide) (by decide) (by decide)
    have el : (iv ns).length = ns.length := iv_len _
    have last : ∀ c d : Int, 0 ≤ d → ∀ r : Addr, H r = none → Q (.ref r) (upd H r (.lst [.int d, .int (c % 2305843009213693951 + 3367900279 * (i + 1)), .int 0])) := fun c d d0 r nr => by
      have y0 := Int.emod_nonneg c (show (2305843009213693951 : Int) ≠ 0 by decide)
      have y1 := Int.emod_lt_of_pos c (show (0 : Int) < 2305843009213693951 by decide)
      exact q r _ (same_new nr) ⟨⟨_, _, _, upd_same, d0, by omega, by omega, by decide, by decide⟩, same_new nr, fun x hx => by rw [show x = r from hx]; exact nr⟩
    walk_at "sq go"
    refine ifD (fun h => ?_) (fun h => ?_)
    · obtain ⟨n, gx⟩ := atI_iv (ns := ns) i0 (by omega)
      walk_at "sq go"
      exact last n _ (by split <;> omega)
    · walk_at "sq go"
      exact last 0 _ (by split <;> omega)

abbrev s_law_list : Stmt := topS 17
theorem sc_law_list : FnScope ["pool", "most", "far", "found", "turn", "wide"] ["pool", "most", "far"] (defScope s_law_list) := ⟨rfl, rfl, rfl, by decide +kernel, rfl, by decide +kernel, by decide +kernel⟩

/-- replacements from 2 to wide -/
def Row (ns : List Int) (wide : Int) : Prop := ∀ k ∈ ns, (2 : Int) ≤ k ∧ k ≤ wide
theorem Row.two {ns : List Int} {w : Int} (h : Row ns w) : Two ns := fun k hk => (h k hk).1
theorem Row.mid {ns : List Int} {w : Int} (h : Row ns w) (hw : w < 2 ^ 240) : Mid ns := fun k hk => ⟨(h k hk).1, Int.lt_of_le_of_lt (h k hk).2 hw⟩
theorem Row.mono {ns : List Int} {w w' : Int} (h : Row ns w) (hw : w ≤ w') : Row ns w' := fun k hk => ⟨(h k hk).1, Int.le_trans (h k hk).2 hw⟩
theorem Row.nil (w : Int) : Row [] w := fun _ z => nomatch z
theorem Row.snoc {ns : List Int} {w v : Int} (h : Row ns w) (v2 : 2 ≤ v) (vw : v ≤ w) : Row (ns ++ [v]) w := fun k hk => by
  rcases List.mem_append.mp hk with z | z
  · exact h k z
  · rw [List.mem_singleton.mp z]
    exact ⟨v2, vw⟩
def spList3 : Sp := fun vs H Q _ => ∃ (r : Addr) (most far N : Int) (G : Hp), vs = [.ref r, .int most, .int far] ∧ Sep (rg3 r N) G H ∧ Keep (0 ≤ most ∧ most ≤ 1000 ∧ 2 ≤ far ∧ far < 2 ^ 100 ∧ N < 2 ^ 59) ∧
  ∀ p ns H', G p = none → ns.length ≤ most.toNat → Row ns far → Sep (rg3 r (N + 2 * most + 1)) (upd G p (.lst (iv ns))) H' → Q (.ref p) H'
theorem cal_list (D : DefAt K mg "_law_list" s_law_list ["pool", "most", "far"]) (B : Bt mg) (c_law_draw : Cal P w K mg base 1 "_law_draw" spDraw3 []) : Cal P w K mg base 2 "_law_list" spList3 [] := by
  refine D.cal sc_law_list (fun vs H Q E h => ?_) (fun f cdv A outer s H vs Q E hr h => ?_)
  · obtain ⟨r, most, far, N, G, rfl, _⟩ := h
    rfl
  · obtain ⟨r, most, far, N, G, rfl, hS, ⟨m0, m1, f2, fb, hN⟩, q⟩ := h
    refine ⟨_, (pss_cons (ps_set (i := 3) sc_law_list.nd rfl (Or.inl rfl) (pe_lst pa_nil))
  (pss_cons (ps_for PassesOwn.never rfl (pi_range1 (by rfl) B.range (pa_cons (pe_c c_law_draw hr (by first | decide | omega) (by rfl) (pa_cons (pv 0) (pa_cons (pe_op op_add (pv 1) pe_int) pa_nil))) pa_nil)) (pg_name (i := 4) sc_law_list.nd rfl (Or.inl rfl))
   (pss_cons (ps_set (i := 5) sc_law_list.nd rfl (Or.inl rfl) (pe_callB (call_min2 rfl) (by rfl) B.min (by decide +kernel) (pa_cons (pe_op op_sub (pv 2) pe_int) (pa_cons (pe_ix (ix_listK (K := K)) (pe_lst (pa_cons pe_int (pa_cons pe_int (pa_cons pe_int (pa_cons (pe_op op_sub (pv 2) pe_int) pa_nil))))) (pe_c c_law_draw hr (by first | decide | omega) (by rfl) (pa_cons (pv 0) (pa_cons pe_int pa_nil))) (fun _ _ => rfl)) pa_nil))))
  (pss_one (ps_expr (pe_bm PySem.F.plainAttrs_list PySem.F.slot_list_append PySem.F.type_list_append mt_append (pv 3) (pa_cons (pe_op op_add pe_int (pe_c c_law_draw hr (by first | decide | omega) (by rfl) (pa_cons (pv 0) (pa_cons (pv 5) pa_nil)))) pa_nil))))))
  (pss_one (ps_ret (pv 3))))), ?_⟩
    walk_at "sq go"
    intro p np
    have gp : G p = none := hS.free np
    have hS1 := hS.new np (.lst [])
    walk_at "sq go"
    refine ⟨⟨by omega, by omega, by omega⟩, fun tn H2 t0 t1 hS2 => ?_⟩
    walk_at "sq go"
    refine for_range (lo := 0) (n := tn.toNat) (fun i σ H' => Keep (∃ ns x y, σ = [some (.ref r), some (.int most), some (.int far), some (.ref p), x, y] ∧ Sep (rg3 r (N + 1 + 2 * i)) (upd G p (.lst (iv ns))) H' ∧ ns.length = i ∧ Row ns far))
      ⟨[], none, none, rfl, Sep3.mono hS2 (by omega), rfl, Row.nil _⟩ (fun i σ H' hi h => ?_) (fun σ H' h => ?_)
    · obtain ⟨ns, x, y, rfl, hs, hl, hrow⟩ := h.o
      walk_at "sq go"
      intro e ne
      have hs1 := hs.on (same_new (o := .lst [.int 2, .int 5, .int 30, .int (far - 1)]) ne)
      have ge : upd H' e (.lst [.int 2, .int 5, .int 30, .int (far - 1)]) e = some (.lst [.int 2, .int 5, .int 30, .int (far - 1)]) := upd_same
      have hs1' := hs.new (o := .lst [.int 2, .int 5, .int 30, .int (far - 1)]) ne
      walk_at "sq go"
      refine ⟨⟨by omega, by omega, by omega⟩, fun wy K1 w0 w1 hs2 => ?_⟩
      have npe : p ≠ e := fun z => by
        have := hs.free ne
        rw [← z, upd_same] at this
        cases this
      have ge2 : K1 e = some (.lst [.int 2, .int 5, .int 30, .int (far - 1)]) := hs2.get upd_same
      have pick : ∃ v, atI [V.int 2, V.int 5, V.int 30, V.int (far - 1)] wy = some (.int v) ∧ 1 ≤ v := by
        rcases (show wy = 0 ∨ wy = 1 ∨ wy = 2 ∨ wy = 3 by omega) with z | z | z | z <;> rw [z]
        · exact ⟨_, atI_nat (j := 0) rfl, by omega⟩
        · exact ⟨_, atI_nat (j := 1) rfl, by omega⟩
        · exact ⟨_, atI_nat (j := 2) rfl, by omega⟩
        · exact ⟨_, atI_nat (j := 3) rfl, by omega⟩
      obtain ⟨v, ev, v1⟩ := pick
      walk_at "sq go"
      refine ⟨⟨by split <;> omega, by split <;> omega, by omega⟩, fun b K2 b0 b1 hs3 => ?_⟩
      have hb : 2 + b ≤ far := by
        split at b1 <;> omega
      have hp : K2 p = some (.lst (iv ns)) := hs3.get (upd_off npe upd_same)
      have hs4 := (hs3.weak (same_new (o := .lst [.int 2, .int 5, .int 30, .int (far - 1)]) (hs.free ne))).put upd_same (.lst (iv ns ++ [.int (2 + b)]))
      rw [upd_upd, iv_app] at hs4
      walk_at "sq go"
      rw [iv_app]
      exact ⟨ns ++ [2 + b], _, _, rfl, Sep3.mono hs4 (by omega), by simp [hl], hrow.snoc (by omega) hb⟩
    · obtain ⟨ns, x, y, rfl, hs, hl, hrow⟩ := h.o
      walk_at "sq go"
      exact q p ns H' gp (by omega) hrow (Sep3.mono hs (by omega))

/-! ### hidden lists -/
def hf (l : Addr) (m : Int) : List (Str × V) := [("hidden", .ref l), ("asked", .int m)]
theorem hf_hidden (l : Addr) (m : Int) : (hf l m).lookup ("hidden" : Str) = some (.ref l) := rfl
theorem hf_asked (l : Addr) (m : Int) : (hf l m).lookup ("asked" : Str) = some (.int m) := rfl
theorem hf_ask (l : Addr) (m : Int) : (hf l m).lookup ("ask" : Str) = none := rfl
theorem hf_put (l : Addr) (m n : Int) : putF "asked" (.int n) (hf l m) = hf l n := rfl
theorem hf_new (l : Addr) (m : Int) : putF "asked" (.int m) (putF "hidden" (.ref l) []) = hf l m := rfl
structure Hid (K : PySem.W.Frag) (C : Addr) : Prop where
  cl : Cls K C
  nH : NoAttr K C "hidden"
  nA : NoAttr K C "asked"
/-- a hidden list at o -/
def Hid1 (C o : Addr) (l : Addr) (m : Int) (ns : List Int) (H : Hp) : Prop := (∃ dx, H o = some (.ins C dx (hf l m))) ∧ H l = some (.lst (iv ns))
local macro_rules | `(tactic| walk_at "sq side") => `(tactic| first
  | ((with_reducible show List.lookup _ _ = _); first | exact hf_hidden _ _ | exact hf_asked _ _ | exact hf_ask _ _)
  | ((with_reducible show Cls _ _); assumption)
  | ((with_reducible show NoAttr _ _ _); assumption)
  | ((with_reducible show List.length _ < 1000); exact Nat.le_of_ble_eq_true rfl))
theorem But.off {o a : Addr} {H H' : Hp} {u : HO} (b : But o H H') (n : H a = none) : But o H (upd H' a u) := fun c x k e => by
  rw [upd_ne fun z => by
    rw [z, n] at e
    cases e]
  exact b c x k e
abbrev s_HiddenList___init__ : Stmt := inClass (topS 11) 0
theorem sc_HiddenList___init__ : FnScope ["self", "replacements"] ["self", "replacements"] (defScope s_HiddenList___init__) := ⟨rfl, rfl, rfl, by decide +kernel, rfl, by decide +kernel, by decide +kernel⟩

def spHInit (K : PySem.W.Frag) (C : Addr) : Sp := fun vs H Q _ => ∃ (x p dx : Addr) (ns : List Int), vs = [.ref x, .ref p] ∧ H x = some (.ins C dx []) ∧ SqL K H p (iv ns) ∧ Keep (Two ns) ∧
  ∀ l H', H l = none → But x H H' → H' l = some (.lst (iv ns)) → H' x = some (.ins C dx (hf l 0)) → Q .non H'
theorem mak_hidden {C : Addr} (D : IniAt K mg C "HiddenList" "HiddenList.__init__" s_HiddenList___init__ ["self", "replacements"]) (hi : Hid K C) (B : Bt mg) (c_check_list : Cal P w K mg base 1 "check_list" (spCheckList K) []) :
    Mak P w K mg base 2 "HiddenList" C (spHInit K C) := by
  refine D.mak sc_HiddenList___init__ (fun vs H Q E h => ?_) (fun f cdv A outer s H vs Q E hr h => ?_)
  · obtain ⟨x, p, dx, ns, rfl, _⟩ := h
    rfl
  · obtain ⟨x, p, dx, ns, rfl, hx, hS, ⟨h2⟩, q⟩ := h
    obtain ⟨cl, nH, nA⟩ := hi
    refine ⟨_, (pss_cons (ps_expr (pe_c c_check_list hr (by first | decide | omega) (by rfl) (pa_cons (pv 1) pa_nil)))
  (pss_cons (ps_fldK (K := K) (pv 0) (pe_callTy (list_ofK (K := K)) (by rfl) B.list (by decide +kernel) (pa_cons (pv 1) pa_nil)) rfl)
  (pss_one (ps_fldK (K := K) (pv 0) pe_int rfl)))), ?_⟩
    walk_at "sq go"
    refine ⟨⟨h2⟩, fun H1 s1 => ?_⟩
    have hS1 := s1.seq hS
    have hx1 := Same.get s1 hx
    walk_at "sq go"
    intro l nl
    have hx2 : upd H1 l (.lst (iv ns)) x = some (.ins C dx []) := upd_keep nl hx1
    have nx : l ≠ x := fun e => by
      rw [e, hx1] at nl
      cases nl
    walk_at "sq go"
    refine q l _ (s1.free nl) (((But.of s1).trans (But.of (same_new nl))).trans (But.put.trans But.put)) ?_ ?_
    · rw [upd_ne nx, upd_ne nx, upd_same]
    · rw [upd_same, hf_new]
abbrev s_HiddenList_questions : Stmt := inClass (topS 11) 1
theorem sc_HiddenList_questions : FnScope ["self"] ["self"] (defScope s_HiddenList_questions) := ⟨rfl, rfl, rfl, by decide +kernel, rfl, by decide +kernel, by decide +kernel⟩

def spHQ (C : Addr) : Sp := fun vs H Q _ => ∃ (o dx l : Addr) (m : Int), vs = [.ref o] ∧ H o = some (.ins C dx (hf l m)) ∧ Q (.int m) H
theorem prp_questions {C : Addr} (D : PrpAt K C "questions" "HiddenList.questions" s_HiddenList_questions ["self"]) (hi : Hid K C) (B : Bt mg) : Prp P w K mg base 1 C "questions" (spHQ C) := by
  refine D.prp hi.cl sc_HiddenList_questions (fun vs H Q E h => ?_) (fun f cdv A outer s H vs Q E hr h => ?_)
  · obtain ⟨o, dx, l, m, rfl, _⟩ := h
    rfl
  · obtain ⟨o, dx, l, m, rfl, ho, q⟩ := h
    obtain ⟨cl, nH, nA⟩ := hi
    refine ⟨_, (pss_one (ps_ret (pe_fldK (K := K) (pv 0)))), ?_⟩
    walk_at "sq go"
    exact q
abbrev s_HiddenList_ask : Stmt := inClass (topS 11) 2
theorem sc_HiddenList_ask : FnScope ["self", "length", "found"] ["self", "length"] (defScope s_HiddenList_ask) := ⟨rfl, rfl, rfl, by decide +kernel, rfl, by decide +kernel, by decide +kernel⟩

def spHAsk (C : Addr) : Sp := fun vs H Q _ => ∃ (o dx l : Addr) (m n : Int) (ns : List Int), vs = [.ref o, .int n] ∧ H o = some (.ins C dx (hf l m)) ∧ H l = some (.lst (iv ns)) ∧ Keep (0 ≤ n ∧ Mid ns) ∧
  ∀ H', But o H H' → H' o = some (.ins C dx (hf l (m + 1))) → Q (.int (sqz n ns)) H'
theorem met_ask {C : Addr} (D : MetAt K C "ask" "HiddenList.ask" s_HiddenList_ask ["self", "length"]) (hi : Hid K C) (B : Bt mg) (c_check_length : Cal P w K mg base 1 "check_length" spCheckLength [])
    (c_squeezed : Cal P w K mg base 3 "squeezed" (spSq K) []) : Met P w K mg base 4 C "ask" (spHAsk C) := by
  refine D.met hi.cl sc_HiddenList_ask (fun vs H Q E h => ?_) (fun f cdv A outer s H vs Q E hr h => ?_)
  · obtain ⟨o, dx, l, m, n, ns, rfl, _⟩ := h
    rfl
  · obtain ⟨o, dx, l, m, n, ns, rfl, ho, hl, ⟨h0, hm⟩, q⟩ := h
    obtain ⟨cl, nH, nA⟩ := hi
    refine ⟨_, (pss_cons (ps_expr (pe_c c_check_length hr (by first | decide | omega) (by rfl) (pa_cons (pv 1) pa_nil)))
  (pss_cons (ps_set (i := 2) sc_HiddenList_ask.nd rfl (Or.inl rfl) (pe_c c_squeezed hr (by first | decide | omega) (by rfl) (pa_cons (pv 1) (pa_cons (pe_fldK (K := K) (pv 0)) pa_nil))))
  (pss_cons (ps_fldaugK (K := K) (pv 0) pe_int in_add)
  (pss_one (ps_ret (pv 2)))))), ?_⟩
    walk_at "sq go"
    refine ⟨⟨h0⟩, ?_⟩
    walk_at "sq go"
    refine ⟨⟨h0, hm⟩, fun H1 s1 => ?_⟩
    have ho1 := Same.get s1 ho
    walk_at "sq go"
    rw [hf_put]
    exact q _ ((But.of s1).trans But.put) upd_same
abbrev s_product_of : Stmt := topS 12
theorem sc_product_of : FnScope ["hidden", "steps", "greatest", "bound", "step", "length", "after"] ["hidden", "steps", "greatest"] (defScope s_product_of) := ⟨rfl, rfl, rfl, by decide +kernel, rfl, by decide +kernel, by decide +kernel⟩

def spProd (C : Addr) : Sp := fun vs H Q _ => ∃ (o dx l : Addr) (m s g : Int) (ns : List Int), vs = [.ref o, .int s, .int g] ∧ H o = some (.ins C dx (hf l m)) ∧ H l = some (.lst (iv ns)) ∧
  Keep (Two ns ∧ (∀ k ∈ ns, k ≤ g) ∧ (ns.length : Int) ≤ s ∧ s ≤ 6 ∧ 2 ≤ g ∧ g ≤ 40) ∧ ∀ H', But o H H' → H' o = some (.ins C dx (hf l (m + 1))) → Q (.int (prodL ns)) H'
theorem cal_product_of {C : Addr} (D : DefAt K mg "product_of" s_product_of ["hidden", "steps", "greatest"]) (B : Bt mg) (hi : Hid K C) (c_ask : Met P w K mg base 4 C "ask" (spHAsk C)) : Cal P w K mg base 5 "product_of" (spProd C) [] := by
  refine D.cal sc_product_of (fun vs H Q E h => ?_) (fun f cdv A outer s H vs Q E hr h => ?_)
  · obtain ⟨o, dx, l, m, s, g, ns, rfl, _⟩ := h
    rfl
  · obtain ⟨o, dx, l, m, st, g, ns, rfl, ho, hl, ⟨h2, hg, hlen, hs6, g2, g40⟩, q⟩ := h
    obtain ⟨cl, nH, nA⟩ := hi
    refine ⟨_, (pss_cons (ps_set (i := 3) sc_product_of.nd rfl (Or.inl rfl) pe_int)
  (pss_cons (ps_for PassesOwn.never rfl (pi_range1 (by rfl) B.range (pa_cons (pv 1) pa_nil)) (pg_name (i := 4) sc_product_of.nd rfl (Or.inl rfl))
   (pss_one (ps_aug (i := 3) sc_product_of.nd rfl (Or.inl rfl) (pv 2) ip_mulW)))
  (pss_cons (ps_set (i := 5) sc_product_of.nd rfl (Or.inl rfl) (pe_op op_mulW (pe_op op_mulW (pe_op op_add (pe_op op_mulW (pv 1) (pv 2)) pe_int) (pv 3)) (pe_op op_add (pv 3) pe_int)))
  (pss_cons (ps_set (i := 6) sc_product_of.nd rfl (Or.inl rfl) (pe_m c_ask hr (by first | decide | omega) (pv 0) (pa_cons (pv 5) pa_nil)))
  (pss_one (ps_ret (pe_op op_fdivW (pe_op op_sub (pe_op op_add (pv 5) (pv 6)) pe_int) (pv 6)))))))), ?_⟩
    walk_at "sq go"
    have gp : ∀ i : Nat, i ≤ 6 → 0 < g ^ i ∧ g ^ i ≤ 40 ^ 6 := fun i hi => ⟨Int.pow_pos (by omega), by
      have e1 : (g.toNat : Int) = g := by omega
      rw [← e1]
      have e2 : g.toNat ^ i ≤ 40 ^ 6 := Nat.le_trans (Nat.pow_le_pow_left (show g.toNat ≤ 40 by omega) i) (Nat.pow_le_pow_right (by decide) hi)
      exact_mod_cast e2⟩
    refine for_range (lo := 0) (n := st.toNat) (fun i σ H' => Keep (∃ y, σ = [some (.ref o), some (.int st), some (.int g), some (.int (g ^ i)), y, none, none] ∧ H' = H ∧ i ≤ st.toNat)) ⟨none, by rw [Int.pow_zero]; rfl, rfl, by omega⟩ (fun i σ H' hi h => ?_) (fun σ H' h => ?_)
    · obtain ⟨y, rfl, rfl, _⟩ := h.o
      have hm : CMulW (g ^ i) g := Sm.wide (a := 40) (b := 10) (by have := gp i (by omega); unfold Sm; omega) (by unfold Sm; omega) (by decide) (by decide) (by decide)
      walk_at "sq go"
      exact ⟨_, by rw [Int.pow_succ]; rfl, rfl, by omega⟩
    · obtain ⟨y, rfl, rfl, _⟩ := h.o
      obtain ⟨p0, p1⟩ := gp st.toNat (by omega)
      have hb : prodL ns ≤ g ^ st.toNat := prodL_le h2 hg (by omega) (by omega)
      have hsl : slack ns < st * g + 1 := by
        have a1 := slack_le hg
        have a2 := Int.mul_le_mul hlen (show g - 1 ≤ g by omega) (by omega) (by omega)
        omega
      have st0 : 0 ≤ st := by omega
      have sg0 := Int.mul_nonneg st0 (show 0 ≤ g by omega)
      have sg1 := Int.mul_le_mul hs6 g40 (by omega) (by decide)
      have told := told_prod h2 hb hsl
      have pp := prodL_pos h2
      generalize g ^ st.toNat = b at *
      have w1 : CMulW st g := Sm.wide (a := 10) (b := 10) (by unfold Sm; omega) (by unfold Sm; omega) (by decide) (by decide) (by decide)
      have s2 : Sm 10 (st * g + 1) := by unfold Sm; omega
      have s3 : Sm 40 b := by unfold Sm; omega
      have s4 : Sm 40 (b + 1) := by unfold Sm; omega
      have w2 : CMulW (st * g + 1) b := s2.wide s3 (by decide) (by decide) (by decide)
      have w3 : CMulW ((st * g + 1) * b) (b + 1) := (s2.mul s3).wide s4 (by decide) (by decide) (by decide)
      have L1 : 1 ≤ (st * g + 1) * b * (b + 1) := Int.mul_pos (Int.mul_pos (by omega) (by omega)) (by omega)
      have sL : Sm 90 ((st * g + 1) * b * (b + 1)) := ((s2.mul s3).mul s4)
      generalize hL : (st * g + 1) * b * (b + 1) = L at *
      have x1 := sqz_pos L1 h2
      have x2 := sqz_le (show 0 ≤ L by omega) h2
      have xs : Sm 90 (sqz L ns) := sL.le (by omega) x2
      have cd : CDivW (L + sqz L ns - 1) (sqz L ns) := ⟨by omega, Nat.lt_trans (xs.lg (by decide)) (by decide)⟩
      walk_at "sq go"
      rw [hL]
      refine ⟨⟨by omega, fun k hk => ⟨h2 k hk, Int.lt_of_le_of_lt (hg k hk) (by omega)⟩⟩, fun H1 b1 ho1 => ?_⟩
      walk_at "sq go"
      rw [hL]
      show Q (.int ((L + sqz L ns - 1) / sqz L ns)) H1
      rw [told]
      exact q H1 b1 ho1
abbrev s_find : Stmt := topS 13
theorem sc_find : FnScope ["hidden", "steps", "greatest", "product", "found", "factor", "number"] ["hidden", "steps", "greatest"] (defScope s_find) := ⟨rfl, rfl, rfl, by decide +kernel, rfl, by decide +kernel, by decide +kernel⟩

def spFind (C : Addr) : Sp := fun vs H Q _ => ∃ (o dx l : Addr) (m s g : Int) (ns : List Int), vs = [.ref o, .int s, .int g] ∧ H o = some (.ins C dx (hf l m)) ∧ H l = some (.lst (iv ns)) ∧
  Keep (Two ns ∧ (∀ k ∈ ns, k ≤ g) ∧ (ns.length : Int) ≤ s ∧ s ≤ 6 ∧ 2 ≤ g ∧ g ≤ 40) ∧ ∀ a m' H', H a = none → m ≤ m' → m' ≤ m + 400 → But o H H' → H' o = some (.ins C dx (hf l m')) → H' a = some (.lst (iv ns)) → Q (.ref a) H'
theorem two_find {C : Addr} (D : DefAt K mg "find" s_find ["hidden", "steps", "greatest"]) (B : Bt mg) (hi : Hid K C) (c_ask : Met P w K mg base 4 C "ask" (spHAsk C)) (c_product_of : Cal P w K mg base 5 "product_of" (spProd C) []) : Def2 P w K mg base 6 "find" s_find ["hidden", "steps", "greatest"] (spFind C) := by
  refine D.two sc_find (fun vs H Q E h => ?_) (fun f cdv A outer s H vs Q E hr h => ?_)
  · obtain ⟨o, dx, l, m, s, g, ns, rfl, _⟩ := h
    rfl
  · obtain ⟨o, dx, l, m, st, g, ns, rfl, ho, hl, ⟨h2, hg, hlen, hs6, g2, g40⟩, q⟩ := h
    obtain ⟨cl, nH, nA⟩ := hi
    have mid : Mid ns := fun k hk => ⟨h2 k hk, Int.lt_of_le_of_lt (hg k hk) (by omega)⟩
    have nlo : l ≠ o := fun e => by
      rw [e, ho] at hl
      cases hl
    refine ⟨_, (pss_cons (ps_set (i := 3) sc_find.nd rfl (Or.inl rfl) (pe_c c_product_of hr (by first | decide | omega) (by rfl) (pa_cons (pv 0) (pa_cons (pv 1) (pa_cons (pv 2) pa_nil)))))
  (pss_cons (ps_set (i := 4) sc_find.nd rfl (Or.inl rfl) (pe_lst pa_nil))
  (pss_cons (ps_set (i := 5) sc_find.nd rfl (Or.inl rfl) pe_int)
  (pss_cons (ps_while PassesOwn.never (pt_cmpR op_gt (pv 3) pe_int (nomark _))
   (pss_cons (ps_set (i := 6) sc_find.nd rfl (Or.inl rfl) pe_int)
  (pss_cons (ps_while PassesOwn.never (pt_cmpR op_gt (pe_m c_ask hr (by first | decide | omega) (pv 0) (pa_cons (pe_op op_mulW (pe_op op_add (pe_op op_sub (pv 3) (pv 6)) pe_int) (pv 5)) pa_nil)) pe_int (nomark _))
   (pss_one (ps_aug (i := 6) sc_find.nd rfl (Or.inl rfl) pe_int ip_add)))
  (pss_cons (ps_expr (pe_bm PySem.F.plainAttrs_list PySem.F.slot_list_append PySem.F.type_list_append mt_append (pv 4) (pa_cons (pv 6) pa_nil)))
  (pss_cons (ps_aug (i := 5) sc_find.nd rfl (Or.inl rfl) (pv 6) ip_mulW)
  (pss_one (ps_aug (i := 3) sc_find.nd rfl (Or.inl rfl) (pv 6) ip_fdivW)))))))
  (pss_one (ps_ret (pv 4))))))), ?_⟩
    walk_at "sq go"
    refine ⟨⟨h2, hg, hlen, hs6, g2, g40⟩, fun H1 b1 ho1 => ?_⟩
    walk_at "sq go"
    intro a na
    have noa : o ≠ a := fun e => by
      rw [← e, ho1] at na
      cases na
    have na0 : H a = none := by
      cases hz : H a with
      | none => rfl
      | some u =>
        by_cases e : a = o
        · exact absurd e.symm noa
        · rw [b1 a u e hz] at na
          cases na
    have nla : l ≠ a := fun e => by
      rw [← e, b1 l _ nlo hl] at na
      cases na
    have slk := slack_le (ns := ns) (g := 40) fun k hk => Int.le_trans (hg k hk) g40
    walk_at "sq go"
    refine ⟨fun k σ H' => Keep (∃ i y, σ = [some (.ref o), some (.int st), some (.int g), some (.int (prodL (ns.drop i))), some (.ref a), some (.int (prodL (ns.take i))), y] ∧ i ≤ ns.length ∧ k = ns.length - i ∧ But o H H' ∧ H' o = some (.ins C dx (hf l (m + 1 + slack (ns.take i)))) ∧ H' a = some (.lst (iv (ns.take i)))),
      ⟨_, 0, none, rfl, by omega, rfl, b1.trans (But.of (same_new na)), by rw [upd_ne noa]; simpa [slack] using ho1, upd_same⟩, fun kk σ H' h => ?_⟩
    obtain ⟨i, y, rfl, hi, rfl, bt, ho2, ha2⟩ := h.o
    clear h
    have hl2 := bt l _ nlo hl
    have e12 : ns.take i ++ ns.drop i = ns := List.take_append_drop ..
    have t1 : Two (ns.take i) := fun k hk => h2 k (List.mem_of_mem_take hk)
    have t2 : Two (ns.drop i) := fun k hk => h2 k (List.mem_of_mem_drop hk)
    have P1 := prodL_pos t2
    have F1 := prodL_pos t1
    have P2 : prodL (ns.drop i) ≤ 40 ^ 6 := prodL_le t2 (fun k hk => Int.le_trans (hg k (List.mem_of_mem_drop hk)) g40) (by rw [List.length_drop]; omega) (by decide)
    have F2 : prodL (ns.take i) ≤ 40 ^ 6 := prodL_le t1 (fun k hk => Int.le_trans (hg k (List.mem_of_mem_take hk)) g40) (by rw [List.length_take]; omega) (by decide)
    have lt6 : (ns.take i).length ≤ ns.length := by
      rw [List.length_take]
      omega
    walk_at "sq go"
    refine ifD (fun c => ?_) (fun c => ?_)
    · obtain ⟨k, r, er⟩ : ∃ k r, ns.drop i = k :: r := by
        cases hd : ns.drop i with
        | nil =>
          rw [hd] at c
          exact absurd c (by decide)
        | cons k r => exact ⟨k, r, rfl⟩
      have ek : ns[i]? = some k := by
        have e := List.getElem?_drop (xs := ns) (i := i) (j := 0)
        rw [er] at e
        simpa using e.symm
      have ei : i < ns.length := (List.getElem?_eq_some_iff.mp ek).1
      have er2 : ns.drop (i + 1) = r := by
        rw [← List.drop_drop, er]
        rfl
      have et : ns.take (i + 1) = ns.take i ++ [k] := by
        rw [List.take_add_one, ek]
        rfl
      have k2 := h2 k (List.mem_of_getElem? ek)
      have kg := hg k (List.mem_of_getElem? ek)
      rw [er] at t2 P1 P2
      have Pk : prodL (k :: r) = k * prodL r := rfl
      have r1 := prodL_pos (ns := r) fun j hj => t2 j (List.mem_cons_of_mem _ hj)
      have kP : k ≤ prodL (k :: r) := by
        have := Int.mul_le_mul_of_nonneg_left r1 (show 0 ≤ k by omega)
        omega
      have ask : ∀ j : Int, sqz ((prodL (k :: r) - j + 1) * prodL (ns.take i)) ns = sqz (prodL (k :: r) - j + 1) (k :: r) := fun j => by
        have e : sqz ((prodL (k :: r) - j + 1) * prodL (ns.take i)) ns = sqz ((prodL (k :: r) - j + 1) * prodL (ns.take i)) (ns.take i ++ ns.drop i) := by rw [e12]
        rw [e, sqz_app, sqz_mul t1, er]
      rw [er]
      refine ⟨fun σ' H3 => Keep (∃ y, σ' = [some (.ref o), some (.int st), some (.int g), some (.int (prodL r)), some (.ref a), some (.int (prodL (ns.take (i + 1)))), y] ∧ But o H H3 ∧ H3 o = some (.ins C dx (hf l (m + 1 + slack (ns.take (i + 1))))) ∧ H3 a = some (.lst (iv (ns.take (i + 1))))), fun σ' H3 h3 => ?_, ?_⟩
      · obtain ⟨y, e1, e2, e3, e4⟩ := h3.o
        rw [← er2] at e1
        exact ⟨ns.length - (i + 1), by omega, i + 1, y, e1, by omega, rfl, e2, e3, e4⟩
      walk_at "sq go"
      refine ⟨fun z σ H' => Keep (∃ j : Int, σ = [some (.ref o), some (.int st), some (.int g), some (.int (prodL (k :: r))), some (.ref a), some (.int (prodL (ns.take i))), some (.int j)] ∧ 2 ≤ j ∧ j ≤ k ∧ z = (k - j).toNat ∧ But o H H' ∧ H' o = some (.ins C dx (hf l (m + 1 + slack (ns.take i) + (j - 2)))) ∧ H' a = some (.lst (iv (ns.take i)))),
        ⟨_, 2, rfl, by decide, k2, rfl, bt, by rw [show m + 1 + slack (ns.take i) + (2 - 2) = m + 1 + slack (ns.take i) by omega]; exact ho2, ha2⟩, fun z σ H' h => ?_⟩
      obtain ⟨j, rfl, j2, jk, rfl, bt3, ho3, ha3⟩ := h.o
      clear h
      have hl3 := bt3 l _ nlo hl
      have wm : CMulW (prodL (k :: r) - j + 1) (prodL (ns.take i)) := Sm.wide (a := 40) (b := 40) (by unfold Sm; omega) (by unfold Sm; omega) (by decide) (by decide) (by decide)
      have wf : CMulW (prodL (ns.take i)) j := Sm.wide (a := 40) (b := 10) (by unfold Sm; omega) (by unfold Sm; omega) (by decide) (by decide) (by decide)
      have wd : CDivW (prodL (k :: r)) j := div_ok (by omega) (by omega)
      walk_at "sq go"
      refine ⟨⟨Int.mul_nonneg (by omega) (by omega), mid⟩, fun H4 b4 ho4 => ?_⟩
      have bt4 := bt3.trans b4
      have ha4 := b4 a _ (Ne.symm noa) ha3
      walk_at "sq go"
      rw [ask]
      refine ifD (fun c => ?_) (fun c => ?_)
      · have jl : j < k := by
          rcases Int.lt_or_eq_of_le jk with z | z
          · exact z
          · rw [z, next_hit t2] at c
            exact absurd c (by decide)
        refine ⟨fun σ' H3 => Keep (σ' = [some (.ref o), some (.int st), some (.int g), some (.int (prodL (k :: r))), some (.ref a), some (.int (prodL (ns.take i))), some (.int (j + 1))] ∧ But o H H3 ∧ H3 o = some (.ins C dx (hf l (m + 1 + slack (ns.take i) + (j + 1 - 2)))) ∧ H3 a = some (.lst (iv (ns.take i)))), fun σ' H3 h3 => ?_, ?_⟩
        · obtain ⟨e1, e2, e3, e4⟩ := h3.o
          exact ⟨(k - (j + 1)).toNat, by omega, j + 1, e1, by omega, by omega, rfl, e2, e3, e4⟩
        walk_at "sq go"
        exact ⟨rfl, bt4, by rw [show m + 1 + slack (ns.take i) + (j + 1 - 2) = m + 1 + slack (ns.take i) + (j - 2) + 1 by omega]; exact ho4, ha4⟩
      · have je : j = k := by
          rcases Int.lt_or_eq_of_le jk with z | z
          · exact absurd (next_miss t2 j2 z) c
          · exact z
        subst je
        have dv : prodL (j :: r) / j = prodL r := by
          rw [Pk]
          exact Int.mul_ediv_cancel_left _ (by omega)
        walk_at "sq go"
        rw [iv_app, ← et]
        refine ⟨_, by rw [et, prodL_snoc, ← dv]; rfl, But.off bt4 na0, ?_, upd_same⟩
        · rw [upd_ne noa, et]
          have : slack (ns.take i ++ [j]) = slack (ns.take i) + (j - 1) := by simp [slack]
          rw [this, show m + 1 + (slack (ns.take i) + (j - 1)) = m + 1 + slack (ns.take i) + (j - 2) + 1 by omega]
          exact ho4
    · have en : ns.drop i = [] := prodL_one t2 (by omega)
      have et : ns.take i = ns := by
        rw [en, List.append_nil] at e12
        exact e12
      have sl := slack_nn h2
      rw [et] at ho2 ha2
      walk_at "sq go"
      have := Int.mul_le_mul (show (ns.length : Int) ≤ 6 by omega) (show (40 - 1 : Int) ≤ 39 by decide) (by decide) (by decide)
      exact q a _ H' na0 (by omega) (by omega) bt ho2 ha2

abbrev s_law_after : Stmt := topS 18
theorem sc_law_after : FnScope ["long", "numbers", "number"] ["long", "numbers"] (defScope s_law_after) := ⟨rfl, rfl, rfl, by decide +kernel, rfl, by decide +kernel, by decide +kernel⟩

def spAfter (K : PySem.W.Frag) : Sp := fun vs H Q _ => ∃ (n : Int) (p : Addr) (ns : List Int), vs = [.int n, .ref p] ∧ SqL K H p (iv ns) ∧ Keep (Mid ns) ∧ Q (.int (sqz n ns)) H
theorem cal_after (D : DefAt K mg "_law_after" s_law_after ["long", "numbers"]) (B : Bt mg) : Cal P w K mg base 1 "_law_after" (spAfter K) [] := by
  refine D.cal sc_law_after (fun vs H Q E h => ?_) (fun f cdv A outer s H vs Q E hr h => ?_)
  · obtain ⟨n, p, ns, rfl, _⟩ := h
    rfl
  · obtain ⟨n, p, ns, rfl, hS, ⟨hm⟩, q⟩ := h
    refine ⟨_, (pss_cons (ps_for PassesOwn.never rfl (pi_listK (K := K) (pv 1)) (pg_name (i := 2) sc_law_after.nd rfl (Or.inl rfl))
   (pss_one (ps_set (i := 0) sc_law_after.nd rfl (Or.inl rfl) (pe_op op_add (pe_op op_fdivW (pv 0) (pv 2)) (pe_op op_mod (pv 0) (pv 2))))))
  (pss_one (ps_ret (pv 0)))), ?_⟩
    walk_at "sq go"
    refine for_list (K := K) (a := p) (xs := iv ns) (fun i σ H' => Keep (∃ x, σ = [some (.int (sqz n (ns.take i))), some (.ref p), x] ∧ H' = H)) ⟨none, rfl, rfl⟩ (fun i σ H' _ h => ?_) (fun i x σ H' hx h => ?_) (fun σ H' h => ?_)
    · obtain ⟨x, _, rfl⟩ := h.o
      exact hS
    · obtain ⟨x, rfl, rfl⟩ := h.o
      obtain ⟨k, hk, rfl⟩ := iv_get hx
      have mk := hm k (List.mem_of_getElem? hk)
      have c : CDivW (sqz n (ns.take i)) k := div_ok (by omega) mk.2
      walk_at "sq go"
      exact ⟨_, by rw [sqz_take hk]; rfl, rfl⟩
    · obtain ⟨x, rfl, rfl⟩ := h.o
      have e : (iv ns).length = ns.length := iv_len _
      rw [e, List.take_length]
      walk_at "sq go"
      exact q
theorem same_upd {G G' : Hp} {p : Addr} {u : HO} (h : Same G G') : Same (upd G p u) (upd G' p u) := fun b x e => by
  by_cases hb : b = p
  · rw [hb, upd_same] at e ⊢
    exact e
  · rw [upd_ne hb] at e ⊢
    exact h b x e
abbrev s_law_hidden : Stmt := topS 19
theorem sc_law_hidden : FnScope ["pool", "bound", "many", "numbers", "greater"] ["pool"] (defScope s_law_hidden) := ⟨rfl, rfl, rfl, by decide +kernel, rfl, by decide +kernel, by decide +kernel⟩

def spHid3 : Sp := fun vs H Q _ => ∃ (r : Addr) (N : Int) (G : Hp), vs = [.ref r] ∧ Sep (rg3 r N) G H ∧ Keep (N < 2 ^ 58) ∧
  ∀ p t ns s g H', G p = none → G t = none → p ≠ t → Row ns g → (ns.length : Int) ≤ s → s ≤ 6 → 2 ≤ g → g ≤ 40 → Sep (rg3 r (N + 100)) (upd (upd G p (.lst (iv ns))) t (.lst [.ref p, .int s, .int g])) H' → Q (.ref t) H'
theorem cal_hidden (D : DefAt K mg "_law_hidden" s_law_hidden ["pool"]) (B : Bt mg) (c_law_draw : Cal P w K mg base 1 "_law_draw" spDraw3 []) (c_law_list : Cal P w K mg base 2 "_law_list" spList3 []) : Cal P w K mg base 3 "_law_hidden" spHid3 [] := by
  refine D.cal sc_law_hidden (fun vs H Q E h => ?_) (fun f cdv A outer s H vs Q E hr h => ?_)
  · obtain ⟨r, N, G, rfl, _⟩ := h
    rfl
  · obtain ⟨r, N, G, rfl, hS, ⟨hN⟩, q⟩ := h
    refine ⟨_, (pss_cons (ps_set (i := 1) sc_law_hidden.nd rfl (Or.inl rfl) (pe_ix (ix_listK (K := K)) (pe_lst (pa_cons pe_int (pa_cons pe_int (pa_cons pe_int (pa_cons (pe_op op_add pe_int (pe_c c_law_draw hr (by first | decide | omega) (by rfl) (pa_cons (pv 0) (pa_cons pe_int pa_nil)))) pa_nil))))) (pe_c c_law_draw hr (by first | decide | omega) (by rfl) (pa_cons (pv 0) (pa_cons pe_int pa_nil))) (fun _ _ => rfl)))
  (pss_cons (ps_set (i := 2) sc_law_hidden.nd rfl (Or.inl rfl) (pe_c c_law_draw hr (by first | decide | omega) (by rfl) (pa_cons (pv 0) (pa_cons pe_int pa_nil))))
  (pss_cons (ps_set (i := 3) sc_law_hidden.nd rfl (Or.inl rfl) (pe_ix (ix_listK (K := K)) (pe_lst (pa_cons (pe_c c_law_list hr (by first | decide | omega) (by rfl) (pa_cons (pv 0) (pa_cons (pv 2) (pa_cons (pv 1) pa_nil)))) (pa_cons (pe_op op_rep (pe_lst (pa_cons pe_int pa_nil)) (pv 2)) (pa_cons (pe_op op_rep (pe_lst (pa_cons (pv 1) pa_nil)) (pv 2)) pa_nil)))) (pe_c c_law_draw hr (by first | decide | omega) (by rfl) (pa_cons (pv 0) (pa_cons pe_int pa_nil))) (fun _ _ => rfl)))
  (pss_cons (ps_set (i := 4) sc_law_hidden.nd rfl (Or.inl rfl) (pe_ix (ix_listK (K := K)) (pe_lst (pa_cons (pe_callB (cr_maxK (K := K) rfl) (by rfl) B.max (by decide +kernel) (pa_cons (pe_op op_cat (pv 3) (pe_lst (pa_cons pe_int pa_nil))) pa_nil)) (pa_cons (pv 1) (pa_cons pe_int pa_nil)))) (pe_c c_law_draw hr (by first | decide | omega) (by rfl) (pa_cons (pv 0) (pa_cons pe_int pa_nil))) (fun _ _ => rfl)))
  (pss_one (ps_ret (pe_lst (pa_cons (pv 3) (pa_cons (pe_ix (ix_listK (K := K)) (pe_lst (pa_cons (pe_callB (len_seqK (K := K)) (by rfl) B.len boot_len (pa_cons (pv 3) pa_nil)) (pa_cons pe_int pa_nil))) (pe_c c_law_draw hr (by first | decide | omega) (by rfl) (pa_cons (pv 0) (pa_cons pe_int pa_nil))) (fun _ _ => rfl)) (pa_cons (pv 4) pa_nil)))))))))), ?_⟩
    walk_at "sq go"
    refine ⟨⟨by omega, by omega, by omega⟩, fun b0 H1 b00 b01 hS1 => ?_⟩
    walk_at "sq go"
    intro e1 n1
    have g1 := hS1.free n1
    have hT1 := hS1.new n1 (.lst [.int 2, .int 3, .int 40, .int (2 + b0)])
    walk_at "sq go"
    refine ⟨⟨by omega, by omega, by omega⟩, fun y H2 y0 y1 hS2 => ?_⟩
    have ge1 : H2 e1 = some (.lst [.int 2, .int 3, .int 40, .int (2 + b0)]) := hS2.get upd_same
    obtain ⟨bound, eb, b2, b40⟩ : ∃ v, atI [V.int 2, V.int 3, V.int 40, V.int (2 + b0)] y = some (.int v) ∧ 2 ≤ v ∧ v ≤ 40 := by
      rcases (show y = 0 ∨ y = 1 ∨ y = 2 ∨ y = 3 by omega) with z | z | z | z <;> rw [z]
      · exact ⟨_, atI_nat (j := 0) rfl, by omega, by omega⟩
      · exact ⟨_, atI_nat (j := 1) rfl, by omega, by omega⟩
      · exact ⟨_, atI_nat (j := 2) rfl, by omega, by omega⟩
      · exact ⟨_, atI_nat (j := 3) rfl, by omega, by omega⟩
    have hS3 := hS2.weak (same_new (o := .lst [.int 2, .int 3, .int 40, .int (2 + b0)]) g1)
    walk_at "sq go"
    refine ⟨⟨by omega, by omega, by omega⟩, fun many H3 m0 m1 hS4 => ?_⟩
    walk_at "sq go"
    refine ⟨⟨by omega, by omega, by omega, by omega, by omega⟩, fun p1 ns1 H4 gp1 l1 row1 hS5 => ?_⟩
    walk_at "sq go"
    intro t2 nt2
    have hU1 := hS5.on (same_new (o := .lst [.int 2]) nt2)
    walk_at "sq go"
    intro p2 np2
    have gp2 := hU1.free np2
    have hU2 := hU1.new np2 (.lst (List.replicate many.toNat [V.int 2]).flatten)
    walk_at "sq go"
    intro t3 nt3
    have hU3 := hU2.on (same_new (o := .lst [.int bound]) nt3)
    walk_at "sq go"
    intro p3 np3
    have gp3 := hU3.free np3
    have hU4 := hU3.new np3 (.lst (List.replicate many.toNat [V.int bound]).flatten)
    walk_at "sq go"
    intro e2 ne2
    have ge2 := hU4.free ne2
    have hU5 := hU4.new ne2 (.lst [.ref p1, .ref p2, .ref p3])
    walk_at "sq go"
    refine ⟨⟨by omega, by omega, by omega⟩, fun way H5 w0 w1 hS6 => ?_⟩
    have he2 : H5 e2 = some (.lst [.ref p1, .ref p2, .ref p3]) := hS6.get upd_same
    have hS7 := hS6.weak (same_new (o := .lst [.ref p1, .ref p2, .ref p3]) ge2)
    have rep : ∀ z : Int, (List.replicate many.toNat [V.int z]).flatten = iv (List.replicate many.toNat z) := fun z => by
      induction many.toNat with
      | zero => rfl
      | succ n ih => rw [List.replicate_succ, List.flatten_cons, ih]; rfl
    rw [rep] at gp3
    rw [rep, rep] at hS7
    obtain ⟨p, ns, ep, gp, row, lm, hS8⟩ : ∃ p ns, atI [V.ref p1, V.ref p2, V.ref p3] way = some (.ref p) ∧ G p = none ∧ Row ns bound ∧ (ns.length : Int) ≤ many ∧ Sep (rg3 r (N + 1 + 1 + 1 + 2 * many + 1 + 1)) (upd G p (.lst (iv ns))) H5 := by
      rcases (show way = 0 ∨ way = 1 ∨ way = 2 by omega) with z | z | z <;> rw [z]
      · exact ⟨p1, ns1, atI_nat (j := 0) rfl, gp1, row1, by omega, hS7.weak ((same_new gp2).trans (same_new gp3))⟩
      · refine ⟨p2, _, atI_nat (j := 1) rfl, (same_new gp1).free gp2, fun k hk => ?_, ?_, hS7.weak ((same_upd (same_new gp1)).trans (same_new gp3))⟩
        · rw [(List.mem_replicate.mp hk).2]
          omega
        · rw [List.length_replicate]
          omega
      · refine ⟨p3, _, atI_nat (j := 2) rfl, (same_new gp1).free ((same_new gp2).free gp3), fun k hk => ?_, ?_, hS7.weak (same_upd ((same_new gp1).trans (same_new gp2)))⟩
        · rw [(List.mem_replicate.mp hk).2]
          omega
        · rw [List.length_replicate]
          omega
    have hp := hS8.get upd_same
    walk_at "sq go"
    intro t4 nt4
    have hp1 := upd_keep (o := .lst [.int 2]) nt4 hp
    have hV1 := hS8.on (same_new (o := .lst [.int 2]) nt4)
    walk_at "sq go"
    intro c5 nc5
    have hV2 := hV1.on (same_new (o := .lst (iv ns ++ [.int 2])) nc5)
    have hc5 : SqL K (upd (upd H5 t4 (.lst [.int 2])) c5 (.lst (iv ns ++ [.int 2]))) c5 (iv (ns ++ [2])) := seqL_of (by rw [upd_same]; simp)
    have lc5 : 0 < (ns ++ [2]).length := by simp
    walk_at "sq go"
    intro mx mm mx1
    have mx2 : 2 ≤ mx := mx1 2 (by simp)
    have mx3 : mx ≤ 40 := by
      rcases List.mem_append.mp mm with z | z
      · have := row mx z
        omega
      · rw [List.mem_singleton.mp z]
        decide
    walk_at "sq go"
    intro e6 ne6
    have hV3 := hV2.new ne6 (.lst [.int mx, .int bound, .int 40])
    have ge6 := hV2.free ne6
    walk_at "sq go"
    refine ⟨⟨by omega, by omega, by omega⟩, fun gw H6 gw0 gw1 hS9 => ?_⟩
    have he6 : H6 e6 = some (.lst [.int mx, .int bound, .int 40]) := hS9.get upd_same
    have hS10 := hS9.weak (same_new (o := .lst [.int mx, .int bound, .int 40]) ge6)
    obtain ⟨g, eg, g2, g40, rowg⟩ : ∃ v, atI [V.int mx, V.int bound, V.int 40] gw = some (.int v) ∧ 2 ≤ v ∧ v ≤ 40 ∧ Row ns v := by
      rcases (show gw = 0 ∨ gw = 1 ∨ gw = 2 by omega) with z | z | z <;> rw [z]
      · exact ⟨_, atI_nat (j := 0) rfl, by omega, by omega, fun k hk => ⟨(row k hk).1, mx1 k (by simp [hk])⟩⟩
      · exact ⟨_, atI_nat (j := 1) rfl, by omega, by omega, row⟩
      · exact ⟨_, atI_nat (j := 2) rfl, by omega, by omega, row.mono b40⟩
    have hp2 := hS10.get upd_same
    walk_at "sq go"
    intro e7 ne7
    have hW1 := hS10.new ne7 (.lst [.int (iv ns).length, .int 6])
    have ge7 := hS10.free ne7
    walk_at "sq go"
    refine ⟨⟨by omega, by omega, by omega⟩, fun sw H7 sw0 sw1 hS11 => ?_⟩
    have he7 : H7 e7 = some (.lst [.int (iv ns).length, .int 6]) := hS11.get upd_same
    have hS12 := hS11.weak (same_new (o := .lst [.int (iv ns).length, .int 6]) ge7)
    have el : (iv ns).length = ns.length := iv_len _
    obtain ⟨sn, es, s0, s6⟩ : ∃ v, atI [V.int (iv ns).length, V.int 6] sw = some (.int v) ∧ (ns.length : Int) ≤ v ∧ v ≤ 6 := by
      rcases (show sw = 0 ∨ sw = 1 by omega) with z | z <;> rw [z]
      · exact ⟨_, atI_nat (j := 0) rfl, by omega, by omega⟩
      · exact ⟨_, atI_nat (j := 1) rfl, by omega, by omega⟩
    walk_at "sq go"
    intro t nt
    have hX := Sep3.mono (hS12.new nt (.lst [.ref p, .int sn, .int g])) (N' := N + 100) (by omega)
    have gt := hS12.free nt
    walk_at "sq go"
    refine q p t ns sn g _ gp ((same_new gp).free gt) (fun e => ?_) rowg s0 s6 g2 g40 hX
    rw [← e, upd_same] at gt
    cases gt
theorem upd_comm {H : Hp} {a b : Addr} {u v : HO} (h : a ≠ b) : upd (upd H a u) b v = upd (upd H b v) a u := by
  funext c
  by_cases h1 : c = a
  · subst h1
    rw [upd_ne h, upd_same, upd_same]
  · by_cases h2 : c = b
    · subst h2
      rw [upd_same, upd_ne h1, upd_same]
    · rw [upd_ne h2, upd_ne h1, upd_ne h1, upd_ne h2]
abbrev s_law_right : Stmt := topS 20
theorem sc_law_right : FnScope ["pool", "numbers", "many", "greater", "secret", "turn", "before", "told", "long"] ["pool"] (defScope s_law_right) := ⟨rfl, rfl, rfl, by decide +kernel, rfl, by decide +kernel, by decide +kernel⟩

/-- the quiet part: the numbers, the hidden list's own numbers, the hidden list -/
abbrev hidG (G : Hp) (C p l x dx : Addr) (ns : List Int) (m : Int) : Hp := upd (upd (upd G p (.lst (iv ns))) l (.lst (iv ns))) x (.ins C dx (hf l m))
def spFindK (C : Addr) : Sp := fun zs H Q E => ∃ g s o, zs = [g, s, o] ∧ spFind C [o, s, g] H Q E
def spRight : Sp := fun vs H Q _ => ∃ (r : Addr) (N : Int) (G : Hp), vs = [.ref r] ∧ Sep (rg3 r N) G H ∧ Keep (N < 2 ^ 57) ∧ ∀ H', Sep (rg3 r (N + 200)) G H' → Q (.bl true) H'
theorem cal_right {C : Addr} (D : DefAt K mg "_law_right" s_law_right ["pool"]) (B : Bt mg) (hi : Hid K C) (c_law_draw : Cal P w K mg base 1 "_law_draw" spDraw3 []) (c_law_hidden : Cal P w K mg base 3 "_law_hidden" spHid3 [])
    (c_HiddenList : Mak P w K mg base 2 "HiddenList" C (spHInit K C)) (c_questions : Prp P w K mg base 1 C "questions" (spHQ C)) (c_ask : Met P w K mg base 4 C "ask" (spHAsk C)) (c_find : Cal P w K mg base 6 "find" (spFind C) [])
    (c_find_k : CalK P w K mg base 6 "find" ["greatest", "steps", "hidden"] (spFindK C)) (c_law_after : Cal P w K mg base 1 "_law_after" (spAfter K) []) : Cal P w K mg base 7 "_law_right" spRight [] := by
  refine D.cal sc_law_right (fun vs H Q E h => ?_) (fun f cdv A outer s H vs Q E hr h => ?_)
  · obtain ⟨r, N, G, rfl, _⟩ := h
    rfl
  · obtain ⟨r, N, G, rfl, hS, ⟨hN⟩, q⟩ := h
    refine ⟨_, (pss_cons (ps_asg (pe_c c_law_hidden hr (by first | decide | omega) (by rfl) (pa_cons (pv 0) pa_nil)) (pg_lstK (K := K) rfl (pgs_cons (pg_name (i := 1) sc_law_right.nd rfl (Or.inl rfl)) (pgs_cons (pg_name (i := 2) sc_law_right.nd rfl (Or.inl rfl)) (pgs_cons (pg_name (i := 3) sc_law_right.nd rfl (Or.inl rfl)) pgs_nil)))))
  (pss_cons (ps_set (i := 4) sc_law_right.nd rfl (Or.inl rfl) (pe_mk c_HiddenList hr (by first | decide | omega) (by rfl) (pa_cons (pv 1) pa_nil)))
  (pss_cons (ps_for PassesOwn.never rfl (pi_range1 (by rfl) B.range (pa_cons (pe_c c_law_draw hr (by first | decide | omega) (by rfl) (pa_cons (pv 0) (pa_cons pe_int pa_nil))) pa_nil)) (pg_name (i := 5) sc_law_right.nd rfl (Or.inl rfl))
   (pss_one (ps_expr (pe_m c_ask hr (by first | decide | omega) (pv 4) (pa_cons (pe_c c_law_draw hr (by first | decide | omega) (by rfl) (pa_cons (pv 0) (pa_cons pe_int pa_nil))) pa_nil)))))
  (pss_cons (ps_set (i := 6) sc_law_right.nd rfl (Or.inl rfl) (pe_p c_questions hr (by first | decide | omega) (pv 4)))
  (pss_cons (ps_set (i := 7) sc_law_right.nd rfl (Or.inl rfl) (pe_c c_find hr (by first | decide | omega) (by rfl) (pa_cons (pv 4) (pa_cons (pv 2) (pa_cons (pv 3) pa_nil)))))
  (pss_cons (ps_if (PW.pt (pw_or (pt_not (pt_val (pe_callB (isiK (K := K)) (by rfl) B.isinstance (by decide +kernel) (pa_cons (pv 7) (pa_cons (pe_bltn (v := .ty "list") (by rfl) B.list (by decide +kernel) rfl) pa_nil))))) (pw_or (pt_cmpR (op_neDK (K := K) hr.units) (pv 7) (pv 1) (nomark _)) (pw_or1 (pt_not (pt_chain op_le op_le (pv 6) (pe_p c_questions hr (by first | decide | omega) (pv 4)) (pe_op op_add (pv 6) pe_int))))))) (pss_one (ps_ret pe_bl)) pss_nil)
  (pss_cons (ps_expr (pe_bm PySem.F.plainAttrs_list PySem.F.slot_list_append PySem.F.type_list_append mt_append (pv 7) (pa_cons pe_int pa_nil)))
  (pss_cons (ps_set (i := 6) sc_law_right.nd rfl (Or.inl rfl) (pe_p c_questions hr (by first | decide | omega) (pv 4)))
  (pss_cons (ps_if (PW.pt (pw_or (pt_cmpR (op_neDK (K := K) hr.units) (pe_ck c_find_k hr (by first | decide | omega) (by rfl) (pk_cons (pv 3) (pk_cons (pv 2) (pk_cons (pv 4) pk_nil)))) (pv 1) (nomark _)) (pw_or1 (pt_cmpR op_gt (pe_p c_questions hr (by first | decide | omega) (pv 4)) (pe_op op_add (pv 6) pe_int) (nomark _))))) (pss_one (ps_ret pe_bl)) pss_nil)
  (pss_cons (ps_set (i := 8) sc_law_right.nd rfl (Or.inl rfl) (pe_c c_law_draw hr (by first | decide | omega) (by rfl) (pa_cons (pv 0) (pa_cons (pe_op op_powW pe_int pe_int) pa_nil))))
  (pss_one (ps_ret (pe_cmpR op_eq (pe_m c_ask hr (by first | decide | omega) (pv 4) (pa_cons (pv 8) pa_nil)) (pe_c c_law_after hr (by first | decide | omega) (by rfl) (pa_cons (pv 8) (pa_cons (pv 1) pa_nil))) (nomark _)))))))))))))), ?_⟩
    walk_at "sq go"
    refine ⟨⟨by omega⟩, fun p t ns st g H1 gp gt npt row len s6 g2 g40 hS1 => ?_⟩
    have ht := hS1.get upd_same
    have hS2 := hS1.weak (same_new (by rw [upd_ne (Ne.symm npt)]; exact gt))
    have hp2 := hS2.get upd_same
    walk_at "sq go"
    intro x dx nx ndx ne
    have nx2 : upd H1 dx (.own x) x = none := by
      rw [upd_ne (Ne.symm ne)]
      exact nx
    have hS3 := (hS2.on (same_new (o := .own x) ndx)).new nx2 (.ins C dx [])
    have hx3 : upd (upd H1 dx (.own x)) x (.ins C dx []) x = some (.ins C dx []) := upd_same
    have hp3 := seqL_of (K := K) (hS3.get (upd_keep (hS2.free nx) upd_same))
    walk_at "sq go"
    refine ⟨⟨row.two⟩, fun l H2 nl bt hl hx => ?_⟩
    have gl := hS3.free nl
    have nlx : l ≠ x := fun e => by
      rw [e, upd_same] at gl
      cases gl
    have hS4 := Sep.add hS3 nl (hS3.but upd_same bt hx) hl
    rw [upd_upd, upd_comm (Ne.symm nlx)] at hS4
    have mid : Mid ns := row.mid (by omega)
    have ok : Two ns ∧ (∀ k ∈ ns, k ≤ g) ∧ (ns.length : Int) ≤ st ∧ st ≤ 6 ∧ 2 ≤ g ∧ g ≤ 40 := ⟨row.two, fun k hk => (row k hk).2, len, s6, g2, g40⟩
    have gxn : upd G p (.lst (iv ns)) x = none := hS2.free nx
    have gln : upd G p (.lst (iv ns)) l = none := by
      rw [upd_ne nlx] at gl
      exact gl
    have gxl : upd (upd G p (.lst (iv ns))) l (.lst (iv ns)) x = none := by
      rw [upd_ne (Ne.symm nlx)]
      exact gxn
    clear gl
    have quiet : ∀ m, Same G (hidG G C p l x dx ns m) := fun m => (same_new gp).trans ((same_new gln).trans (same_new gxl))
    have gx : ∀ m, hidG G C p l x dx ns m x = some (.ins C dx (hf l m)) := fun m => upd_same
    have gl : ∀ m, hidG G C p l x dx ns m l = some (.lst (iv ns)) := fun m => upd_keep gxl upd_same
    have gp2 : ∀ m, hidG G C p l x dx ns m p = some (.lst (iv ns)) := fun m => upd_keep gxl (upd_keep gln upd_same)
    have redo : ∀ {N' m m' : Int} {H3 H4 : Hp}, Sep (rg3 r N') (hidG G C p l x dx ns m) H3 → But x H3 H4 → H4 x = some (.ins C dx (hf l m')) → Sep (rg3 r N') (hidG G C p l x dx ns m') H4 := fun s b e => by
      have z := s.but (gx _) b e
      rw [upd_upd] at z
      exact z
    walk_at "sq go"
    refine ⟨⟨by omega, by omega, by omega⟩, fun tn H3 t0 t1 hS5 => ?_⟩
    walk_at "sq go"
    refine for_range (lo := 0) (n := tn.toNat) (fun i σ H' => Keep (∃ m y, σ = [some (.ref r), some (.ref p), some (.int st), some (.int g), some (.ref x), y, none, none, none] ∧ Sep (rg3 r (N + 101 + i)) (hidG G C p l x dx ns m) H'))
      ⟨0, none, rfl, Sep3.mono hS5 (by omega)⟩ (fun i σ H' hi h => ?_) (fun σ H' h => ?_)
    · obtain ⟨m, y, rfl, hs⟩ := h.o
      walk_at "sq go"
      refine ⟨⟨by omega, by omega, by omega⟩, fun n H4 n0 n1 hs2 => ?_⟩
      have hx4 := hs2.get (gx m)
      have hl4 := hs2.get (gl m)
      walk_at "sq go"
      refine ⟨⟨n0, mid⟩, fun H5 b5 hx5 => ?_⟩
      exact ⟨m + 1, _, rfl, Sep3.mono (redo hs2 b5 hx5) (by omega)⟩
    · obtain ⟨m, y, rfl, hs⟩ := h.o
      have hx4 := hs.get (gx m)
      have hl4 := hs.get (gl m)
      have hp4 := hs.get (gp2 m)
      walk_at "sq go"
      refine ⟨⟨ok⟩, fun a m' H5 na mm mm4 b5 hx5 ha5 => ?_⟩
      have hs5 := Sep.add hs na (redo hs b5 hx5) ha5
      have ga := hs.free na
      have hp5 := (redo hs b5 hx5).get (gp2 _)
      have hl5 := (redo hs b5 hx5).get (gl _)
      have npa : p ≠ a := fun e => by
        rw [← e, gp2] at ga
        cases ga
      have nxa : x ≠ a := fun e => by
        rw [← e, gx] at ga
        cases ga
      have nla : l ≠ a := fun e => by
        rw [← e, gl] at ga
        cases ga
      have sp5 := seqL_of (K := K) hp5
      have sa5 := seqL_of (K := K) ha5
      walk_at "sq go"
      refine r_neI sa5 sp5 ?_
      walk_at "sq go"
      refine ifN (fun c => absurd rfl c) (fun _ => ?_)
      walk_at "sq go"
      refine ifD (fun _ => ?_) (fun c => absurd mm c)
      walk_at "sq go"
      refine ifN (fun c => absurd mm4 c) (fun _ => ?_)
      have len63 : (iv ns).length ≤ 6 := by
        rw [iv_len]
        omega
      walk_at "sq go"
      have hs6 := hs5.put upd_same (.lst (iv ns ++ [.int 2]))
      rw [upd_upd] at hs6
      have ga2 : hidG G C p l x dx ns m' a = none := (upd_ne (Ne.symm nxa)).trans ((upd_ne (Ne.symm nxa)).symm.trans ga)
      have hs7 := hs6.weak (same_new ga2)
      have hx7 := hs7.get (gx m')
      have hl7 := hs7.get (gl m')
      clear hs5 hs6
      walk_at "sq go"
      refine ⟨⟨ok⟩, fun a2 m2 H8 na2 mm2 mm42 b8 hx8 ha8 => ?_⟩
      have hs8 := redo hs7 b8 hx8
      have sp8 := seqL_of (K := K) (hs8.get (gp2 _))
      have sa8 := seqL_of (K := K) ha8
      walk_at "sq go"
      refine r_neI sa8 sp8 ?_
      walk_at "sq go"
      refine ifN (fun c => absurd rfl c) (fun _ => ?_)
      walk_at "sq go"
      refine ifD (fun c => absurd c (by omega)) (fun _ => ?_)
      walk_at "sq go"
      refine ⟨⟨by decide, by decide, by omega⟩, fun n H9 n0 n1 hs9 => ?_⟩
      have hx9 := hs9.get (gx m2)
      have hl9 := hs9.get (gl m2)
      walk_at "sq go"
      refine ⟨⟨n0, mid⟩, fun H10 b10 hx10 => ?_⟩
      have hs10 := redo hs9 b10 hx10
      have sp10 := seqL_of (K := K) (hs10.get (gp2 _))
      walk_at "sq go"
      refine ⟨⟨mid⟩, ?_⟩
      walk_at "sq go"
      have e : decide (V.int (sqz n ns) = V.int (sqz n ns)) = true := decide_eq_true rfl
      rw [e]
      exact q _ (Sep3.mono (hs10.weak (quiet _)) (by omega))

theorem new_keep {H : Hp} {x dx a : Addr} {u v z : HO} (nx : H x = none) (ndx : H dx = none) (ne : dx ≠ x) (h : H a = some u) : upd (upd H dx v) x z a = some u :=
  upd_keep (by rw [upd_ne (Ne.symm ne)]; exact nx) (upd_keep ndx h)
abbrev s_law : Stmt := topS 21
theorem sc_law : FnScope ["script", "at", "pool", "turn"] ["script"] (defScope s_law) := ⟨rfl, rfl, rfl, by decide +kernel, rfl, by decide +kernel, by decide +kernel⟩

def spLaw (K : PySem.W.Frag) : Sp := fun vs H Q _ => ∃ (a : Addr) (ns : List Int), vs = [.ref a] ∧ SqL K H a (iv ns) ∧ ns.length ≤ 63 ∧ ∀ H', Q (.bl true) H'
theorem ok_law {C : Addr} {f : Addr} {fd : FuncData} (F : Fun K "law" "law" s_law f fd) (B : Bt mg) (hi : Hid K C) (c_law_pool : Cal P w K mg base 1 "_law_pool" (spPool K) []) (c_law_right : Cal P w K mg base 7 "_law_right" spRight [])
    (c_HiddenList : Mak P w K mg base 2 "HiddenList" C (spHInit K C)) (c_find : Cal P w K mg base 6 "find" (spFind C) []) : FnG P w K mg base CX0 8 f fd ["script"] (spLaw K) := by
  refine okG F sc_law (fun vs H Q E h => ?_) (fun cdv A outer s H vs Q E hG hr h => ?_)
  · obtain ⟨a, ns, rfl, _⟩ := h
    rfl
  · obtain ⟨p0, ns0, rfl, hP, hl, q⟩ := h
    refine ⟨_, (pss_cons (ps_for PassesOwn.never rfl (pi_range1 (by rfl) B.range (pa_cons (pe_callB (call_max2 rfl) (by rfl) B.max (by decide +kernel) (pa_cons pe_int (pa_cons (pe_callB (call_min2 rfl) (by rfl) B.min (by decide +kernel) (pa_cons pe_int (pa_cons (pe_callB (len_seqK (K := K)) (by rfl) B.len boot_len (pa_cons (pv 0) pa_nil)) pa_nil))) pa_nil))) pa_nil)) (pg_name (i := 1) sc_law.nd rfl (Or.inl rfl))
   (pss_cons (ps_set (i := 2) sc_law.nd rfl (Or.inl rfl) (pe_c c_law_pool hr (by first | decide | omega) (by rfl) (pa_cons (pv 0) (pa_cons (pv 1) pa_nil))))
  (pss_one (ps_for PassesOwn.never rfl (pi_range1 (by rfl) B.range (pa_cons pe_int pa_nil)) (pg_name (i := 3) sc_law.nd rfl (Or.inl rfl))
   (pss_one (ps_if (pt_not (pt_val (pe_c c_law_right hr (by first | decide | omega) (by rfl) (pa_cons (pv 2) pa_nil)))) (pss_one (ps_ret pe_bl)) pss_nil))))))
  (pss_cons (ps_if (PW.pt (pw_or (pt_cmpR (op_neDK (K := K) hr.units) (pe_c c_find hr (by first | decide | omega) (by rfl) (pa_cons (pe_mk c_HiddenList hr (by first | decide | omega) (by rfl) (pa_cons (pe_lst pa_nil) pa_nil)) (pa_cons pe_int (pa_cons pe_int pa_nil)))) (pe_lst pa_nil) (nomark _)) (pw_or1 (pt_cmpR (op_neDK (K := K) hr.units) (pe_c c_find hr (by first | decide | omega) (by rfl) (pa_cons (pe_mk c_HiddenList hr (by first | decide | omega) (by rfl) (pa_cons (pe_op op_rep (pe_lst (pa_cons pe_int pa_nil)) pe_int) pa_nil)) (pa_cons pe_int (pa_cons pe_int pa_nil)))) (pe_op op_rep (pe_lst (pa_cons pe_int pa_nil)) pe_int) (nomark _))))) (pss_one (ps_ret pe_bl)) pss_nil)
  (pss_one (ps_ret (pe_cmpR (op_eqDK (K := K) hr.units) (pe_c c_find hr (by first | decide | omega) (by rfl) (pa_cons (pe_mk c_HiddenList hr (by first | decide | omega) (by rfl) (pa_cons (pe_lst (pa_cons pe_int (pa_cons pe_int (pa_cons pe_int (pa_cons pe_int (pa_cons pe_int pa_nil)))))) pa_nil)) (pa_cons pe_int (pa_cons pe_int pa_nil)))) (pe_lst (pa_cons pe_int (pa_cons pe_int (pa_cons pe_int (pa_cons pe_int (pa_cons pe_int pa_nil)))))) (nomark _)))))), ?_⟩
    have el : (iv ns0).length = ns0.length := iv_len _
    walk_at "sq go"
    refine for_range (lo := 0) (n := _) (fun i σ H' => Keep (∃ a1 a2 a3, σ = [some (.ref p0), a1, a2, a3] ∧ Same H H' ∧ i ≤ 6)) ⟨_, _, _, rfl, .refl H, by omega⟩ (fun i σ H' hi h => ?_) (fun σ H' h => ?_)
    · obtain ⟨a1, a2, a3, rfl, s1, hi6⟩ := h.o
      have hP1 := s1.seq hP
      walk_at "sq go"
      refine ⟨⟨by omega, by omega⟩, fun r H2 s2 hS => ?_⟩
      walk_at "sq go"
      refine for_range (lo := 0) (n := _) (fun j σ H4 => Keep (∃ a3, σ = [some (.ref p0), some (.int (0 + (i : Int))), some (.ref r), a3] ∧ Sep (rg3 r (200 * j)) H' H4)) ⟨_, rfl, Sep3.mono hS (by omega)⟩ (fun j σ H4 hj h => ?_) (fun σ H4 h => ?_)
      · obtain ⟨a3, rfl, hs⟩ := h.o
        have hj4 : j < 4 := hj
        walk_at "sq go"
        refine ⟨⟨by omega⟩, fun H5 hs5 => ?_⟩
        walk_at "sq go"
        exact ⟨_, rfl, Sep3.mono hs5 (by omega)⟩
      · obtain ⟨a3, rfl, hs⟩ := h.o
        refine ⟨_, _, _, rfl, s1.trans hs.same, ?_⟩
        split at hi <;> omega
    · obtain ⟨a1, a2, a3, rfl, s1, hi6⟩ := h.o
      walk_at "sq go"
      intro e1 ne1
      walk_at "sq go"
      intro x1 dx1 nx ndx ne
      have so1 := seqL_of (K := K) (a := e1) (H := upd (upd (upd H' e1 (.lst [])) dx1 (.own x1)) x1 (.ins C dx1 [])) (xs := iv []) (new_keep nx ndx ne (by rw [upd_same]; rfl))
      have hx1 : upd (upd (upd H' e1 (.lst [])) dx1 (.own x1)) x1 (.ins C dx1 []) x1 = some (.ins C dx1 []) := upd_same
      walk_at "sq go"
      refine ⟨⟨by decide⟩, fun l1 K1 nl bt hl hx => ?_⟩
      walk_at "sq go"
      refine ⟨⟨by decide, by decide, by decide, by decide, by decide, by decide⟩, fun a1 m1 L1 na _ _ bb _ ha => ?_⟩
      walk_at "sq go"
      intro b1 nb1
      walk_at "sq go"
      refine r_neI (xs := []) (ys := []) (seqL_of (upd_keep nb1 ha)) (seqL_of (by rw [upd_same]; rfl)) ?_
      walk_at "sq go"
      intro e2 ne2
      walk_at "sq go"
      intro e3 ne3
      walk_at "sq go"
      intro x2 dx2 nx ndx ne
      have so2 := seqL_of (K := K) (a := e3) (H := upd (upd (upd (upd (upd L1 b1 (.lst [])) e2 (.lst [.int 40])) e3 (.lst (List.replicate (Int.toNat 6) [V.int 40]).flatten)) dx2 (.own x2)) x2 (.ins C dx2 [])) (xs := iv [40, 40, 40, 40, 40, 40]) (new_keep nx ndx ne (by rw [upd_same]; rfl))
      have hx2 : upd (upd (upd (upd (upd L1 b1 (.lst [])) e2 (.lst [.int 40])) e3 (.lst (List.replicate (Int.toNat 6) [V.int 40]).flatten)) dx2 (.own x2)) x2 (.ins C dx2 []) x2 = some (.ins C dx2 []) := upd_same
      walk_at "sq go"
      refine ⟨⟨by decide⟩, fun l2 K2 nl bt hl hx => ?_⟩
      walk_at "sq go"
      refine ⟨⟨by decide, by decide, by decide, by decide, by decide, by decide⟩, fun a2 m2 L2 na _ _ bb _ ha => ?_⟩
      walk_at "sq go"
      intro e4 ne4
      walk_at "sq go"
      intro e5 ne5
      refine r_neI (xs := [40, 40, 40, 40, 40, 40]) (ys := [40, 40, 40, 40, 40, 40]) (seqL_of (upd_keep ne5 (upd_keep ne4 ha))) (seqL_of (by rw [upd_same]; rfl)) ?_
      walk_at "sq go"
      intro e6 ne6
      walk_at "sq go"
      intro x3 dx3 nx ndx ne
      have so3 := seqL_of (K := K) (a := e6) (H := upd (upd (upd (upd (upd L2 e4 (.lst [.int 40])) e5 (.lst (List.replicate (Int.toNat 6) [V.int 40]).flatten)) e6 (.lst [.int 21, .int 6, .int 3, .int 3, .int 2])) dx3 (.own x3)) x3 (.ins C dx3 [])) (xs := iv [21, 6, 3, 3, 2]) (new_keep nx ndx ne (by rw [upd_same]; rfl))
      have hx3 : upd (upd (upd (upd (upd L2 e4 (.lst [.int 40])) e5 (.lst (List.replicate (Int.toNat 6) [V.int 40]).flatten)) e6 (.lst [.int 21, .int 6, .int 3, .int 3, .int 2])) dx3 (.own x3)) x3 (.ins C dx3 []) x3 = some (.ins C dx3 []) := upd_same
      walk_at "sq go"
      refine ⟨⟨by decide⟩, fun l3 K3 nl bt hl hx => ?_⟩
      walk_at "sq go"
      refine ⟨⟨by decide, by decide, by decide, by decide, by decide, by decide⟩, fun a3 m3 L3 na _ _ bb _ ha => ?_⟩
      walk_at "sq go"
      intro e7 ne7
      walk_at "sq go"
      refine r_eqI (xs := [21, 6, 3, 3, 2]) (ys := [21, 6, 3, 3, 2]) (seqL_of (upd_keep ne7 ha)) (seqL_of (by rw [upd_same]; rfl)) ?_
      exact q _
end
end Sq
open PySem PySem.W PyProof.Rows in
set_option maxRecDepth 100000 in
set_option maxHeartbeats 0 in
theorem PySem.Challenge.cw_squeezelists_k17_hidden_lists_found_holds : PySem.Challenge.rw_squeezelists_k17_hidden_lists_found.Holds := by
  w_on; o_law; k_head; (case hw => w_witness2)
  k_fill
  refine Sq.walk_ofG (l := PySem.Challenge.rw_squeezelists_k17_hidden_lists_found) (n := 63) (k := 8) (x := "script") (sp := Sq.spLaw) rfl (by decide) rfl ⟨rfl, by decide, by decide⟩ (fun w h Y => PySem.W.kIn_of Y) ?F (fun K H a ns hl hS => ⟨a, ns, rfl, hS, hl, fun _ => rfl⟩)
  case F =>
    intro w mg fa h KX G hmg
    have B : Sq.Bt mg := by
      refine' ⟨PySem.W.mg_none_of KX G ?z0, PySem.W.mg_none_of KX G ?z1, PySem.W.mg_none_of KX G ?z2, PySem.W.mg_none_of KX G ?z3, PySem.W.mg_none_of KX G ?z4, PySem.W.mg_none_of KX G ?z5, PySem.W.mg_none_of KX G ?z6, PySem.W.mg_none_of KX G ?z7⟩
      (case z0 => k_is)
      (case z1 => k_is)
      (case z2 => k_is)
      (case z3 => k_is)
      (case z4 => k_is)
      (case z5 => k_is)
      (case z6 => k_is)
      (case z7 => k_is)
    refine' Sq.cutD (Sq.DefAt.mk1 (x := "check_list") (st := Sq.s_check_list) (ps := ["replacements"]) KX G ?a_check_list ?l_check_list ?c_check_list ?k_check_list (fun _ _ _ _ _ _ us hl => match us, hl with | [_], _ => rfl)) ?_
    (case a_check_list => k_is); (case l_check_list => k_is); (case c_check_list => k_is); (case k_check_list => k_is)
    intro D_check_list
    refine' Sq.cutD (Sq.DefAt.mk1 (x := "check_length") (st := Sq.s_check_length) (ps := ["length"]) KX G ?a_check_length ?l_check_length ?c_check_length ?k_check_length (fun _ _ _ _ _ _ us hl => match us, hl with | [_], _ => rfl)) ?_
    (case a_check_length => k_is); (case l_check_length => k_is); (case c_check_length => k_is); (case k_check_length => k_is)
    intro D_check_length
    refine' Sq.cutD (Sq.DefAt.mk1 (x := "squeezed_once") (st := Sq.s_squeezed_once) (ps := ["length", "replacement"]) KX G ?a_squeezed_once ?l_squeezed_once ?c_squeezed_once ?k_squeezed_once (fun _ _ _ _ _ _ us hl => match us, hl with | [_, _], _ => rfl)) ?_
    (case a_squeezed_once => k_is); (case l_squeezed_once => k_is); (case c_squeezed_once => k_is); (case k_squeezed_once => k_is)
    intro D_squeezed_once
    refine' Sq.cutD (Sq.DefAt.mk1 (x := "squeezed_by") (st := Sq.s_squeezed_by) (ps := ["length", "replacements"]) KX G ?a_squeezed_by ?l_squeezed_by ?c_squeezed_by ?k_squeezed_by (fun _ _ _ _ _ _ us hl => match us, hl with | [_, _], _ => rfl)) ?_
    (case a_squeezed_by => k_is); (case l_squeezed_by => k_is); (case c_squeezed_by => k_is); (case k_squeezed_by => k_is)
    intro D_squeezed_by
    refine' Sq.cutD (Sq.DefAt.mk1 (x := "squeezed") (st := Sq.s_squeezed) (ps := ["length", "replacements"]) KX G ?a_squeezed ?l_squeezed ?c_squeezed ?k_squeezed (fun _ _ _ _ _ _ us hl => match us, hl with | [_, _], _ => rfl)) ?_
    (case a_squeezed => k_is); (case l_squeezed => k_is); (case c_squeezed => k_is); (case k_squeezed => k_is)
    intro D_squeezed
    refine' Sq.cutD (Sq.DefAt.mk1 (x := "_law_pool") (st := Sq.s_law_pool) (ps := ["script", "at"]) KX G ?a_law_pool ?l_law_pool ?c_law_pool ?k_law_pool (fun _ _ _ _ _ _ us hl => match us, hl with | [_, _], _ => rfl)) ?_
    (case a_law_pool => k_is); (case l_law_pool => k_is); (case c_law_pool => k_is); (case k_law_pool => k_is)
    intro D_law_pool
    refine' Sq.cutD (Sq.DefAt.mk1 (x := "_law_draw") (st := Sq.s_law_draw) (ps := ["pool", "many"]) KX G ?a_law_draw ?l_law_draw ?c_law_draw ?k_law_draw (fun _ _ _ _ _ _ us hl => match us, hl with | [_, _], _ => rfl)) ?_
    (case a_law_draw => k_is); (case l_law_draw => k_is); (case c_law_draw => k_is); (case k_law_draw => k_is)
    intro D_law_draw
    refine' Sq.cutD (Sq.DefAt.mk1 (x := "_law_list") (st := Sq.s_law_list) (ps := ["pool", "most", "far"]) KX G ?a_law_list ?l_law_list ?c_law_list ?k_law_list (fun _ _ _ _ _ _ us hl => match us, hl with | [_, _, _], _ => rfl)) ?_
    (case a_law_list => k_is); (case l_law_list => k_is); (case c_law_list => k_is); (case k_law_list => k_is)
    intro D_law_list
    refine' Sq.cutD (Sq.DefAt.mk1 (x := "_law_after") (st := Sq.s_law_after) (ps := ["long", "numbers"]) KX G ?a_law_after ?l_law_after ?c_law_after ?k_law_after (fun _ _ _ _ _ _ us hl => match us, hl with | [_, _], _ => rfl)) ?_
    (case a_law_after => k_is); (case l_law_after => k_is); (case c_law_after => k_is); (case k_law_after => k_is)
    intro D_law_after
    refine' Sq.cutD (Sq.DefAt.mk1 (x := "product_of") (st := Sq.s_product_of) (ps := ["hidden", "steps", "greatest"]) KX G ?a_product_of ?l_product_of ?c_product_of ?k_product_of (fun _ _ _ _ _ _ us hl => match us, hl with | [_, _, _], _ => rfl)) ?_
    (case a_product_of => k_is); (case l_product_of => k_is); (case c_product_of => k_is); (case k_product_of => k_is)
    intro D_product_of
    refine' Sq.cutD (Sq.DefAt.mk1 (x := "find") (st := Sq.s_find) (ps := ["hidden", "steps", "greatest"]) KX G ?a_find ?l_find ?c_find ?k_find (fun _ _ _ _ _ _ us hl => match us, hl with | [_, _, _], _ => rfl)) ?_
    (case a_find => k_is); (case l_find => k_is); (case c_find => k_is); (case k_find => k_is)
    intro D_find
    refine' Sq.cutD (Sq.DefAt.mk1 (x := "_law_hidden") (st := Sq.s_law_hidden) (ps := ["pool"]) KX G ?a_law_hidden ?l_law_hidden ?c_law_hidden ?k_law_hidden (fun _ _ _ _ _ _ us hl => match us, hl with | [_], _ => rfl)) ?_
    (case a_law_hidden => k_is); (case l_law_hidden => k_is); (case c_law_hidden => k_is); (case k_law_hidden => k_is)
    intro D_law_hidden
    refine' Sq.cutD (Sq.DefAt.mk1 (x := "_law_right") (st := Sq.s_law_right) (ps := ["pool"]) KX G ?a_law_right ?l_law_right ?c_law_right ?k_law_right (fun _ _ _ _ _ _ us hl => match us, hl with | [_], _ => rfl)) ?_
    (case a_law_right => k_is); (case l_law_right => k_is); (case c_law_right => k_is); (case k_law_right => k_is)
    intro D_law_right
    refine' Sq.cutD (Sq.DefAt.mk1 (x := "law") (st := Sq.s_law) (ps := ["script"]) KX G ?a_law ?l_law ?c_law ?k_law (fun _ _ _ _ _ _ us hl => match us, hl with | [_], _ => rfl)) ?_
    (case a_law => k_is); (case l_law => k_is); (case c_law => k_is); (case k_law => k_is)
    intro D_law
    refine' Sq.cutD (Sq.glob_mk (x := "HiddenList") KX G ?aC_HiddenList) ?_
    (case aC_HiddenList => k_is)
    intro C_HiddenList
    refine' Sq.cutD (Sq.cls_mk KX C_HiddenList ?pg_HiddenList ?hd_HiddenList ?po_HiddenList ?sa_HiddenList) ?_
    (case pg_HiddenList => k_is); (case hd_HiddenList => k_is); (case po_HiddenList => k_is); (case sa_HiddenList => k_is)
    intro K_HiddenList
    refine' Sq.cutD (Sq.noat_mk (m := "hidden") KX C_HiddenList ?n_HiddenList_hidden) ?_
    (case n_HiddenList_hidden => k_is)
    intro N_HiddenList_hidden
    refine' Sq.cutD (Sq.noat_mk (m := "asked") KX C_HiddenList ?n_HiddenList_asked) ?_
    (case n_HiddenList_asked => k_is)
    intro N_HiddenList_asked
    refine' Sq.cutD (Sq.IniAt.mk1 (x := "HiddenList") (qual := "HiddenList.__init__") (st := Sq.s_HiddenList___init__) (ps := ["self", "replacements"]) KX C_HiddenList ?a_HiddenList___init__ ?l_HiddenList___init__ ?c_HiddenList___init__ ?k_HiddenList___init__ ?mk_HiddenList___init__ ?i_HiddenList___init__ ?kc_HiddenList___init__ (fun _ _ _ _ _ _ us hl => match us, hl with | [_, _], _ => rfl)) ?_
    (case a_HiddenList___init__ => k_is); (case l_HiddenList___init__ => k_is); (case c_HiddenList___init__ => k_is); (case k_HiddenList___init__ => k_is); (case mk_HiddenList___init__ => k_is); (case i_HiddenList___init__ => k_is); (case kc_HiddenList___init__ => k_is)
    intro D_HiddenList___init__
    refine' Sq.cutD (Sq.MetAt.mk1 (m := "ask") (qual := "HiddenList.ask") (st := Sq.s_HiddenList_ask) (ps := ["self", "length"]) KX C_HiddenList ?a_HiddenList_ask ?l_HiddenList_ask ?c_HiddenList_ask ?k_HiddenList_ask ?i_HiddenList_ask (fun _ _ _ _ _ _ us hl => match us, hl with | [_, _], _ => rfl)) ?_
    (case a_HiddenList_ask => k_is); (case l_HiddenList_ask => k_is); (case c_HiddenList_ask => k_is); (case k_HiddenList_ask => k_is); (case i_HiddenList_ask => k_is)
    intro D_HiddenList_ask
    refine' Sq.cutD (Sq.PrpAt.mk1 (m := "questions") (qual := "HiddenList.questions") (st := Sq.s_HiddenList_questions) (ps := ["self"]) KX C_HiddenList ?a_HiddenList_questions ?g_HiddenList_questions ?t_HiddenList_questions ?r_HiddenList_questions ?l_HiddenList_questions ?c_HiddenList_questions ?k_HiddenList_questions (fun _ _ _ _ _ _ us hl => match us, hl with | [_], _ => rfl)) ?_
    (case a_HiddenList_questions => k_is); (case g_HiddenList_questions => k_is); (case t_HiddenList_questions => k_is); (case r_HiddenList_questions => k_is); (case l_HiddenList_questions => k_is); (case c_HiddenList_questions => k_is); (case k_HiddenList_questions => k_is)
    intro D_HiddenList_questions
    have hi : Sq.Hid _ _ := ⟨K_HiddenList, N_HiddenList_hidden, N_HiddenList_asked⟩
    obtain ⟨fd, F, hb⟩ := D_law.law hmg (fun _ _ _ _ _ _ us hl => match us, hl with | [_], _ => rfl)
    refine ⟨fd, hb, fun base _ _ => ?_⟩
    have ccl := Sq.cal_check_list (P := PySem.Challenge.rw_squeezelists_k17_hidden_lists_found.prog) (w := w) (base := base) D_check_list B
    have cln := Sq.cal_check_length (P := PySem.Challenge.rw_squeezelists_k17_hidden_lists_found.prog) (w := w) (base := base) D_check_length B
    have csq := Sq.cal_squeezed_p D_squeezed B cln ccl (Sq.cal_squeezed_by D_squeezed_by B (Sq.cal_squeezed_once D_squeezed_once B))
    have ask := Sq.met_ask D_HiddenList_ask hi B cln csq
    have f2 := Sq.two_find D_find B hi ask (Sq.cal_product_of D_product_of B hi ask)
    have cd := Sq.cal_draw (P := PySem.Challenge.rw_squeezelists_k17_hidden_lists_found.prog) (w := w) (base := base) D_law_draw B
    have mk := Sq.mak_hidden D_HiddenList___init__ hi B ccl
    have fk : Sq.CalK _ _ _ _ _ _ "find" ["greatest", "steps", "hidden"] (Sq.spFindK _) := f2.calK (fun {α} (l : List α) => match l with | [g, s, o] => [o, s, g] | l => l) (fun {vs us} r => by
      cases r with
      | nil => exact .nil
      | cons a r => cases r with
        | nil => exact .cons a .nil
        | cons b r => cases r with
          | nil => exact .cons a (.cons b .nil)
          | cons c r => cases r with
            | nil => exact .cons c (.cons b (.cons a .nil))
            | cons d r => exact .cons a (.cons b (.cons c (.cons d r)))) (fun kV doc pm an cdv ct ws hl => match ws, hl with | [_, _, _], _ => rfl) (by
      rintro zs H Q E ⟨g, s, o, rfl, h⟩
      exact ⟨rfl, h⟩)
    refine Sq.ok_law F B hi (Sq.cal_pool D_law_pool B) (Sq.cal_right D_law_right B hi cd (Sq.cal_hidden D_law_hidden B cd (Sq.cal_list D_law_list B cd)) mk (Sq.prp_questions D_HiddenList_questions hi B) ask f2.cal fk (Sq.cal_after D_law_after B)) mk f2.cal
