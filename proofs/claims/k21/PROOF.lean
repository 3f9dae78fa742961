import PyProof.Rows.All
import Wide.All
import OpenK.AllK
import Wide.FinOn
import HandS.ForMost
import HandS.Wide
import HandS.Style
import HandS.SortInts
import HandS.Deep
import HandS.Defaults
import HandS.Flow
import HandS.IsInst
import HandS.Codes
import HandS.NoneIn
import HandS.Property
import HandS.RaiseMore
import PyProof.ReprRoads
import PyProof.LongRange
import HandS.Exc
import HandS.ExcInit
import HandS.NestedK
import KE.KExcSuper
import HandS.ExcIs
import HandS.ExcField
import KE.KExcIs
import HandS.WordsExc
import HandS.MakeKwOnly
import HandS.SetFor
import KE.RegKIsAll
import HandS.Walk
import HandS.Star
import KE.KUnpackStar
import PyProof.StrOps2
import HandS.GenList
import HandS.GenCall
import HandS.GenYield
import PyProof.GenRules
import PyProof.GenComp
import HandS.MethStar
import PyProof.Logic
import PyProof.ToksMono
import HandS.Replace
import HandS.ReplaceList
import HandS.Zip
import HandS.OwnEq
import HandS.More
import PySem.Challenge.RW_squeezelists_k21_equal_live_texts
set_option Elab.async false
set_option linter.all false
set_option maxRecDepth 100000
set_option maxHeartbeats 4000000
namespace Sq
open PySem PySem.Spec PyProof.Rows L2
/-! ## operators -/
/-- a power whose base has at most 100000 bits -/
def CPowW (i j : Int) : Prop := 0 ≤ j ∧ j ≤ 1000 ∧ i.natAbs.log2 < 100000
theorem bitsOf_le (i : Int) : Builtin.Int.intBits i ≤ i.natAbs.log2 + 1 := by
  unfold Builtin.Int.intBits
  split <;> omega
theorem op_powW {X : Cx} : OpR X (binaryOp .Pow) (rI CPowW fun i j => .int (i ^ j.toNat)) := opI fun i j _ _ _ _ _ hc q => by
  obtain ⟨h1, h2, h3⟩ := hc
  refine pow_int h1 ?_ q
  have hb := bitsOf_le i
  have h4 : ((Builtin.Int.intBits i : Nat) : Int) ≤ 100000 := by omega
  have h5 := Int.mul_le_mul h4 h2 h1 (by decide : (0 : Int) ≤ 100000)
  exact Int.le_trans h5 (by decide)
def ipIC (C : Int → Int → Prop) (f : Int → Int → Int) : TIp := fun x y H Q => ∃ i j, x = .int i ∧ y = .int j ∧ C i j ∧ Q (.int (f i j)) H
section
variable {X : Cx}
theorem ip_mulW : PIp X .Mult (ipIC CMulW fun i j => i * j) := by
  intro pins s σ H x y v u Q I r1 r2 h
  obtain ⟨i, j, e1, e2, c, q⟩ := h
  subst e1; subst e2
  obtain ⟨t, rfl⟩ := r1
  obtain ⟨t', rfl⟩ := r2
  exact imul_int ⟨.int _, H, I.tok _, ⟨_, rfl⟩, q⟩ c.ok
theorem ip_fdivW : PIp X .FloorDiv (ipIC CDivW fun i j => i / j) := by
  intro pins s σ H x y v u Q I r1 r2 h
  obtain ⟨i, j, e1, e2, c, q⟩ := h
  subst e1; subst e2
  obtain ⟨t, rfl⟩ := r1
  obtain ⟨t', rfl⟩ := r2
  have h1 : (0 : Int) < j := c.1
  refine ifloordiv_int (by omega) ?_ (.inl (PyProof.noPylong_of_log2 c.2))
  rw [Int.fdiv_eq_ediv_of_nonneg i (by omega)]
  exact ⟨.int _, H, I.tok _, ⟨_, rfl⟩, q⟩
end
/-- numbers below 2 ^ n have a small log2 -/
theorem lg_lt {i : Int} {n : Nat} (h : i.natAbs < 2 ^ n) (h0 : 0 < n) : i.natAbs.log2 < n := PySem.Flt.log2_lt_of h0 h

/-! ## sizes -/
/-- at most b bits -/
def Sm (b : Nat) (i : Int) : Prop := i.natAbs < 2 ^ b
theorem Sm.mono {a b : Nat} {i : Int} (h : Sm a i) (hab : a ≤ b) : Sm b i := Nat.lt_of_lt_of_le h (Nat.pow_le_pow_right (by decide) hab)
theorem Sm.lg {b : Nat} {i : Int} (h : Sm b i) (h0 : 0 < b) : i.natAbs.log2 < b := PySem.Flt.log2_lt_of h0 h
theorem Sm.add {b : Nat} {i j : Int} (h : Sm b i) (h' : Sm b j) : Sm (b + 1) (i + j) := by
  have e : 2 ^ (b + 1) = 2 ^ b + 2 ^ b := by rw [Nat.pow_succ]; omega
  unfold Sm at *
  omega
theorem Sm.neg {b : Nat} {i : Int} (h : Sm b i) : Sm b (-i) := by
  unfold Sm at *
  rw [Int.natAbs_neg]
  exact h
theorem Sm.sub {b : Nat} {i j : Int} (h : Sm b i) (h' : Sm b j) : Sm (b + 1) (i - j) := by
  rw [Int.sub_eq_add_neg]
  exact h.add h'.neg
theorem Sm.mul {a b : Nat} {i j : Int} (h : Sm a i) (h' : Sm b j) : Sm (a + b) (i * j) := by
  unfold Sm at *
  rw [Int.natAbs_mul, Nat.pow_add]
  exact Nat.mul_lt_mul'' h h'
theorem Sm.le {b : Nat} {i j : Int} (h : Sm b j) (h0 : 0 ≤ i) (hij : i ≤ j) : Sm b i := by
  unfold Sm at *
  omega
theorem Sm.wide {a b : Nat} {i j : Int} (h : Sm a i) (h' : Sm b j) (ha : 0 < a) (hb : 0 < b) (hab : a + b ≤ 1000000) : CMulW i j := by
  have h1 := h.lg ha
  have h2 := h'.lg hb
  unfold CMulW
  omega
/-- a small number -/
theorem Sm.of {b : Nat} {i : Int} (h : i.natAbs < 2 ^ 10) (hb : 10 ≤ b) : Sm b i := Sm.mono (a := 10) h hb
theorem div_ok {i k : Int} (h : 0 < k) (h2 : k < 2 ^ 240) : CDivW i k := ⟨h, Nat.lt_trans ((show Sm 240 k by unfold Sm; omega).lg (by decide)) (by decide)⟩
theorem pow_ok {b : Nat} {i j : Int} (h : Sm b i) (h0 : 0 < b) (hb : b ≤ 100000) (j0 : 0 ≤ j) (j1 : j ≤ 1000) : CPowW i j := ⟨j0, j1, Nat.lt_of_lt_of_le (h.lg h0) hb⟩
/-! ## rules whose reading speaks of the written part K itself (a comprehension's block has it too) -/
section
variable {X : Cx} {K : PySem.W.Frag}
theorem ix_listK (h : X.K = K := by rfl) : IxR X (rIxL K) := by subst h; exact ix_list
theorem ix_tupK (h : X.K = K := by rfl) : IxR X (rIxT K) := by subst h; exact ix_tup
theorem sl_listK (h : X.K = K := by rfl) : SlR X (rSlL K) := by subst h; exact sl_list
theorem sl_tupK (h : X.K = K := by rfl) : SlR X (rSlT K) := by subst h; exact sl_tup
def rLenQ (K : PySem.W.Frag) : List V → Hp → VK → Prop := fun xs H Q => ∃ p ys, xs = [.ref p] ∧ SqL K H p ys ∧ Q (.int ys.length) H
theorem len_seqK (h : X.K = K := by rfl) : CallR X (.builtin "len") (rLenQ K) := by
  subst h
  intro pins s σ H xs us Q I r q
  obtain ⟨p, ys, e, hs, q⟩ := q
  exact call_len_seq pins s σ H xs us Q I r ⟨p, ys, e, .inl hs, q⟩
/-- readings that are not to be opened by themselves -/
@[irreducible] def rEqQ (K : PySem.W.Frag) : R2 := rEqD K
@[irreducible] def rNeQ (K : PySem.W.Frag) : R2 := rNeD K
@[irreducible] def rInQ (K : PySem.W.Frag) : R2 := rInD K
@[irreducible] def rNotInQ (K : PySem.W.Frag) : R2 := rNotInD K
theorem rEqQ_of {H : Hp} {x y : V} {Q : VK} (h : rEqD K x y H Q) : rEqQ K x y H Q := by unfold rEqQ; exact h
theorem rNeQ_of {H : Hp} {x y : V} {Q : VK} (h : rNeD K x y H Q) : rNeQ K x y H Q := by unfold rNeQ; exact h
theorem rInQ_of {H : Hp} {x y : V} {Q : VK} (h : rInD K x y H Q) : rInQ K x y H Q := by unfold rInQ; exact h
theorem rNotInQ_of {H : Hp} {x y : V} {Q : VK} (h : rNotInD K x y H Q) : rNotInQ K x y H Q := by unfold rNotInQ; exact h
theorem op_eqDK (hu : X.A.units + 64 < cLine) (h : X.K = K := by rfl) : OpR X (compareOp .Eq) (rEqQ K) := by subst h; unfold rEqQ; exact op_eqD hu
theorem op_neDK (hu : X.A.units + 64 < cLine) (h : X.K = K := by rfl) : OpR X (compareOp .NotEq) (rNeQ K) := by subst h; unfold rNeQ; exact op_neD hu
theorem op_inDK (hu : X.A.units + 65 < cLine) (h : X.K = K := by rfl) : OpR X (compareOp .In) (rInQ K) := by subst h; unfold rInQ; exact op_inD hu
theorem op_notInDK (hu : X.A.units + 65 < cLine) (h : X.K = K := by rfl) : OpR X (compareOp .NotIn) (rNotInQ K) := by subst h; unfold rNotInQ; exact op_notInD hu
theorem isiK (h : X.K = K := by rfl) : CallR X (.builtin "isinstance") (rIsi K) := by subst h; exact call_isi
def rListOf (K : PySem.W.Frag) : List V → Hp → VK → Prop := fun xs H Q => ∃ p ys, xs = [.ref p] ∧ SqL K H p ys ∧ ∀ l, H l = none → Q (.ref l) (upd H l (.lst ys))
theorem list_ofK (h : X.K = K := by rfl) : CallR X (.type "list") (rListOf K) := by
  subst h
  intro pins s σ H xs us Q I r q
  obtain ⟨p, ys, e, hs, q⟩ := q
  exact call_list_of pins s σ H xs us Q I r ⟨p, ys, e, .inl hs, q⟩
theorem cr_sumK (hc : X.calm = true) (h : X.K = K := by rfl) : CallR X (.builtin "sum") (rSum K) := by subst h; exact cr_sum hc
theorem cr_maxK (hc : X.calm = true) (h : X.K = K := by rfl) : CallR X (.builtin "max") (rMax K) := by subst h; exact cr_max hc
theorem cr_minK (hc : X.calm = true) (h : X.K = K := by rfl) : CallR X (.builtin "min") (rMin K) := by subst h; exact cr_min hc
theorem cr_allK (hc : X.calm = true) (h : X.K = K := by rfl) : CallR X (.builtin "all") (rAll K) := by subst h; exact cr_all hc
theorem cr_anyK (hc : X.calm = true) (h : X.K = K := by rfl) : CallR X (.builtin "any") (rAny K) := by subst h; exact cr_any hc
theorem cr_sortedIK (h : X.K = K := by rfl) : CallR X (.builtin "sorted") (rSortedI K) := by subst h; exact cr_sortedI
variable {e a b : Expr} {te ta tb : TE} {es : List Expr} {t : TA} {tgs : TGs} {tg : Expr} {pos p q : Pos} {n : Nat}
theorem pi_listK (he : PE X e te) (h : X.K = K := by rfl) : PI X tg e (iList K te) := by subst h; exact pi_list he
theorem pg_tupK {k : Nat} (hc : X.calm = true) (hg : PGs X es tgs) (hn : (assignEach es X.env).length = n := by rfl) (hst : (assignEach es X.env).findIdx? (·.1) = none := by rfl) (h : X.K = K := by rfl) : PG X (.Tuple es k pos) (gTup K n tgs) := by
  subst h
  exact pg_tup hc hg hn hst
theorem pg_lstK {k : Nat} (hc : X.calm = true) (hg : PGs X es tgs) (hn : (assignEach es X.env).length = n := by rfl) (hst : (assignEach es X.env).findIdx? (·.1) = none := by rfl) (h : X.K = K := by rfl) : PG X (.Tuple es k pos) (gUnl K n tgs) := by
  subst h
  exact pg_unl hc hg hn hst
theorem pi_enumK {elts : List Expr} {kk : Nat} (hg : Gl X "enumerate") (hm : X.mg "enumerate" = none) (ha : PA X [e] t) (hs : starEach [e] X.env = [(false, eval e X.env)] := by rfl) (h : X.K = K := by rfl) :
    PI X (.Tuple elts kk p) (.Call (.Name "enumerate" q) [e] [] pos) (iEnum K t) := by
  subst h
  exact pi_enum hg hm ha hs
theorem pi_zipK {elts : List Expr} {kk : Nat} (hg : Gl X "zip") (hm : X.mg "zip" = none) (ha : PA X [a, b] t) (hs : starEach [a, b] X.env = (false, eval a X.env) :: starEach [b] X.env := by rfl)
    (hpl : (backTo pos (starEach [b] X.env)).any (·.1) = false := by rfl) (h : X.K = K := by rfl) : PI X (.Tuple elts kk p) (.Call (.Name "zip" q) [a, b] [] pos) (iZip K t) := by
  subst h
  exact pi_zip hg hm ha hs hpl
theorem pe_revLK {k : Nat} {p1 p2 p3 : Pos} (he : PE X e te) (h : X.K = K := by rfl) : PE X (.Subscript e (.Slice none none (some (.UnaryOp .USub (.Constant (.int 1) k p1) p2)) p3) pos) (tRevL K te) := by
  subst h
  exact pe_revL he
theorem pe_fldK {f : Str} (he : PE X e te) (hb : attributeBase e f X.env (eval e X.env) = eval e X.env := by rfl) (h : X.K = K := by rfl) : PE X (.Attribute e f pos) (tFld K te f) := by
  subst h
  exact pe_fld he hb
end

/-! ## heaps -/
/-- what holds between the turns of a loop (a wrapper: it is not taken apart by itself) -/
structure Keep (P : Prop) : Prop where
  o : P

theorem Same.get {H H' : Hp} {a : Addr} {o : HO} (s : Same H H') (h : H a = some o) : H' a = some o := s a o h
theorem same_new {H : Hp} {p : Addr} {o : HO} (h : H p = none) : Same H (upd H p o) := fun b u e => by
  rw [upd_ne (ne_of_none e h)]
  exact e
theorem upd_keep {H : Hp} {p a : Addr} {o u : HO} (n : H p = none) (h : H a = some u) : upd H p o a = some u := same_new n a u h
theorem upd_off {H : Hp} {p a : Addr} {o u : HO} (n : a ≠ p) (h : H a = some u) : upd H p o a = some u := by
  rw [upd_ne n]
  exact h
/-- a source of draws: what is true of it, where it stands -/
structure Rg where
  I : Hp → Prop
  S : Addr → Prop
  loc : ∀ H H' : Hp, (∀ a, S a → H' a = H a) → I H → I H'
  has : ∀ (H : Hp) (a : Addr), I H → S a → H a ≠ none
/-- the heap H is the quiet part G and the source -/
structure Sep (R : Rg) (G H : Hp) : Prop where
  inv : R.I H
  same : Same G H
  off : ∀ a, R.S a → G a = none
section
variable {R : Rg} {G G' H H' : Hp} {p a : Addr} {o u : HO}
theorem Sep.get (s : Sep R G H) (h : G a = some o) : H a = some o := s.same a o h
theorem Sep.free (s : Sep R G H) (h : H p = none) : G p = none := s.same.free h
theorem Sep.weak (s : Sep R G H) (h : Same G' G) : Sep R G' H := ⟨s.inv, h.trans s.same, fun a ha => by
  cases q : G' a with
  | none => rfl
  | some o =>
    have z := h a o q
    rw [s.off a ha] at z
    cases z⟩
theorem Sep.new (s : Sep R G H) (h : H p = none) (o : HO) : Sep R (upd G p o) (upd H p o) := by
  have np : ∀ a, R.S a → a ≠ p := fun a ha e => R.has H a s.inv ha (by rw [e]; exact h)
  refine ⟨R.loc H _ (fun a ha => upd_ne (np a ha)) s.inv, fun b x e => ?_, fun a ha => by rw [upd_ne (np a ha)]; exact s.off a ha⟩
  by_cases hb : b = p
  · rw [hb, upd_same] at e
    rw [hb, upd_same]
    exact e
  · rw [upd_ne hb] at e
    rw [upd_ne hb]
    exact s.same b x e
/-- a store into an object of the quiet part -/
theorem Sep.put (s : Sep R G H) (h : G p = some u) (o : HO) : Sep R (upd G p o) (upd H p o) := by
  have np : ∀ a, R.S a → a ≠ p := fun a ha e => by
    have z := s.off a ha
    rw [e, h] at z
    cases z
  refine ⟨R.loc H _ (fun a ha => upd_ne (np a ha)) s.inv, fun b x e => ?_, fun a ha => by rw [upd_ne (np a ha)]; exact s.off a ha⟩
  by_cases hb : b = p
  · rw [hb, upd_same] at e
    rw [hb, upd_same]
    exact e
  · rw [upd_ne hb] at e
    rw [upd_ne hb]
    exact s.same b x e
/-- behind something that only makes new things -/
theorem Sep.on (s : Sep R G H) (h : Same H H') : Sep R G H' := by
  refine ⟨R.loc H _ (fun a ha => ?_) s.inv, s.same.trans h, s.off⟩
  cases q : H a with
  | none => exact absurd q (R.has H a s.inv ha)
  | some o => exact h a o q
theorem Sep.grow (s : Sep R G H) (h : Same H H') (n : H p = none) (e : H' p = some o) : Sep R (upd G p o) H' := by
  have s' := s.on h
  have np : ∀ a, R.S a → a ≠ p := fun a ha z => R.has H a s.inv ha (by rw [z]; exact n)
  refine ⟨s'.inv, fun b x q => ?_, fun a ha => by rw [upd_ne (np a ha)]; exact s.off a ha⟩
  by_cases hb : b = p
  · rw [hb, upd_same] at q
    rw [hb, e]
    exact q
  · rw [upd_ne hb] at q
    exact s'.same b x q
end
/-- a source of draws that is a list of three ints: digits, a mix, a count that is at most N -/
def R3 (r : Addr) (N a b c : Int) (H : Hp) : Prop := H r = some (.lst [.int a, .int b, .int c]) ∧ 0 ≤ a ∧ 0 ≤ b ∧ b < 2 ^ 100 ∧ 0 ≤ c ∧ c ≤ N
def rg3 (r : Addr) (N : Int) : Rg where
  I := fun H => ∃ a b c, R3 r N a b c H
  S := fun x => x = r
  loc := fun H H' e ⟨a, b, c, h1, h2⟩ => ⟨a, b, c, (e r rfl).trans h1, h2⟩
  has := fun H x ⟨a, b, c, h1, _⟩ hx => by
    subst hx
    rw [h1]
    exact fun z => nomatch z
theorem Sep3.redo {r : Addr} {N N' : Int} {G H : Hp} {o : HO} (s : Sep (rg3 r N) G H) (h : ∃ a b c, R3 r N' a b c (upd H r o)) : Sep (rg3 r N') G (upd H r o) := by
  refine ⟨h, fun b u q => ?_, s.off⟩
  have nr : b ≠ r := fun z => by
    have := s.off b z
    rw [q] at this
    cases this
  rw [upd_ne nr]
  exact s.same b u q
theorem Sep3.mono {r : Addr} {N N' : Int} {G H : Hp} (s : Sep (rg3 r N) G H) (h : N ≤ N') : Sep (rg3 r N') G H := by
  obtain ⟨a, b, c, h1, h2, h3, h4, h5, h6⟩ := s.inv
  exact ⟨⟨a, b, c, h1, h2, h3, h4, h5, by omega⟩, s.same, s.off⟩
/-- a draw from it -/
def spDraw3 : Sp := fun vs H Q _ => ∃ (r : Addr) (m N : Int) (G : Hp), vs = [.ref r, .int m] ∧ Sep (rg3 r N) G H ∧ Keep (0 < m ∧ m < 2 ^ 240 ∧ N < 2 ^ 60) ∧ ∀ v H', 0 ≤ v → v < m → Sep (rg3 r (N + 1)) G H' → Q (.int v) H'
theorem seqL_of {K : PySem.W.Frag} {H : Hp} {a : Addr} {xs : List V} (h : H a = some (.lst xs)) : SqL K H a xs := .inl (.inl h)
/-- ints as values -/
abbrev iv (ns : List Int) : List V := ns.map V.int
theorem iv_app (ns : List Int) (x : Int) : iv ns ++ [V.int x] = iv (ns ++ [x]) := by simp
theorem iv_len (ns : List Int) : (iv ns).length = ns.length := List.length_map _
theorem iv_get {ns : List Int} {i : Nat} {x : V} (h : (iv ns)[i]? = some x) : ∃ n, ns[i]? = some n ∧ x = .int n := by
  rw [List.getElem?_map] at h
  cases e : ns[i]? with
  | none =>
    rw [e] at h
    cases h
  | some n =>
    rw [e] at h
    exact ⟨n, rfl, (Option.some.inj h).symm⟩

theorem atI_iv {ns : List Int} {i : Int} (h0 : 0 ≤ i) (h1 : i < ns.length) : ∃ n, atI (iv ns) i = some (.int n) := by
  obtain ⟨j, rfl⟩ := Int.eq_ofNat_of_zero_le h0
  have hj : j < ns.length := by omega
  exact ⟨ns[j], atI_nat (by rw [List.getElem?_map, List.getElem?_eq_getElem hj]; rfl)⟩
theorem seqIx0 {n : Nat} (h : 0 < n) : seqIndex? 0 n = some 0 := by
  unfold seqIndex?
  simp
  omega
theorem lit_len {n : Nat} (h : n ≤ 1000) : n ≤ sizeLine := Nat.le_of_lt (small1000 h)
/-- for i, x in enumerate(xs) -/
theorem for_enum {K : PySem.W.Frag} {a : Addr} {xs : List V} {g : TG} {tb : TS} {D : Ends} {σ : L2.St} {H : Hp} (Pv : Nat → L2.St → Hp → Prop) (h0 : Pv 0 σ H) (hq : ∀ i σ H, Pv i σ H → SqL K H a xs)
    (hs : ∀ (i : Nat) (x : V) (T : Addr) (σ : L2.St) (H : Hp), xs[i]? = some x → Pv i σ H → H T = none → g (.ref T) σ (upd H T (.tup [.int (i : Nat), x])) fun σ2 H2 => tb { D with nx := Pv (i + 1), ct := Pv (i + 1), bk := D.nx } σ2 H2) (hd : ∀ σ H, Pv xs.length σ H → D.nx σ H) :
    ∃ W : Nat → Nat → L2.St → Hp → Prop, (∃ m, W 0 m σ H) ∧ ∀ i m σ H, W i m σ H → ((Ite K a).stop i H ∧ D.nx σ H) ∨
      ((Ite K a).go i H ∧ ∃ N : L2.St → Hp → Prop, (∀ σ' H', N σ' H' → ∃ m', m' < m ∧ W (i + 1) m' σ' H') ∧ ∀ v H', (Ite K a).yld i H v H' → g v σ H' fun σ2 H2 => tb { D with nx := N, ct := N, bk := D.nx } σ2 H2) := by
  refine ⟨fun i m σ H => m + i = xs.length ∧ Pv i σ H, ⟨xs.length, rfl, h0⟩, fun i m σ H hW => ?_⟩
  obtain ⟨em, p⟩ := hW
  have q := hq i σ H p
  by_cases lt : i < xs.length
  · have ex : xs[i]? = some xs[i] := List.getElem?_eq_getElem lt
    refine .inr ⟨⟨xs, _, q, ex⟩, Pv (i + 1), fun σ' H' p' => ⟨m - 1, by omega, by omega, p'⟩, fun v H' hy => ?_⟩
    obtain ⟨T, x, rfl, nT, rfl, f⟩ := hy
    exact hs i x T σ H (f xs q) p nT
  · have ei : i = xs.length := by omega
    subst ei
    exact .inl ⟨⟨xs, q, Nat.le_refl _⟩, hd σ H p⟩

/-! ## repr of data, where no repr is under way -/
@[irreducible] def rReprD (K : PySem.W.Frag) : List V → Hp → VK → Prop := fun xs H Q => ∃ (a : Addr) (d : PyData), xs = [.ref a] ∧ Dp K H (.ref a) d ∧ d.showable = true ∧ d.hasDict = false ∧ d.depth ≤ 30 ∧ d.shown.length ≤ sizeLine ∧ Q (.str d.shown) H
theorem call_reprDK {X : Cx} {K : PySem.W.Frag} (hG : X.A.guards = some []) (hu : X.A.units + 64 < cLine) (h : X.K = K := by rfl) : CallR X (.builtin "repr") (rReprD K) := by
  subst h
  intro pins s σ H xs us Q I r h
  unfold rReprD at h
  obtain ⟨a, d, rfl, hd, hs, hn, hdp, hz, q⟩ := h
  obtain ⟨v, rfl, rv⟩ := vals1 r
  cases rv
  obtain ⟨as, rd⟩ := Dp.reads I d _ _ hd rfl
  refine repr_of_reads' rd hs (PyData.noDict_hsm hn) hG (by omega) (fun b o e => e) (fun h' t tk hk => ?_) hz
  exact ⟨.str d.shown, H, I.kept hk, ⟨_, rfl⟩, q⟩
/-! ## lists of ints as data -/
def dI (ns : List Int) : PyData := .list (ns.map .int)
theorem dpall_iv {K : PySem.W.Frag} {H : Hp} : ∀ ns : List Int, DpAll K H (iv ns) (ns.map .int)
  | [] => .nil
  | n :: r => .cons (.int n) (dpall_iv r)
theorem dp_iv {K : PySem.W.Frag} {H : Hp} {a : Addr} {ns : List Int} (h : SqL K H a (iv ns)) : Dp K H (.ref a) (dI ns) := .lst h (dpall_iv ns)
theorem can_ints : ∀ ns : List Int, PyData.canLayAll0 (ns.map .int) = true
  | [] => by simp [PyData.canLayAll0]
  | n :: r => by simp [PyData.canLayAll0, PyData.canLay0, can_ints r]
theorem dep_ints : ∀ ns : List Int, PyData.depthAll (ns.map .int) = 0
  | [] => by simp [PyData.depthAll]
  | n :: r => by simp [PyData.depthAll, PyData.depth, dep_ints r]
theorem eqv_ints : ∀ xs ys : List Int, PyData.eqvAll (xs.map .int) (ys.map .int) = decide (xs = ys)
  | [], [] => by simp [PyData.eqvAll]
  | [], _ :: _ => by simp [PyData.eqvAll]
  | _ :: _, [] => by simp [PyData.eqvAll]
  | x :: r, y :: t => by
    have ih := eqv_ints r t
    simp only [List.map_cons, PyData.eqvAll, PyData.eqv, ih, List.cons.injEq]
    by_cases e : x = y <;> by_cases e2 : r = t <;> simp [e, e2]
theorem shaped_dI (ns : List Int) : SeqAt.shaped (dI ns) = true := by
  unfold SeqAt.shaped dI
  simp only [PyData.canLay0, can_ints, PyData.depth, dep_ints]
  decide
theorem eqv_dI (xs ys : List Int) : PyData.eqv (dI xs) (dI ys) = decide (xs = ys) := by
  unfold dI
  simp only [PyData.eqv, eqv_ints]
theorem shown_ints_len : ∀ ns : List Int, (∀ n ∈ ns, n.natAbs.log2 < 1920) → ((PyData.shownAll (ns.map .int)).map (·.length)).sum ≤ 2000 * ns.length ∧ (PyData.shownAll (ns.map .int)).length = ns.length
  | [], _ => by simp [PyData.shownAll]
  | n :: r, h => by
    obtain ⟨h1, h2⟩ := shown_ints_len r fun m hm => h m (List.mem_cons_of_mem _ hm)
    have e := int_text_length_le (k := 1920) (by decide) (h n (List.mem_cons_self ..))
    have e2 : (PyData.shown (.int n)).length ≤ 2000 := by
      show (Str.ofString (toString n)).length ≤ 2000
      rw [PySem.ofString_length]
      omega
    simp only [List.map_cons, PyData.shownAll, List.sum_cons, List.length_cons]
    omega
theorem show_ints : ∀ ns : List Int, (∀ n ∈ ns, n.natAbs.log2 < 1920) → PyData.showableAll (ns.map .int) = true
  | [], _ => by simp [PyData.showableAll]
  | n :: r, h => by simp [PyData.showableAll, PyData.showable, h n (List.mem_cons_self ..), show_ints r fun m hm => h m (List.mem_cons_of_mem _ hm)]
theorem nod_ints : ∀ ns : List Int, PyData.hasDictAll (ns.map .int) = false
  | [] => by simp [PyData.hasDictAll]
  | n :: r => by simp [PyData.hasDictAll, PyData.hasDict, nod_ints r]
theorem r_eqI {K : PySem.W.Frag} {H : Hp} {a b : Addr} {xs ys : List Int} {Q : VK} (h1 : SqL K H a (iv xs)) (h2 : SqL K H b (iv ys)) (q : Q (.bl (decide (xs = ys))) H) : rEqQ K (.ref a) (.ref b) H Q :=
  rEqQ_of ⟨dI xs, dI ys, dp_iv h1, dp_iv h2, shaped_dI xs, shaped_dI ys, by rw [eqv_dI]; exact q⟩
theorem r_neI {K : PySem.W.Frag} {H : Hp} {a b : Addr} {xs ys : List Int} {Q : VK} (h1 : SqL K H a (iv xs)) (h2 : SqL K H b (iv ys)) (q : Q (.bl (!decide (xs = ys))) H) : rNeQ K (.ref a) (.ref b) H Q :=
  rNeQ_of ⟨dI xs, dI ys, dp_iv h1, dp_iv h2, shaped_dI xs, shaped_dI ys, by rw [eqv_dI]; exact q⟩
theorem r_repr {K : PySem.W.Frag} {H : Hp} {a : Addr} {ns : List Int} {Q : VK} (h1 : SqL K H a (iv ns)) (hl : ns.length ≤ 5000) (hz : ∀ n ∈ ns, n.natAbs.log2 < 1920) (q : Q (.str (dI ns).shown) H) : rReprD K [.ref a] H Q := by
  unfold rReprD
  refine ⟨a, dI ns, rfl, dp_iv h1, ?_, ?_, ?_, ?_, q⟩
  · simp only [dI, PyData.showable]
    exact show_ints ns hz
  · simp only [dI, PyData.hasDict]
    exact nod_ints ns
  · simp only [dI, PyData.depth, dep_ints]
    decide
  · obtain ⟨e1, e2⟩ := shown_ints_len ns hz
    have e3 := listText_len_le (PyData.shownAll (ns.map .int))
    simp only [dI, PyData.shown]
    rw [sizeLine_eq]
    omega
mutual
theorem dp_same {K : PySem.W.Frag} {H H' : Hp} (s : Same H H') : ∀ (d : PyData) (x : V), Dp K H x d → Dp K H' x d
  | .none, _, h => by cases h; exact .non
  | .bool _, _, h => by cases h; exact .bl _
  | .int _, _, h => by cases h; exact .int _
  | .str _, _, h => by cases h; exact .str _
  | .list ds, _, h => by
    cases h with
    | lst a b => exact .lst (s.seq a) (dpall_same s ds _ b)
  | .tuple ds, _, h => by
    cases h with
    | tup a b =>
      refine .tup ?_ (dpall_same s ds _ b)
      rcases a with (a | ⟨o, a⟩) | a
      · exact .inl (.inl (s _ _ a))
      · exact .inl (.inr ⟨o, s _ _ a⟩)
      · exact .inr a
  | .dict _, _, h => nomatch h
theorem dpall_same {K : PySem.W.Frag} {H H' : Hp} (s : Same H H') : ∀ (ds : List PyData) (xs : List V), DpAll K H xs ds → DpAll K H' xs ds
  | [], _, h => by cases h; exact .nil
  | d :: ds, _, h => by
    cases h with
    | cons a b => exact .cons (dp_same s d _ a) (dpall_same s ds _ b)
end
theorem dpall_len {K : PySem.W.Frag} {H : Hp} : ∀ (ds : List PyData) (xs : List V), DpAll K H xs ds → xs.length = ds.length
  | [], _, h => by cases h; rfl
  | d :: ds, _, h => by
    cases h with
    | cons a b => rw [List.length_cons, List.length_cons, dpall_len ds _ b]
theorem dpall_get {K : PySem.W.Frag} {H : Hp} : ∀ (ds : List PyData) (xs : List V), DpAll K H xs ds → ∀ (i : Nat) (d : PyData), ds[i]? = some d → ∃ x, xs[i]? = some x ∧ Dp K H x d
  | [], _, _, _, _, e => by simp at e
  | d :: ds, _, h, i, d', e => by
    cases h with
    | cons a b =>
      cases i with
      | zero =>
        have z : d = d' := by simpa using e
        subst z
        exact ⟨_, rfl, a⟩
      | succ i => exact dpall_get ds _ b i d' (by simpa using e)
theorem tyx_lst {K : PySem.W.Frag} {H : Hp} {a : Addr} {xs : List V} (h : SqL K H a xs) : TyX K H (.ref a) (.type "list") := by
  rcases h with (h | ⟨o, h⟩) | ⟨o, its, n, h1, h2, _⟩
  · exact .base (.lst h)
  · exact .base (.frz h)
  · exact .kList h1 h2
theorem tyx_tup {K : PySem.W.Frag} {H : Hp} {a : Addr} {xs : List V} (h : SqT K H a xs) : TyX K H (.ref a) (.type "tuple") := by
  rcases h with (h | ⟨o, h⟩) | ⟨o, its, n, h1, h2, _⟩
  · exact .base (.tup h)
  · exact .fTuple h
  · exact .kTuple h1 h2
theorem kit_no {K : PySem.W.Frag} : PySem.W.kitOne K (.type "int") (.type "bool") = some false ∧ PySem.W.kitOne K (.type "str") (.type "bool") = some false ∧ PySem.W.kitOne K (.type "list") (.type "bool") = some false ∧
    PySem.W.kitOne K (.type "bool") (.type "int") = some true ∧ PySem.W.kitOne K (.type "int") (.type "int") = some true := ⟨rfl, rfl, rfl, rfl, rfl⟩
/-! ## tests -/
theorem ifD {p A B : Prop} [Decidable p] (h1 : p → A) (h2 : ¬ p → B) : if decide p = true then A else B := by
  by_cases h : p
  · rw [decide_eq_true h]; exact iteT (h1 h)
  · rw [decide_eq_false h]; exact iteF (h2 h)
theorem ifN {p A B : Prop} [Decidable p] (h1 : ¬ p → A) (h2 : p → B) : if (!decide p) = true then A else B := by
  by_cases h : p
  · rw [decide_eq_true h]; exact iteF (h2 h)
  · rw [decide_eq_false h]; exact iteT (h1 h)
theorem ifI {i j : Int} {A B : Prop} (h1 : i = j → A) (h2 : i ≠ j → B) : if decide (V.int i = V.int j) = true then A else B :=
  ifD (fun e => h1 (V.int.inj e)) fun e => h2 fun z => e (congrArg V.int z)
theorem ifIN {i j : Int} {A B : Prop} (h1 : i ≠ j → A) (h2 : i = j → B) : if (!decide (V.int i = V.int j)) = true then A else B :=
  ifN (fun e => h1 fun z => e (congrArg V.int z)) fun e => h2 (V.int.inj e)
/-! ## defs that may ask for repr: called where no repr is under way -/
structure FnG (P : Program) (w : World) (K : PySem.W.Frag) (mg : Str → Option Value) (base : Heap) (CX : CXT) (k : Nat) (f : Addr) (fd : FuncData) (ps : List Str) (sp : Sp) : Prop where
  len : ∀ vs H Q E, sp vs H Q E → vs.length = ps.length
  run : ∀ (A : Around) (outer : List Env) (s : Shared) (H : Hp) (args : Args) (us : List Value) (vs : List V) (Q : VK) (E : XK), Room k A → A.guards = some [] →
    Env0 P w K mg base A outer s H → BindsTo s fd args (ps.zip us) → Vals vs us → sp vs H Q E → codeAny (model P w) A (.call (.ref f) args) (CR CX outer P w H s Q E) s
section
variable {P : Program} {w : World} {K : PySem.W.Frag} {mg : Str → Option Value} {base : Heap} {CX : CXT}
theorem FnG.of {k : Nat} {f : Addr} {fd : FuncData} {ps : List Str} {sp : Sp} (F : FnOk P w K mg base CX k f fd ps sp) : FnG P w K mg base CX k f fd ps sp :=
  ⟨F.len, fun A outer s H args us vs Q E hr _ => F.run A outer s H args us vs Q E hr⟩
theorem fnG_of {k : Nat} {f : Addr} {nm qual : Str} {pms : Arguments} {body : List Stmt} {sc : Scope} {dV kV dc pm cdv ct oc : Value} {an od : Option Addr} {sl : Array (Option Value)} {N ps : List Str} {sp : Sp}
    (lk : K.lookup f = some ⟨oc, od, .func (PySem.W.fnOf nm qual pms body sc dV kV dc pm an cdv ct), sl⟩) (hcd : PySem.W.codeIn K cdv qual = true) (S : FnScope N ps sc) (len : ∀ vs H Q E, sp vs H Q E → vs.length = ps.length)
    (hb : ∀ (A : Around) (outer : List Env) (s : Shared) (H : Hp) (vs : List V) (Q : VK) (E : XK), A.guards = some [] → Room k (A.deeper (envOfC qual sc s.heap.objs.size f cdv)) → sp vs H Q E →
      ∃ t, PSs (cxOf CX P w K mg base N qual sc f cdv A outer s H E) body t ∧ t { nx := fun _ H' => Q .non H', rt := Q } (start N vs) H) :
    FnG P w K mg base CX (k + 1) f (PySem.W.fnOf nm qual pms body sc dV kV dc pm an cdv ct) ps sp := by
  refine ⟨len, ?_⟩
  intro A out s H args us vs Q E room hG env bnd rel pre
  have ln := len _ _ _ _ pre
  have kin : K.In s.heap := env.mod.kin.keeps fun b o e => (env.bs b o e).1
  have nl : s.heap.NoLimit := env.mod.nolimit.keeps fun b o e => (env.bs b o e).1
  have kinds : ∀ y ∈ ps.zip us, sc.names.lookup y.1 = some .local ∨ (sc.names.lookup y.1 = some .cell ∧ ((cellsFrom (s.heap.objs.size + 1) sc.names []).lookup y.1).isSome = true) := by
    rintro ⟨x, v⟩ hy
    rcases S.par x (List.of_mem_zip hy).1 with z | z
    · exact .inl z
    · exact .inr ⟨z, PySem.W.cellsFrom_some _ _ _ (.inl z)⟩
  refine codeAny_call_function room.depth (kin _ _ lk) rfl S.co S.gen rfl (PySem.W.codeRec_of kin hcd) (bnd _ _ _ _ ?_)
  refine wpAny_newFunctionEnv_cells S.kind kinds fun en hen s1 x1 => ?_
  cases hen
  refine ⟨nl.keeps x1.toInCall.keep, codeAny_func ?_⟩
  obtain ⟨t, ht, hq⟩ := hb A out s H vs Q E hG (room.deeper _) pre
  have J0 : Inv (cxOf CX P w K mg base N qual sc f cdv A out s H E) [] (start N vs) H s1 := inv_start S room.hd env ln rel x1
  refine wpAny_mono (ht.run [] s1 (start N vs) H _ J0 hq) (fun fl s2 hs => ?_) fun e s2 hs => hs
  cases fl with
  | ret u =>
    obtain ⟨v, τ, H2, J, rv, q⟩ := hs
    exact ⟨v, H2, J.os, J.bare, J.base, J.hok, rv, q⟩
  | next =>
    obtain ⟨τ, H2, J, q⟩ := hs
    exact ⟨V.non, H2, J.os, J.bare, J.base, J.hok, rfl, q⟩
  | brk =>
    obtain ⟨_, _, _, q⟩ := hs
    cases q
  | cont =>
    obtain ⟨_, _, _, q⟩ := hs
    cases q
end
/-! ## a def of the text: where it stands; its promise -/
structure DefAt (K : PySem.W.Frag) (mg : Str → Option Value) (x : Str) (st : Stmt) (ps : List Str) : Prop where
  ex : ∃ (f : Addr) (fd : FuncData), Fun K x x st f fd ∧ mg x = some (.ref f) ∧ Binds K fd ps []
/-- a def that may be called by its name; dvs: the defaults that fill up -/
structure Cal (P : Program) (w : World) (K : PySem.W.Frag) (mg : Str → Option Value) (base : Heap) (k : Nat) (x : Str) (sp : Sp) (dvs : List V) : Prop where
  ex : ∃ (f : Addr) (fd : FuncData) (ps : List Str) (ds : List Value), FnOk P w K mg base CX0 k f fd ps sp ∧ mg x = some (.ref f) ∧ PySem.W.keepIn K (.ref f) = true ∧ L2.Binds K fd ps ds ∧ Vals dvs ds
/-- a def that may be called by its name; it may ask for repr -/
structure CalG (P : Program) (w : World) (K : PySem.W.Frag) (mg : Str → Option Value) (base : Heap) (k : Nat) (x : Str) (sp : Sp) : Prop where
  ex : ∃ (f : Addr) (fd : FuncData) (ps : List Str), FnG P w K mg base CX0 k f fd ps sp ∧ mg x = some (.ref f) ∧ PySem.W.keepIn K (.ref f) = true ∧ Binds K fd ps []
section
variable {P : Program} {w : World} {K : PySem.W.Frag} {mg : Str → Option Value} {base : Heap}
theorem DefAt.cal {x : Str} {st : Stmt} {ps N : List Str} {k : Nat} {sp : Sp} (D : DefAt K mg x st ps) (S : FnScope N ps (defScope st)) (len : ∀ vs H Q E, sp vs H Q E → vs.length = ps.length)
    (hb : ∀ (f : Addr) (cdv : Value) (A : Around) (outer : List Env) (s : Shared) (H : Hp) (vs : List V) (Q : VK) (E : XK), Room k (A.deeper (envOfC x (defScope st) s.heap.objs.size f cdv)) → sp vs H Q E →
      ∃ t, PSs (cxOf CX0 P w K mg base N x (defScope st) f cdv A outer s H E).nox (defBody st) t ∧ t { nx := fun _ H' => Q .non H', rt := Q } (start N vs) H) : Cal P w K mg base (k + 1) x sp [] := by
  obtain ⟨f, fd, F, hm, b⟩ := D.ex
  exact ⟨f, fd, ps, [], F.ok S len fun cdv A outer s H vs Q E => hb f cdv A outer s H vs Q E, hm, F.kp, b, .nil⟩
theorem DefAt.calG {x : Str} {st : Stmt} {ps N : List Str} {k : Nat} {sp : Sp} (D : DefAt K mg x st ps) (S : FnScope N ps (defScope st)) (len : ∀ vs H Q E, sp vs H Q E → vs.length = ps.length)
    (hb : ∀ (f : Addr) (cdv : Value) (A : Around) (outer : List Env) (s : Shared) (H : Hp) (vs : List V) (Q : VK) (E : XK), A.guards = some [] → Room k (A.deeper (envOfC x (defScope st) s.heap.objs.size f cdv)) → sp vs H Q E →
      ∃ t, PSs (cxOf CX0 P w K mg base N x (defScope st) f cdv A outer s H E).nox (defBody st) t ∧ t { nx := fun _ H' => Q .non H', rt := Q } (start N vs) H) : CalG P w K mg base (k + 1) x sp := by
  obtain ⟨f, fd, ⟨⟨oc, od, kV, doc, pm, an, cdv, ct, osl, rfl, lk, hcd⟩, kp⟩, hm, b⟩ := D.ex
  refine ⟨f, _, ps, fnG_of lk hcd S len fun A outer s H vs Q E hG hr hsp => ?_, hm, kp, b⟩
  obtain ⟨t, h, q⟩ := hb f cdv A outer s H vs Q E hG hr hsp
  exact ⟨t, h.nox, q⟩
theorem okG {x qual : Str} {st : Stmt} {f : Addr} {fd : FuncData} {N ps : List Str} {k : Nat} {sp : Sp} (F : Fun K x qual st f fd) (S : FnScope N ps (defScope st)) (len : ∀ vs H Q E, sp vs H Q E → vs.length = ps.length)
    (hb : ∀ (cdv : Value) (A : Around) (outer : List Env) (s : Shared) (H : Hp) (vs : List V) (Q : VK) (E : XK), A.guards = some [] → Room k (A.deeper (envOfC qual (defScope st) s.heap.objs.size f cdv)) → sp vs H Q E →
      ∃ t, PSs (cxOf CX0 P w K mg base N qual (defScope st) f cdv A outer s H E).nox (defBody st) t ∧ t { nx := fun _ H' => Q .non H', rt := Q } (start N vs) H) : FnG P w K mg base CX0 (k + 1) f fd ps sp := by
  obtain ⟨⟨oc, od, kV, doc, pm, an, cdv, ct, osl, rfl, lk, hcd⟩, kp⟩ := F
  refine fnG_of lk hcd S len fun A outer s H vs Q E hG hr hsp => ?_
  obtain ⟨t, h, q⟩ := hb cdv A outer s H vs Q E hG hr hsp
  exact ⟨t, h.nox, q⟩
theorem calG_of {x : Str} {k : Nat} {sp : Sp} (c : Cal P w K mg base k x sp []) : CalG P w K mg base k x sp := by
  obtain ⟨f, fd, ps, ds, F, hm, kp, b, d⟩ := c.ex
  cases d
  exact ⟨f, fd, ps, FnG.of F, hm, kp, b⟩
theorem Cal.imp {x : Str} {k j : Nat} {sp sp' : Sp} {dvs : List V} (c : Cal P w K mg base k x sp dvs) (hk : k ≤ j) (h : ∀ vs H Q E, sp' vs H Q E → sp vs H Q E) : Cal P w K mg base j x sp' dvs := by
  obtain ⟨f, fd, ps, ds, F, hm, kp, b, d⟩ := c.ex
  exact ⟨f, fd, ps, ds, (F.mono hk).imp h, hm, kp, b, d⟩
end
section
variable {X : Cx} {k j : Nat} {x : Str} {sp : Sp} {p pos : Pos} {e : Expr} {es : List Expr} {t : TA}
theorem pe_c {dvs : List V} (c : Cal X.prog X.w X.K X.mg X.base k x sp dvs) (hr : Room j X.A) (hk : k ≤ j) (hg : Gl X x) (ha : PA X (e :: es) t)
    (hdb : (x == ("__debug__" : Str)) = false := by decide) (he : starEach (e :: es) X.env = (false, eval e X.env) :: starEach es X.env := by rfl) (hpl : (backTo pos (starEach es X.env)).any (·.1) = false := by rfl) :
    PE X (.Call (.Name x p) (e :: es) [] pos) (tCall sp dvs E0 t) := by
  obtain ⟨f, fd, ps, ds, F, hm, kp, bd, vd⟩ := c.ex
  exact L2.pe_call F (hr.mono hk) hg hm kp bd vd pass0 ha hdb he hpl
/-- a call of a def that may ask for repr -/
theorem pe_cG (c : CalG X.prog X.w X.K X.mg X.base k x sp) (hG : X.A.guards = some []) (hr : Room j X.A) (hk : k ≤ j) (hg : Gl X x) (ha : PA X (e :: es) t)
    (hdb : (x == ("__debug__" : Str)) = false := by decide) (he : starEach (e :: es) X.env = (false, eval e X.env) :: starEach es X.env := by rfl) (hpl : (backTo pos (starEach es X.env)).any (·.1) = false := by rfl) :
    PE X (.Call (.Name x p) (e :: es) [] pos) (tCall sp [] E0 t) := by
  obtain ⟨f, fd, ps, F, hm, kp, b⟩ := c.ex
  refine ⟨fun pins s σ H Q I h => wpAny_Call_Name_kw (ld_glob I hg hm ?_ hdb)⟩
  refine PySem.W.callWith_K (h₀ := X.base) I.ok.mod.kin kp (thn (ha.run pos pins s σ H _ I h) fun us s1 hx => ?_) he hpl
  obtain ⟨vs, H1, I1, r, q⟩ := hx
  rw [List.append_nil] at q
  have ln : us.length = ps.length := by rw [← r.length]; exact F.len _ _ _ _ q
  have bb : BindsTo s1 fd ⟨us, []⟩ (ps.zip us) := by
    have z := b s1 us I1.kIn (by rw [List.append_nil]; exact ln)
    rw [List.append_nil] at z
    exact z
  refine ⟨I1.kIn, wpAny_call (codeAny_mono (F.run X.A X.stack s1 H1 ⟨us, []⟩ us vs Q E0 (hr.mono hk) hG I1.env0 bb r q) fun r s' hq => ?_)⟩
  cases r with
  | error e => exact False.elim hq
  | ok fl =>
    cases fl with
    | ret u => exact I1.after hq
    | next => exact False.elim hq
    | brk => exact False.elim hq
    | cont => exact False.elim hq
end
/-! ## methods, properties, new objects -/
structure Met (P : Program) (w : World) (K : PySem.W.Frag) (mg : Str → Option Value) (base : Heap) (k : Nat) (C : Addr) (m : Str) (sp : Sp) : Prop where
  ex : ∃ (f : Addr) (fd : FuncData) (ps : List Str), Cls K C ∧ Meth K C m f ∧ FnOk P w K mg base CX0 k f fd ps sp ∧ L2.Binds K fd ps []
structure Prp (P : Program) (w : World) (K : PySem.W.Frag) (mg : Str → Option Value) (base : Heap) (k : Nat) (C : Addr) (m : Str) (sp : Sp) : Prop where
  ex : ∃ (f p : Addr) (fd : FuncData) (ps : List Str), Cls K C ∧ PropOf K C m p f ∧ FnOk P w K mg base CX0 k f fd ps sp ∧ L2.Binds K fd ps []
structure Mak (P : Program) (w : World) (K : PySem.W.Frag) (mg : Str → Option Value) (base : Heap) (k : Nat) (x : Str) (C : Addr) (sp : Sp) : Prop where
  ex : ∃ (f : Addr) (fd : FuncData) (ps : List Str), Mk K C f ∧ FnOk P w K mg base CX0 k f fd ps sp ∧ mg x = some (.ref C) ∧ L2.Binds K fd ps []
section
variable {X : Cx} {k j : Nat} {C : Addr} {x m : Str} {sp : Sp} {p pos apos : Pos} {e o : Expr} {es : List Expr} {ta : TE} {t : TA}
theorem pe_m {pl : Sem Bool} (c : Met X.prog X.w X.K X.mg X.base k C m sp) (hr : Room j X.A) (hk : k ≤ j) (he : PE X o ta) (ha : PA X (e :: es) t)
    (ht : eval (.Call (.Attribute o m apos) (e :: es) [] pos) X.env = (do
      let ov ← eval o X.env
      standAt apos.atName
      let (f, first) ← holding [ov] (getMethod ov m pl)
      callWith pos f first (backTo pos (starEach (e :: es) X.env)) (backToKw pos (keywordEach [] X.env))) := by rfl)
    (hst : starEach (e :: es) X.env = (false, eval e X.env) :: starEach es X.env := by rfl) (hpl : (backTo pos (starEach es X.env)).any (·.1) = false := by rfl) : PE X (.Call (.Attribute o m apos) (e :: es) [] pos) (tMeth C m sp [] E0 ta t) := by
  obtain ⟨f, fd, ps, c1, c2, F, b⟩ := c.ex
  exact L2.pe_meth (pl := pl) he c1 c2 F (hr.mono hk) b .nil pass0 ha hst hpl ht
theorem pe_mk (c : Mak X.prog X.w X.K X.mg X.base k x C sp) (hr : Room j X.A) (hk : k + 1 ≤ j) (hg : Gl X x) (ha : PA X (e :: es) t)
    (hdb : (x == ("__debug__" : Str)) = false := by decide) (he : starEach (e :: es) X.env = (false, eval e X.env) :: starEach es X.env := by rfl) (hpl : (backTo pos (starEach es X.env)).any (·.1) = false := by rfl) :
    PE X (.Call (.Name x p) (e :: es) [] pos) (tMake C sp [] E0 t) := by
  obtain ⟨f, fd, ps, M, F, hm, b⟩ := c.ex
  exact L2.pe_make M F (hr.mono hk) hg hm b .nil pass0 ha hdb he hpl
theorem pe_p (c : Prp X.prog X.w X.K X.mg X.base k C m sp) (hr : Room j X.A) (hk : k + 1 ≤ j) (he : PE X e ta) (hab : attributeBase e m X.env (eval e X.env) = eval e X.env := by rfl) : PE X (.Attribute e m pos) (tProp C sp [] E0 ta) := by
  obtain ⟨f, q, fd, ps, c1, c2, F, b⟩ := c.ex
  exact L2.pe_prop he c1 c2 F (hr.mono hk) b .nil pass0 hab
end
section
variable {X : Cx} {K : PySem.W.Frag} {C : Addr} {k j : Nat} {m f : Str} {sp : Sp} {ta tv : TE} {o value : Expr} {pos pos' apos tpos : Pos}
theorem pe_m0 {pl : Sem Bool} (c : Met X.prog X.w X.K X.mg X.base k C m sp) (hr : Room j X.A) (hk : k ≤ j) (he : PE X o ta)
    (ht : eval (.Call (.Attribute o m apos) [] [] pos) X.env = (do
      let ov ← eval o X.env
      standAt apos.atName
      let (f, first) ← holding [ov] (getMethod ov m pl)
      callWith pos f first (backTo pos (starEach [] X.env)) (backToKw pos (keywordEach [] X.env))) := by rfl) : PE X (.Call (.Attribute o m apos) [] [] pos) (tMeth C m sp [] E0 ta tNil) := by
  obtain ⟨f, fd, ps, c1, c2, F, b⟩ := c.ex
  exact L2.pe_meth0 (pl := pl) he c1 c2 F (hr.mono hk) b .nil pass0 ht
theorem ps_fldK (ha : PE X o ta) (hv : PE X value tv) (hs : swapsWith value (some (.Attribute o f pos')) pos.line X.env = pure false) (h : X.K = K := by rfl) : PS X (.Assign [.Attribute o f pos'] value pos) (sFld K ta tv f) := by
  subst h
  exact ps_fld ha hv hs
theorem ps_fldaugK {op : Operator} {rd : V → V → Hp → VK → Prop} (ha : PE X o ta) (hv : PE X value tv) (hop : InOp X op rd) (h : X.K = K := by rfl) : PS X (.AugAssign (.Attribute o f tpos) op value pos) (sFldAug K ta tv rd f) := by
  subst h
  exact ps_fldaug ha hv hop
end
/-- a method of the text -/
structure MetAt (K : PySem.W.Frag) (C : Addr) (m qual : Str) (st : Stmt) (ps : List Str) : Prop where
  ex : ∃ (f : Addr) (fd : FuncData), Fun K m qual st f fd ∧ Meth K C m f ∧ L2.Binds K fd ps []
section
variable {P : Program} {w : World} {K : PySem.W.Frag} {mg : Str → Option Value} {base : Heap} {C : Addr} {m x qual : Str} {st : Stmt} {ps N : List Str} {k : Nat} {sp : Sp}
theorem MetAt.met (D : MetAt K C m qual st ps) (cl : Cls K C) (S : FnScope N ps (defScope st)) (len : ∀ vs H Q E, sp vs H Q E → vs.length = ps.length)
    (hb : ∀ (f : Addr) (cdv : Value) (A : Around) (outer : List Env) (s : Shared) (H : Hp) (vs : List V) (Q : VK) (E : XK), Room k (A.deeper (envOfC qual (defScope st) s.heap.objs.size f cdv)) → sp vs H Q E →
      ∃ t, PSs (cxOf CX0 P w K mg base N qual (defScope st) f cdv A outer s H E).nox (defBody st) t ∧ t { nx := fun _ H' => Q .non H', rt := Q } (start N vs) H) : Met P w K mg base (k + 1) C m sp := by
  obtain ⟨f, fd, F, hm, b⟩ := D.ex
  exact ⟨f, fd, ps, cl, hm, F.ok S len fun cdv A outer s H vs Q E => hb f cdv A outer s H vs Q E, b⟩
end
/-- a class's __init__ of the text -/
structure IniAt (K : PySem.W.Frag) (mg : Str → Option Value) (C : Addr) (x qual : Str) (st : Stmt) (ps : List Str) : Prop where
  ex : ∃ (f : Addr) (fd : FuncData), Fun K "__init__" qual st f fd ∧ Mk K C f ∧ mg x = some (.ref C) ∧ L2.Binds K fd ps []
/-- a property of the text -/
structure PrpAt (K : PySem.W.Frag) (C : Addr) (m qual : Str) (st : Stmt) (ps : List Str) : Prop where
  ex : ∃ (f p : Addr) (fd : FuncData), Fun K m qual st f fd ∧ PropOf K C m p f ∧ L2.Binds K fd ps []
section
variable {P : Program} {w : World} {K : PySem.W.Frag} {mg : Str → Option Value} {base : Heap} {C : Addr} {m x qual : Str} {st : Stmt} {ps N : List Str} {k : Nat} {sp : Sp}
theorem IniAt.mak (D : IniAt K mg C x qual st ps) (S : FnScope N ps (defScope st)) (len : ∀ vs H Q E, sp vs H Q E → vs.length = ps.length)
    (hb : ∀ (f : Addr) (cdv : Value) (A : Around) (outer : List Env) (s : Shared) (H : Hp) (vs : List V) (Q : VK) (E : XK), Room k (A.deeper (envOfC qual (defScope st) s.heap.objs.size f cdv)) → sp vs H Q E →
      ∃ t, PSs (cxOf CX0 P w K mg base N qual (defScope st) f cdv A outer s H E).nox (defBody st) t ∧ t { nx := fun _ H' => Q .non H', rt := Q } (start N vs) H) : Mak P w K mg base (k + 1) x C sp := by
  obtain ⟨f, fd, F, hm, hg, b⟩ := D.ex
  exact ⟨f, fd, ps, hm, F.ok S len fun cdv A outer s H vs Q E => hb f cdv A outer s H vs Q E, hg, b⟩
theorem PrpAt.prp (D : PrpAt K C m qual st ps) (cl : Cls K C) (S : FnScope N ps (defScope st)) (len : ∀ vs H Q E, sp vs H Q E → vs.length = ps.length)
    (hb : ∀ (f : Addr) (cdv : Value) (A : Around) (outer : List Env) (s : Shared) (H : Hp) (vs : List V) (Q : VK) (E : XK), Room k (A.deeper (envOfC qual (defScope st) s.heap.objs.size f cdv)) → sp vs H Q E →
      ∃ t, PSs (cxOf CX0 P w K mg base N qual (defScope st) f cdv A outer s H E).nox (defBody st) t ∧ t { nx := fun _ H' => Q .non H', rt := Q } (start N vs) H) : Prp P w K mg base (k + 1) C m sp := by
  obtain ⟨f, p, fd, F, hm, b⟩ := D.ex
  exact ⟨f, p, fd, ps, cl, hm, F.ok S len fun cdv A outer s H vs Q E => hb f cdv A outer s H vs Q E, b⟩
end
/-- all but o stands -/
def But (o : Addr) (H H' : Hp) : Prop := ∀ b u, b ≠ o → H b = some u → H' b = some u
theorem But.refl (o : Addr) (H : Hp) : But o H H := fun _ _ _ h => h
theorem But.trans {o : Addr} {H H1 H2 : Hp} (a : But o H H1) (b : But o H1 H2) : But o H H2 := fun c u n h => b c u n (a c u n h)
theorem But.of {o : Addr} {H H1 : Hp} (s : Same H H1) : But o H H1 := fun b u _ h => s b u h
theorem But.put {o : Addr} {H : Hp} {u : HO} : But o H (upd H o u) := fun b x n h => by
  rw [upd_ne n]
  exact h
theorem But.seq {K : PySem.W.Frag} {o a : Addr} {H H' : Hp} {xs : List V} (b : But o H H') (n : a ≠ o) (h : H a = some (.lst xs)) : SqL K H' a xs := seqL_of (b a _ n h)
theorem Sep.but {R : Rg} {G H H' : Hp} {o : Addr} {u u' : HO} (s : Sep R G H) (h : G o = some u) (b : But o H H') (e : H' o = some u') : Sep R (upd G o u') H' := by
  have no : ∀ a, R.S a → a ≠ o := fun a ha z => by
    have q := s.off a ha
    rw [z, h] at q
    cases q
  refine ⟨R.loc H _ (fun a ha => ?_) s.inv, fun c x q => ?_, fun a ha => by rw [upd_ne (no a ha)]; exact s.off a ha⟩
  · cases q : H a with
    | none => exact absurd q (R.has H a s.inv ha)
    | some z => exact b a z (no a ha) q
  · by_cases hc : c = o
    · rw [hc, upd_same] at q
      rw [hc, e]
      exact q
    · rw [upd_ne hc] at q
      exact b c x hc (s.same c x q)

theorem Sep.add {R : Rg} {G0 H0 G H : Hp} {l : Addr} {u : HO} (s0 : Sep R G0 H0) (n : H0 l = none) (s : Sep R G H) (e : H l = some u) : Sep R (upd G l u) H := by
  have nl : ∀ a, R.S a → a ≠ l := fun a ha z => R.has H0 a s0.inv ha (by rw [z]; exact n)
  refine ⟨s.inv, fun b x q => ?_, fun a ha => by rw [upd_ne (nl a ha)]; exact s.off a ha⟩
  by_cases hb : b = l
  · rw [hb, upd_same] at q
    rw [hb, e]
    exact q
  · rw [upd_ne hb] at q
    exact s.same b x q

/-! ## calls by keywords alone -/
/-- a def called with the keywords ks alone: sp speaks of their values -/
structure CalK (P : Program) (w : World) (K : PySem.W.Frag) (mg : Str → Option Value) (base : Heap) (k : Nat) (x : Str) (ks : List Str) (sp : Sp) : Prop where
  ex : ∃ (f : Addr) (fd : FuncData) (ps : List Str) (spf : Sp) (g : List Value → List Value → List Value) (gV : List V → List V → List V),
    FnOk P w K mg base CX0 k f fd ps spf ∧ mg x = some (.ref f) ∧ PySem.W.keepIn K (.ref f) = true ∧ KBn K fd ps 0 ks g gV ∧ ∀ zs H Q E, sp zs H Q E → zs.length = ks.length ∧ spf (gV [] zs) H Q E
def tCk (sp : Sp) (tk : TA) : TE := fun σ H Q => tk σ H fun zs H1 => sp zs H1 Q E0
section
variable {X : Cx} {k j : Nat} {x : Str} {ks : List Str} {sp : Sp} {p pos : Pos} {kws : List Keyword} {tk : TA}
theorem pe_ck (c : CalK X.prog X.w X.K X.mg X.base k x ks sp) (hr : Room j X.A) (hk : k ≤ j) (hg : Gl X x) (hkw : PK X kws tk)
    (hall : (backToKw pos (keywordEach kws X.env)).all (·.1.isSome) = true := by rfl) (hks : (backToKw pos (keywordEach kws X.env)).filterMap (·.1) = ks := by rfl) (hdb : (x == ("__debug__" : Str)) = false := by decide)
    (hpl : ((backTo pos (starEach [] X.env)).any (·.1) || (backToKw pos (keywordEach kws X.env)).any (·.1.isNone)) = false := by rfl) : PE X (.Call (.Name x p) [] kws pos) (tCk sp tk) := by
  obtain ⟨f, fd, ps, spf, g, gV, F, hm, kp, hb, hs⟩ := c.ex
  refine ⟨fun pins s σ H Q I h => wpAny_Call_Name_kw (ld_glob I hg hm ?_ hdb)⟩
  refine PySem.W.callWith_KW0 (h₀ := X.base) I.ok.mod.kin kp hall (thn (hkw.run pos pins s σ H _ I h) fun ws s1 hx => ?_) hpl
  obtain ⟨zs, H1, I1, rz, q⟩ := hx
  obtain ⟨lz, q⟩ := hs _ _ _ _ q
  refine ⟨I1.kIn, ?_⟩
  rw [hks]
  exact run_fnN F (hr.mono hk) hb pass0 I1 .nil rz rfl lz q
end

/-! ## a def with defaults, called by place or by keywords -/
section
variable {P : Program} {w : World} {K : PySem.W.Frag} {mg : Str → Option Value} {base : Heap} {x qual : Str} {pms : Arguments} {body : List Stmt} {sc : Scope} {dvs : List V} {f : Addr} {fd : FuncData} {ps ks : List Str}
/-- all parameters by keywords; g brings the values in the parameters' order -/
theorem kbn_dflt (F : FunD K x qual pms body sc dvs [] f fd) (hd : dvs ≠ []) (g : {α : Type} → List α → List α) (hg : ∀ {vs : List V} {us : List Value}, Vals vs us → Vals (g vs) (g us))
    (h : ∀ (T : Addr) (kV doc pm : Value) (an : Option Addr) (cdv ct : Value) (ws its : List Value), ws.length = ks.length → its.length = dvs.length →
      ∃ k, bindArgs (PySem.W.fnOf x qual pms body sc (.ref T) kV doc pm an cdv ct) ⟨[], ks.zip ws⟩ = seqItems? (.ref T) >>= k ∧ k (some its.toArray) = pure (ps.zip (g ws))) : KBn K fd ps 0 ks (fun _ ws => g ws) (fun _ zs => g zs) := by
  obtain ⟨oc, od, dV, kV, doc, pm, an, cdv, ct, osl, rfl, lk, hcd, hD, hK⟩ := F.ex
  rcases hD with ⟨e, _⟩ | ⟨_, T, o, its, m, rfl, lT, oT, rT⟩
  · exact absurd e hd
  · refine ⟨fun s us ws X l1 l2 => ?_, fun r1 r2 => hg r2⟩
    cases us with
    | cons u us => cases l1
    | nil =>
      obtain ⟨k, e1, e2⟩ := h T kV doc pm an cdv ct ws its l2 rT.length.symm
      refine BindsTo.of_looks fun M => ?_
      rw [e1]
      exact looks_items X lT oT (.of_pure e2)
/-- .. of a def without defaults -/
theorem kbn_plain {st : Stmt} (F : Fun K x qual st f fd) (g : {α : Type} → List α → List α) (hg : ∀ {vs : List V} {us : List Value}, Vals vs us → Vals (g vs) (g us))
    (h : ∀ (kV doc pm : Value) (an : Option Addr) (cdv ct : Value) (ws : List Value), ws.length = ks.length →
      bindArgs (PySem.W.fnOf x qual (defArgs st) (defBody st) (defScope st) .none kV doc pm an cdv ct) ⟨[], ks.zip ws⟩ = pure (ps.zip (g ws))) : KBn K fd ps 0 ks (fun _ ws => g ws) (fun _ zs => g zs) := by
  obtain ⟨oc, od, kV, doc, pm, an, cdv, ct, osl, rfl, lk, hcd⟩ := F.ex
  refine ⟨fun s us ws X l1 l2 => ?_, fun r1 r2 => hg r2⟩
  cases us with
  | cons u us => cases l1
  | nil => exact .of_eq (h kV doc pm an cdv ct ws l2)
theorem calK_mk {k : Nat} {spf sp : Sp} {g : List Value → List Value → List Value} {gV : List V → List V → List V} (F : FnOk P w K mg base CX0 k f fd ps spf) (hm : mg x = some (.ref f)) (kp : PySem.W.keepIn K (.ref f) = true) (b : KBn K fd ps 0 ks g gV)
    (h : ∀ zs H Q E, sp zs H Q E → zs.length = ks.length ∧ spf (gV [] zs) H Q E) : CalK P w K mg base k x ks sp := ⟨f, fd, ps, spf, g, gV, F, hm, kp, b, h⟩
end
/-- a def without defaults that is called by place and by keywords -/
structure Def2 (P : Program) (w : World) (K : PySem.W.Frag) (mg : Str → Option Value) (base : Heap) (k : Nat) (x : Str) (st : Stmt) (ps : List Str) (sp : Sp) : Prop where
  ex : ∃ (f : Addr) (fd : FuncData), Fun K x x st f fd ∧ mg x = some (.ref f) ∧ Binds K fd ps [] ∧ FnOk P w K mg base CX0 k f fd ps sp
section
variable {P : Program} {w : World} {K : PySem.W.Frag} {mg : Str → Option Value} {base : Heap} {x : Str} {st : Stmt} {ps ks N : List Str} {k : Nat} {sp sp' : Sp}
theorem DefAt.two (D : DefAt K mg x st ps) (S : FnScope N ps (defScope st)) (len : ∀ vs H Q E, sp vs H Q E → vs.length = ps.length)
    (hb : ∀ (f : Addr) (cdv : Value) (A : Around) (outer : List Env) (s : Shared) (H : Hp) (vs : List V) (Q : VK) (E : XK), Room k (A.deeper (envOfC x (defScope st) s.heap.objs.size f cdv)) → sp vs H Q E →
      ∃ t, PSs (cxOf CX0 P w K mg base N x (defScope st) f cdv A outer s H E).nox (defBody st) t ∧ t { nx := fun _ H' => Q .non H', rt := Q } (start N vs) H) : Def2 P w K mg base (k + 1) x st ps sp := by
  obtain ⟨f, fd, F, hm, b⟩ := D.ex
  exact ⟨f, fd, F, hm, b, F.ok S len fun cdv A outer s H vs Q E => hb f cdv A outer s H vs Q E⟩
theorem Def2.cal (D : Def2 P w K mg base k x st ps sp) : Cal P w K mg base k x sp [] := by
  obtain ⟨f, fd, F, hm, b, ok⟩ := D.ex
  exact ⟨f, fd, ps, [], ok, hm, F.kp, b, .nil⟩
theorem Def2.calK (D : Def2 P w K mg base k x st ps sp) (g : {α : Type} → List α → List α) (hg : ∀ {vs : List V} {us : List Value}, Vals vs us → Vals (g vs) (g us))
    (h : ∀ (kV doc pm : Value) (an : Option Addr) (cdv ct : Value) (ws : List Value), ws.length = ks.length →
      bindArgs (PySem.W.fnOf x x (defArgs st) (defBody st) (defScope st) .none kV doc pm an cdv ct) ⟨[], ks.zip ws⟩ = pure (ps.zip (g ws))) (hs : ∀ zs H Q E, sp' zs H Q E → zs.length = ks.length ∧ sp (g zs) H Q E) : CalK P w K mg base k x ks sp' := by
  obtain ⟨f, fd, F, hm, b, ok⟩ := D.ex
  exact calK_mk ok hm F.kp (kbn_plain F g hg h) hs
end
theorem perm_sorted_eq : ∀ {xs ys : List Int}, xs.Perm ys → xs.Pairwise (· ≤ ·) → ys.Pairwise (· ≤ ·) → xs = ys
  | [], ys, p, _, _ => (List.nil_perm.mp p).symm
  | x :: r, [], p, _, _ => absurd (List.perm_nil.mp p) (by simp)
  | x :: r, y :: t, p, h1, h2 => by
    have a1 := (List.pairwise_cons.mp h1).1
    have a2 := (List.pairwise_cons.mp h2).1
    have m1 : x ∈ y :: t := p.mem_iff.mp (List.mem_cons_self ..)
    have m2 : y ∈ x :: r := p.mem_iff.mpr (List.mem_cons_self ..)
    have e : x = y := by
      rcases List.mem_cons.mp m1 with z | z
      · exact z
      · rcases List.mem_cons.mp m2 with z2 | z2
        · exact z2.symm
        · have := a1 y z2
          have := a2 x z
          omega
    subst e
    rw [perm_sorted_eq (List.Perm.cons_inv p) (List.pairwise_cons.mp h1).2 (List.pairwise_cons.mp h2).2]

/-! ## a law's end, of a law that may ask for repr -/
theorem law_endG {P : Program} {w : World} {K : PySem.W.Frag} {mg mb : Str → Option Value} {k : Nat} {fa a : Addr} {fd : FuncData} {x : Str} {sp : Sp} {s₁ : Shared} {vs : List Value} {ns : List Int}
    (KX : K.In s₁.heap) (hns : s₁.heap.Ns mainGlobals mg) (hb : s₁.heap.Ns builtinsNs mb) (hbb : ∀ x : Str, x ≠ "__name__" → mb x = bootBuiltins x) (hlim : s₁.heap.NoLimit) (hg : s₁.gens = #[])
    (ha : s₁.heap.get? a = some { cls := .type "list", data := .seq vs.toArray }) (hi : IntsAre vs ns) (hl : ns.length ≤ sizeLine) (hr : Room k callerA)
    (F : ∀ base : Heap, K.In base → base.Ns mainGlobals mg → FnG P w K mg base CX0 k fa fd [x] sp) (hbind : ∀ (s : Shared) (u : Value), BindsTo s fd ⟨[u], []⟩ [(x, u)])
    (hsp : ∀ H : Hp, Only H → SqL K H a (iv ns) → sp [.ref a] H (fun v _ => v = .bl true) fun _ _ _ => False) :
    codeAny (model P w) callerA (.call (.ref fa) ⟨[.ref a], []⟩) (fun r s' => r = .ok (.ret (.bool true)) ∧ OldK s₁.heap s'.heap ∧ s'.os = s₁.os ∧ AllBare s'.gens) s₁ := by
  have rel := vals_ints hi
  have same : ∀ H : Hp, Only H → SqL K H a (iv ns) → HOk P w H s₁.heap → (∀ b, H b ≠ none → b = a) → (H a ≠ none → K.lookup a = none) →
      codeAny (model P w) callerA (.call (.ref fa) ⟨[.ref a], []⟩) (fun r s' => r = .ok (.ret (.bool true)) ∧ OldK s₁.heap s'.heap ∧ s'.os = s₁.os ∧ AllBare s'.gens) s₁ := by
    intro H only sq hok at_a k_a
    have nonK : ∀ {b : Addr} {o : Obj}, K.lookup b = some o → H b = none := by
      intro b o e
      cases q : H b with
      | none => rfl
      | some u =>
        have z := at_a b (by rw [q]; simp)
        subst z
        rw [k_a (by rw [q]; simp)] at e
        cases e
    have nonD : ∀ {b : Addr} {o : Obj} {es : Array DictEntry} {ep : Nat}, s₁.heap.get? b = some o → o.data = .dict es ep → H b = none := by
      intro b o es ep e d
      cases q : H b with
      | none => rfl
      | some u =>
        have z := at_a b (by rw [q]; simp)
        subst z
        rw [ha] at e
        cases e
        cases d
    have nsB : ∀ {b : Addr} {m : Str → Option Value}, s₁.heap.Ns b m → (hidT s₁.heap H).Ns b m := by
      rintro b m ⟨o, es, ep, e, d, r⟩
      exact ⟨o, es, ep, hidT_get e (nonD e d), d, r⟩
    have kinB : K.In (hidT s₁.heap H) := fun b o e => hidT_get (KX b o e) (nonK e)
    have md : Mod K mg (hidT s₁.heap H) := by
      obtain ⟨mc, h1, h2⟩ := hlim
      exact ⟨kinB, nsB hns, ⟨mb, nsB hb, hbb⟩, ⟨mc, nsB h1, h2⟩⟩
    have noIn : ∀ b : Addr, b ∉ frs [] := fun b z => by cases z
    have env : Env0 P w K mg (hidT s₁.heap H) callerA [] s₁ H := ⟨rfl, md, fun b o e => of_hidT e, Nat.le_of_eq (hidT_size _ _), trivial, fun b z => absurd z (noIn b), hok, .of_eq hg⟩
    refine codeAny_mono ((F _ kinB (nsB hns)).run callerA [] s₁ H ⟨[.ref a], []⟩ [.ref a] [.ref a] _ _ hr rfl env (hbind s₁ (.ref a)) (.cons rfl .nil) (hsp H only sq)) fun r s' h => ?_
    cases r with
    | error e => exact False.elim h
    | ok fl =>
      cases fl with
      | next => exact False.elim h
      | brk => exact False.elim h
      | cont => exact False.elim h
      | ret u =>
        obtain ⟨v, H', os, bare, un, hok', rv, q⟩ := h
        have ev : v = .bl true := q
        subst ev
        have eu : u = Value.bool true := rv
        subst eu
        refine ⟨rfl, OldK.of_keep fun b o e => ?_, os, bare⟩
        cases q : H b with
        | none => exact un.keep b o e q (noIn b) (by simp)
        | some u =>
          rcases only b with z | ⟨ob, xs, z⟩
          · rw [q] at z
            cases z
          · obtain ⟨e1, _⟩ := hok b _ z
            obtain ⟨e2, _⟩ := hok' b _ (un.frzs b ob _ z)
            rw [e] at e1
            cases e1
            exact e2
  cases hk : K.lookup a with
  | some o =>
    have e := KX a o hk
    rw [ha] at e
    cases e
    refine same (fun _ => none) (fun _ => .inl rfl) (.inr ⟨_, vs.toArray, _, hk, rfl, rfl, rfl, ?_, by simpa using rel⟩) (fun b u z => ?_) (fun b z => absurd rfl z) fun z => absurd rfl z
    · rw [List.size_toArray, hi.length]
      exact hl
    · exact nomatch (show (none : Option HO) = some u from z)
  | none =>
    let H0 : Hp := fun b => if b = a then some (.frz { cls := .type "list", data := .seq vs.toArray } (.lst (iv ns))) else none
    have at1 : H0 a = some (.frz { cls := .type "list", data := .seq vs.toArray } (.lst (iv ns))) := if_pos rfl
    have at0 : ∀ b, b ≠ a → H0 b = none := fun b hb => if_neg hb
    refine same H0 (fun b => ?_) (.inl (.inr ⟨_, at1⟩)) (fun b u z => ?_) (fun b z => ?_) fun _ => hk
    · by_cases hb : b = a
      · exact .inr ⟨_, _, by rw [hb]; exact at1⟩
      · exact .inl (at0 b hb)
    · by_cases hb : b = a
      · subst hb
        rw [at1] at z
        cases z
        exact ⟨ha, by rw [iv_len]; exact hl, vs, _, rel, ha⟩
      · rw [at0 b hb] at z
        cases z
    · by_cases hb : b = a
      · exact hb
      · exact absurd (at0 b hb) z
theorem walk_ofG {l : PySem.W.OpenLaw} {n k : Nat} {q : Program} {loose : List Str} {XP : (Str → Option Value) → Heap → Prop} {YP : World → Heap → Prop} {d : DefRec} {K : Params → PySem.W.Frag} {sp : PySem.W.Frag → Sp} {x : Str}
    (hn : l.most = some n) (hn2 : n ≤ sizeLine) (hdf : d.params.defaults = []) (hr : Room k callerA) (hY : ∀ (w : World) (h : Heap), YP w h → (K w.params).In h)
    (F : ∀ (w : World) (mg : Str → Option Value) (fa : Addr) (h : Heap), (K w.params).In h → h.Ns mainGlobals mg → mg d.name = some (.ref fa) →
      ∃ fd : FuncData, (∀ (s : Shared) (u : Value), BindsTo s fd ⟨[u], []⟩ [(x, u)]) ∧
        ∀ base : Heap, (K w.params).In base → base.Ns mainGlobals mg → FnG l.prog w (K w.params) mg base CX0 k fa fd [x] (sp (K w.params)))
    (hsp : ∀ (K : PySem.W.Frag) (H : Hp) (a : Addr) (ns : List Int), ns.length ≤ n → SqL K H a (iv ns) → sp K [.ref a] H (fun v _ => v = .bl true) fun _ _ _ => False) :
    PySem.W.WalkO q loose XP YP l.row.toRowW d [] (fun f vs => PySem.call f vs) := by
  refine Att.attach_call hn hdf fun w s₀ s₁ mg mb fa o pm cd doc a vs ns G Y ho hd hcd hmg hobj hints hlen hg => ?_
  have KX := hY w _ Y
  obtain ⟨fd, hb, hF⟩ := F w mg fa _ KX G.T.g hmg
  exact law_endG KX G.T.g G.T.b G.T.builtins G.T.nolimit hg hobj hints (Nat.le_trans hlen hn2) hr hF hb fun H _ hS => hsp (K w.params) H a ns hlen hS

/-! ## a def of the text, out of what the top has written -/
theorem DefAt.mk1 {K : PySem.W.Frag} {h : Heap} {mg : Str → Option Value} {x : Str} {st : Stmt} {ps : List Str} {f : Addr} {od an : Option Addr} {sl : Array (Option Value)} {oc kV dc pm cd ct : Value} (X : K.In h) (G : h.Ns mainGlobals mg)
    (a : PySem.W.nsIn K mainGlobals x = some (some (.ref f))) (l : K.lookup f = some ⟨oc, od, .func (PySem.W.fnOf x x (defArgs st) (defBody st) (defScope st) .none kV dc pm an cd ct), sl⟩) (c : PySem.W.codeIn K cd x = true) (k : PySem.W.keepIn K (.ref f) = true)
    (hb : ∀ (kV doc pm : Value) (an : Option Addr) (cdv ct : Value) (us : List Value), us.length = ps.length → bindArgs (PySem.W.fnOf x x (defArgs st) (defBody st) (defScope st) .none kV doc pm an cdv ct) ⟨us, []⟩ = pure (ps.zip us)) : DefAt K mg x st ps :=
  ⟨f, _, fun_mk (st := st) l c k, PySem.W.mg_of X G a, (fun_mk (st := st) l c k).binds hb⟩
theorem cutD {p q : Prop} (h : p) (k : p → q) : q := k h
/-- a class: what its facts say -/
theorem cls_mk {K : PySem.W.Frag} {h : Heap} {mg : Str → Option Value} {x : Str} {C : Addr} (X : K.In h) (hC : mg x = some (.ref C)) (pg : PySem.W.plainGet K C Str.empty = true) (hd : PySem.W.hasDictIn K C = true) (po : PySem.W.plainOver K C = true) (sa : PySem.W.findIn K (.ref C) "__setattr__" = some (some (.builtin "object.__setattr__"))) : Cls K C := ⟨pg, hd, po, sa⟩
theorem noat_mk {K : PySem.W.Frag} {h : Heap} {mg : Str → Option Value} {x : Str} {C : Addr} {m : Str} (X : K.In h) (hC : mg x = some (.ref C)) (n : PySem.W.findIn K (.ref C) m = some none) : NoAttr K C m := n
theorem IniAt.mk1 {K : PySem.W.Frag} {h : Heap} {mg : Str → Option Value} {C : Addr} {x qual : Str} {st : Stmt} {ps : List Str} {f : Addr} {od an : Option Addr} {sl : Array (Option Value)} {oc kV dc pm cd ct : Value} (X : K.In h) (hm : mg x = some (.ref C))
    (a : PySem.W.findIn K (.ref C) "__init__" = some (some (.ref f))) (l : K.lookup f = some ⟨oc, od, .func (PySem.W.fnOf "__init__" qual (defArgs st) (defBody st) (defScope st) .none kV dc pm an cd ct), sl⟩) (c : PySem.W.codeIn K cd qual = true) (k : PySem.W.keepIn K (.ref f) = true)
    (mk : PySem.W.makesIn K C = true) (i : PySem.W.isFn K (.ref f) = true) (kc : PySem.W.keepIn K (.ref C) = true)
    (hb : ∀ (kV doc pm : Value) (an : Option Addr) (cdv ct : Value) (us : List Value), us.length = ps.length → bindArgs (PySem.W.fnOf "__init__" qual (defArgs st) (defBody st) (defScope st) .none kV doc pm an cdv ct) ⟨us, []⟩ = pure (ps.zip us)) : IniAt K mg C x qual st ps :=
  ⟨f, _, fun_mk (st := st) l c k, ⟨mk, a, i, kc⟩, hm, (fun_mk (st := st) l c k).binds hb⟩
theorem MetAt.mk1 {K : PySem.W.Frag} {h : Heap} {mg : Str → Option Value} {x : Str} {C : Addr} {m qual : Str} {st : Stmt} {ps : List Str} {f : Addr} {od an : Option Addr} {sl : Array (Option Value)} {oc kV dc pm cd ct : Value} (X : K.In h) (hC : mg x = some (.ref C))
    (a : PySem.W.findIn K (.ref C) m = some (some (.ref f))) (l : K.lookup f = some ⟨oc, od, .func (PySem.W.fnOf m qual (defArgs st) (defBody st) (defScope st) .none kV dc pm an cd ct), sl⟩) (c : PySem.W.codeIn K cd qual = true) (k : PySem.W.keepIn K (.ref f) = true) (i : PySem.W.isFn K (.ref f) = true)
    (hb : ∀ (kV doc pm : Value) (an : Option Addr) (cdv ct : Value) (us : List Value), us.length = ps.length → bindArgs (PySem.W.fnOf m qual (defArgs st) (defBody st) (defScope st) .none kV doc pm an cdv ct) ⟨us, []⟩ = pure (ps.zip us)) : MetAt K C m qual st ps :=
  ⟨f, _, fun_mk (st := st) l c k, ⟨a, i, k⟩, (fun_mk (st := st) l c k).binds hb⟩
theorem PrpAt.mk1 {K : PySem.W.Frag} {h : Heap} {mg : Str → Option Value} {x : Str} {C : Addr} {m qual : Str} {st : Stmt} {ps : List Str} {f p : Addr} {rest : List Value} {od an : Option Addr} {sl : Array (Option Value)} {oc kV dc pm cd ct : Value} (X : K.In h) (hC : mg x = some (.ref C))
    (a : PySem.W.findIn K (.ref C) m = some (some (.ref p))) (g : PySem.W.specialIn K (.ref p) "__get__" = some (some (.builtin "property.__get__"))) (t : PySem.W.takesIn K (.ref p) = some true) (r : PySem.W.recIn K p "property" = some (.ref f :: rest))
    (l : K.lookup f = some ⟨oc, od, .func (PySem.W.fnOf m qual (defArgs st) (defBody st) (defScope st) .none kV dc pm an cd ct), sl⟩) (c : PySem.W.codeIn K cd qual = true) (k : PySem.W.keepIn K (.ref f) = true)
    (hb : ∀ (kV doc pm : Value) (an : Option Addr) (cdv ct : Value) (us : List Value), us.length = ps.length → bindArgs (PySem.W.fnOf m qual (defArgs st) (defBody st) (defScope st) .none kV doc pm an cdv ct) ⟨us, []⟩ = pure (ps.zip us)) : PrpAt K C m qual st ps :=
  ⟨f, p, _, fun_mk (st := st) l c k, ⟨a, g, t, rest, r⟩, (fun_mk (st := st) l c k).binds hb⟩
theorem glob_mk {K : PySem.W.Frag} {h : Heap} {mg : Str → Option Value} {x : Str} {C : Addr} (X : K.In h) (G : h.Ns mainGlobals mg) (a : PySem.W.nsIn K mainGlobals x = some (some (.ref C))) : mg x = some (.ref C) := PySem.W.mg_of X G a
/-- a def with defaults -/
theorem funD_mk {K : PySem.W.Frag} {h : Heap} {mg : Str → Option Value} {x : Str} {st : Stmt} {dvs : List V} {f T : Addr} {o : Obj} {its : List Value} {n : Nat} {od an : Option Addr} {sl : Array (Option Value)} {oc kV dc pm cd ct : Value} (X : K.In h) (G : h.Ns mainGlobals mg)
    (a : PySem.W.nsIn K mainGlobals x = some (some (.ref f))) (l : K.lookup f = some ⟨oc, od, .func (PySem.W.fnOf x x (defArgs st) (defBody st) (defScope st) (.ref T) kV dc pm an cd ct), sl⟩) (c : PySem.W.codeIn K cd x = true) (k : PySem.W.keepIn K (.ref f) = true)
    (t : K.lookup T = some o) (e : o.data = .seq its.toArray n) (hv : Vals dvs its) (hd : dvs ≠ []) : FunD K x x (defArgs st) (defBody st) (defScope st) dvs [] f (PySem.W.fnOf x x (defArgs st) (defBody st) (defScope st) (.ref T) kV dc pm an cd ct) ∧ mg x = some (.ref f) :=
  ⟨⟨⟨oc, od, _, kV, dc, pm, an, cd, ct, sl, rfl, l, c, .inr ⟨hd, T, o, its, n, rfl, t, e, hv⟩, .inl rfl⟩, k⟩, PySem.W.mg_of X G a⟩
/-- the law's own def -/
theorem DefAt.law {K : PySem.W.Frag} {mg : Str → Option Value} {x : Str} {st : Stmt} {fa : Addr} {p : Str} (D : DefAt K mg x st [p]) (hfa : mg x = some (.ref fa))
    (hb : ∀ (kV doc pm : Value) (an : Option Addr) (cdv ct : Value) (us : List Value), us.length = 1 → bindArgs (PySem.W.fnOf x x (defArgs st) (defBody st) (defScope st) .none kV doc pm an cdv ct) ⟨us, []⟩ = pure ([p].zip us)) :
    ∃ fd : FuncData, Fun K x x st fa fd ∧ ∀ (s : Shared) (u : Value), BindsTo s fd ⟨[u], []⟩ [(p, u)] := by
  obtain ⟨f, fd, F, hm, b⟩ := D.ex
  rw [hfa] at hm
  cases hm
  obtain ⟨oc, od, kV, doc, pm, an, cdv, ct, osl, rfl, lk, hcd⟩ := F.ex
  exact ⟨_, F, fun s u => .of_eq (hb kV doc pm an cdv ct [u] rfl)⟩
end Sq

/-! the mathematics of replacements on lengths of runs -/
namespace Sq
def once (n k : Int) : Int := n / k + n % k
def sqz (n : Int) (row : List Int) : Int := row.foldl once n
def rb (R k : Int) : Int := if k > R + 1 then R else (R + 3 - k) * k - 2
def reachOf (row : List Int) (most : Int) : Int := row.foldr (fun k R => rb R k) most
abbrev Two (row : List Int) : Prop := ∀ k ∈ row, (2 : Int) ≤ k
def Mid (ns : List Int) : Prop := ∀ k ∈ ns, (2 : Int) ≤ k ∧ k < 2 ^ 240
theorem Mid.two {ns : List Int} (h : Mid ns) : Two ns := fun k hk => (h k hk).1
theorem sqz_cons (n k : Int) (r : List Int) : sqz n (k :: r) = sqz (once n k) r := rfl
theorem sqz_app (n : Int) (a b : List Int) : sqz n (a ++ b) = sqz (sqz n a) b := by simp [sqz, List.foldl_append]
theorem sqz_snoc (n k : Int) (a : List Int) : sqz n (a ++ [k]) = once (sqz n a) k := by rw [sqz_app]; rfl
theorem sqz_take {row : List Int} {n k : Int} {i : Nat} (h : row[i]? = some k) : sqz n (row.take (i + 1)) = once (sqz n (row.take i)) k := by
  rw [List.take_add_one, h]
  exact sqz_snoc _ _ _
theorem once_nn {n k : Int} (hn : 0 ≤ n) (hk : 2 ≤ k) : 0 ≤ once n k := by
  unfold once
  have h1 := Int.ediv_nonneg hn (by omega : (0 : Int) ≤ k)
  have h2 := Int.emod_nonneg n (by omega : k ≠ 0)
  omega
/-- quotient and rest -/
theorem qr (n : Int) {k : Int} (hk : 2 ≤ k) : ∃ q r, n = q * k + r ∧ 0 ≤ r ∧ r < k ∧ n / k = q ∧ n % k = r :=
  ⟨n / k, n % k, by have := Int.mul_ediv_add_emod n k; rw [Int.mul_comm] at this; omega, Int.emod_nonneg n (by omega), Int.emod_lt_of_pos n (by omega), rfl, rfl⟩
theorem qr_of {q r k : Int} (h0 : 0 ≤ r) (h1 : r < k) : (q * k + r) / k = q ∧ (q * k + r) % k = r := by
  have hk : k ≠ 0 := by omega
  constructor
  · rw [Int.add_comm, Int.add_mul_ediv_right _ _ hk, Int.ediv_eq_zero_of_lt h0 h1]; omega
  · rw [Int.add_comm, Int.add_mul_emod_self_right, Int.emod_eq_of_lt h0 h1]
theorem once_qr {q r k : Int} (h0 : 0 ≤ r) (h1 : r < k) : once (q * k + r) k = q + r := by
  obtain ⟨a, b⟩ := qr_of (q := q) h0 h1
  unfold once
  rw [a, b]
theorem once_le {n k : Int} (hn : 0 ≤ n) (hk : 2 ≤ k) : once n k ≤ n := by
  obtain ⟨q, r, e, h0, h1, e1, e2⟩ := qr n hk
  unfold once
  rw [e1, e2]
  have hq : 0 ≤ q := by rw [← e1]; exact Int.ediv_nonneg hn (by omega)
  have := Int.mul_le_mul_of_nonneg_left (by omega : (1 : Int) ≤ k) hq
  omega
theorem once_small {n k : Int} (hn : 0 ≤ n) (h : n < k) : once n k = n := by
  unfold once
  rw [Int.ediv_eq_zero_of_lt hn h, Int.emod_eq_of_lt hn h]
  omega
theorem once_pos {n k : Int} (hn : 1 ≤ n) (hk : 2 ≤ k) : 1 ≤ once n k := by
  obtain ⟨q, r, e, h0, h1, e1, e2⟩ := qr n hk
  unfold once
  rw [e1, e2]
  have hq : 0 ≤ q := by rw [← e1]; exact Int.ediv_nonneg (by omega) (by omega)
  rcases Int.lt_or_eq_of_le hq with h | h
  · omega
  · subst h; omega
theorem sqz_nn : ∀ {row : List Int} {n : Int}, 0 ≤ n → Two row → 0 ≤ sqz n row
  | [], n, h, _ => h
  | k :: r, n, h, t => sqz_nn (row := r) (once_nn h (t k (List.mem_cons_self ..))) fun j hj => t j (List.mem_cons_of_mem _ hj)
theorem sqz_le : ∀ {row : List Int} {n : Int}, 0 ≤ n → Two row → sqz n row ≤ n
  | [], n, h, _ => Int.le_refl n
  | k :: r, n, h, t => Int.le_trans (sqz_le (row := r) (once_nn h (t k (List.mem_cons_self ..))) fun j hj => t j (List.mem_cons_of_mem _ hj)) (once_le h (t k (List.mem_cons_self ..)))
theorem sqz_pos : ∀ {row : List Int} {n : Int}, 1 ≤ n → Two row → 1 ≤ sqz n row
  | [], n, h, _ => h
  | k :: r, n, h, t => sqz_pos (row := r) (once_pos h (t k (List.mem_cons_self ..))) fun j hj => t j (List.mem_cons_of_mem _ hj)
/-- one step of the reach -/
theorem rb_pos {R k : Int} (hR : 1 ≤ R) (hk : 2 ≤ k) : R ≤ rb R k := by
  unfold rb
  split
  · omega
  · rename_i h
    have e : (R + 3 - k) * k - 2 - R = (R + 1 - k) * (k - 1) + (k - 1) := by
      have e1 : R + 3 - k = (R + 1 - k) + 2 := by omega
      have e2 : k = (k - 1) + 1 := by omega
      rw [e1]
      have e3 : (R + 1 - k) * k = (R + 1 - k) * (k - 1) + (R + 1 - k) := by
        have := Int.mul_sub (R + 1 - k) k 1
        omega
      have e4 : (R + 1 - k + 2) * k = (R + 1 - k) * k + 2 * k := Int.add_mul _ _ _
      omega
    have := Int.mul_nonneg (by omega : (0 : Int) ≤ R + 1 - k) (by omega : (0 : Int) ≤ k - 1)
    omega
theorem rb_all {R k n : Int} (hR : 1 ≤ R) (hk : 2 ≤ k) (h0 : 0 ≤ n) (h : n ≤ rb R k) : once n k ≤ R := by
  unfold rb at h
  split at h
  · rw [once_small h0 (by omega)]; exact h
  · rename_i hh
    obtain ⟨q, r, e, h1, h2, e1, e2⟩ := qr n hk
    unfold once
    rw [e1, e2]
    have e3 : (R + 3 - k) * k = (R + 2 - k) * k + k := by
      have : R + 3 - k = (R + 2 - k) + 1 := by omega
      rw [this, Int.add_mul, Int.one_mul]
    rcases Int.lt_or_le q (R + 2 - k) with hq | hq
    · omega
    · rcases Int.lt_or_eq_of_le hq with hq | hq
      · have := Int.mul_le_mul_of_nonneg_right (by omega : R + 3 - k ≤ q) (by omega : (0 : Int) ≤ k)
        omega
      · subst hq
        omega
theorem rb_next {R k : Int} (hR : 1 ≤ R) (hk : 2 ≤ k) : once (rb R k + 1) k = R + 1 := by
  unfold rb
  split
  · rw [once_small (by omega) (by omega)]
  · have e3 : (R + 3 - k) * k - 2 + 1 = (R + 2 - k) * k + (k - 1) := by
      have : R + 3 - k = (R + 2 - k) + 1 := by omega
      rw [this, Int.add_mul, Int.one_mul]; omega
    rw [e3, once_qr (by omega) (by omega)]
    omega
theorem reach_pos : ∀ {row : List Int} {m : Int}, 1 ≤ m → Two row → m ≤ reachOf row m
  | [], m, _, _ => Int.le_refl m
  | k :: r, m, h, t => by
    have ih := reach_pos (row := r) h fun j hj => t j (List.mem_cons_of_mem _ hj)
    exact Int.le_trans ih (rb_pos (by omega) (t k (List.mem_cons_self ..)))
theorem reach_all : ∀ {row : List Int} {m n : Int}, 1 ≤ m → Two row → 0 ≤ n → n ≤ reachOf row m → sqz n row ≤ m
  | [], m, n, _, _, _, h => h
  | k :: r, m, n, h, t, h0, hn => by
    have t' : Two r := fun j hj => t j (List.mem_cons_of_mem _ hj)
    have hk := t k (List.mem_cons_self ..)
    have p := reach_pos h t'
    exact reach_all (row := r) h t' (once_nn h0 hk) (rb_all (by omega) hk h0 hn)
theorem reach_next : ∀ {row : List Int} {m : Int}, 1 ≤ m → Two row → sqz (reachOf row m + 1) row = m + 1
  | [], m, _, _ => rfl
  | k :: r, m, h, t => by
    have t' : Two r := fun j hj => t j (List.mem_cons_of_mem _ hj)
    have hk := t k (List.mem_cons_self ..)
    have p := reach_pos h t'
    show sqz (once (rb (reachOf r m) k + 1) k) r = m + 1
    rw [rb_next (by omega) hk]
    exact reach_next h t'
/-- the reach is where the first greater one stands -/
theorem reach_is {row : List Int} {m n : Int} (h : 1 ≤ m) (t : Two row) (h0 : 0 ≤ n) (hn : m < sqz n row) (ha : ∀ j, 0 ≤ j → j < n → sqz j row ≤ m) : reachOf row m = n - 1 := by
  have p := reach_pos h t
  rcases Int.lt_or_le (reachOf row m) n with a | a
  · rcases Int.lt_or_le (reachOf row m + 1) n with b | b
    · have := ha _ (by omega) b
      rw [reach_next h t] at this
      omega
    · omega
  · have := reach_all h t h0 a
    omega
theorem reach_mono {row : List Int} {m m' : Int} (h : 1 ≤ m) (hm : m ≤ m') (t : Two row) : reachOf row m ≤ reachOf row m' := by
  rcases Int.lt_or_le (reachOf row m') (reachOf row m) with a | a
  · have p := reach_pos (m := m') (by omega) t
    have := reach_all h t (n := reachOf row m' + 1) (by omega) (by omega)
    rw [reach_next (by omega) t] at this
    omega
  · exact a
end Sq


namespace Sq
open PySem PySem.Spec PyProof.Rows L2
/-! ## ranges of wide ints -/
theorem turn_wide {P : Program} {w : World} {K : PySem.W.Frag} {tg : Expr} (z : Addr) (lo : Int) (n : Nat) : Turn P w K tg (Itr lo n) [z] z (fun i h => IsLongIter h z (lo + (i : Nat) * 1) ((n : Int) - (i : Nat)) 1) := by
  refine ⟨List.mem_singleton.mpr rfl, fun i h st b hb => ?_, fun i h h2 st k => k z (List.mem_singleton.mpr rfl) _ st, ?_, ?_, fun A i s Q E st h => wpAny_pyIter_longiter st h⟩
  · rw [List.mem_singleton.mp hb]
    exact ⟨_, st, fun v c => by cases (show Data.fields _ = Data.cell v from c)⟩
  · rintro X rfl rfl rfl hc i pins s σ H E I hf st hg
    have f := hf z (List.mem_singleton.mpr rfl)
    refine (Walks.longrange (prog := X.prog) (w := X.w) (I.ok.hd hc) z lo 1 n).item i s _ _ hg st fun v h2 tk hv st2 kk => ?_
    obtain ⟨t, rfl⟩ := hv
    have J : Inv X pins σ H { s with heap := h2, toks := tk } := I.turned (fun b o hb e => kk b o (fun m => hb (List.mem_singleton.mp m)) e) f.1 f.2.1 f.2.2.2.1 f.2.2.2.2.1 f.2.2.2.2.2
    refine ⟨_, rfl, go_of (s := { s with heap := h2, toks := tk }) (n := "longrange_iterator") st2 rfl rfl (by decide) ⟨.int (lo + i), H, J, ⟨t, by rw [Int.mul_one]⟩, ⟨rfl, rfl⟩, st2, fun b hb => (hf b hb).1⟩⟩
  · rintro X rfl rfl rfl hc i pins s σ H E I hf st hg
    have f := hf z (List.mem_singleton.mpr rfl)
    have m : n ≤ i := hg
    exact wpAny_pyNext_long_end (I.ok.hd hc) st (by omega) fun h2 k => ⟨rfl, I.turned (t' := s.toks) (fun b o hb e => k b o hb e) f.1 f.2.1 f.2.2.2.1 f.2.2.2.2.1 f.2.2.2.2.2⟩
section
variable {X : Cx} {tg a b : Expr} {t : TA} {p pos : Pos}
theorem rsz (lo hi : Int) : Builtin.Range.rangeSize lo hi 1 = ((hi - lo).toNat : Int) := by
  rw [rangeSize_one]
  split <;> omega
theorem wide_it {pins : List (Addr × Obj)} {σ : L2.St} {H : Hp} {s : Shared} {R : It → Hp → Prop} {E : Value → Shared → Prop} {lo hi : Int} {t u v : Tok} {tk : Nat} (I : Inv X pins σ H s) (q : R (Itr lo (hi - lo).toNat) H) :
    wpAny (model X.prog X.w) X.A (pyIter (.ref s.heap.objs.size)) (PIE X pins σ tg R) E { s with heap := s.heap.push { cls := .type "range", data := .fields #[.int lo t, .int hi u, .int 1 v] }, toks := tk } := by
  have J : Inv X pins σ H { s with heap := s.heap.push { cls := .type "range", data := .fields #[.int lo t, .int hi u, .int 1 v] }, toks := tk } := I.kept fun b o e => Heap.get?_push_of_some _ e
  have z0 : lo + ((0 : Nat) : Int) * 1 = lo := by omega
  have z1 : (((hi - lo).toNat : Nat) : Int) - ((0 : Nat) : Int) = Builtin.Range.rangeSize lo hi 1 := by
    rw [rsz]
    omega
  by_cases sm : Builtin.Range.small lo hi 1 = true
  · refine wpAny_pyIter_range (IsRange.new ..) sm ⟨(s.heap.push { cls := .type "range", data := .fields #[.int lo t, .int hi u, .int 1 v] }).objs.size, [(s.heap.push { cls := .type "range", data := .fields #[.int lo t, .int hi u, .int 1 v] }).objs.size], _, _, H, rfl,
      J.kept (t' := tk) fun b o e => Heap.get?_push_of_some _ e, turn_range _ lo (hi - lo).toNat, ?_, fun b hb => ?_, q⟩
    · show IsRangeIter _ _ (lo + ((0 : Nat) : Int) * 1) ((((hi - lo).toNat : Nat) : Int) - ((0 : Nat) : Int)) 1
      rw [z0, z1]
      exact Heap.get?_push_size _ rfl
    · rw [List.mem_singleton.mp hb]
      exact J.fpOk (Nat.le_refl _) (J.hok.fresh (Nat.le_refl _))
  · refine wpAny_pyIter_longrange (IsRange.new ..) (Bool.not_eq_true _ ▸ sm) ⟨(s.heap.push { cls := .type "range", data := .fields #[.int lo t, .int hi u, .int 1 v] }).objs.size, [(s.heap.push { cls := .type "range", data := .fields #[.int lo t, .int hi u, .int 1 v] }).objs.size], _, _, H, rfl,
      J.kept (t' := tk) fun b o e => Heap.get?_push_of_some _ e, turn_wide _ lo (hi - lo).toNat, ?_, fun b hb => ?_, q⟩
    · show IsLongIter _ _ (lo + ((0 : Nat) : Int) * 1) ((((hi - lo).toNat : Nat) : Int) - ((0 : Nat) : Int)) 1
      rw [z0, z1]
      exact Heap.get?_push_size _ rfl
    · rw [List.mem_singleton.mp hb]
      exact J.fpOk (Nat.le_refl _) (J.hok.fresh (Nat.le_refl _))
def iRngW (t : TA) : TI := fun σ H R => t σ H fun vs H1 => ∃ i j : Int, vs = [.int i, .int j] ∧ R (Itr i (j - i).toNat) H1
theorem pi_range2W (hg : Gl X "range") (hm : X.mg "range" = none) (ha : PA X [a, b] t) (h1 : starEach [a, b] X.env = [(false, eval a X.env), (false, eval b X.env)] := by rfl) (h2 : starEach [b] X.env = [(false, eval b X.env)] := by rfl) :
    PI X tg (.Call (.Name "range" p) [a, b] [] pos) (iRngW t) := by
  refine ⟨fun pins s σ H R I h => Call_ (ld_blt I hg hm boot_range (PyProof.Rows.callWith_type1 (thn (ha.run pos pins s σ H _ I h) fun us s1 hx => ?_) (by rw [h1, h2]) (by rw [h2]; rfl)))⟩
  obtain ⟨vs, H1, J, r, i, j, rfl, q⟩ := hx
  obtain ⟨u, v, rfl, ⟨c, rfl⟩, ⟨d, rfl⟩⟩ : ∃ u v, us = [u, v] ∧ RelV (.int i) u ∧ RelV (.int j) v := by
    cases r with
    | cons r1 r => cases r with
      | cons r2 r => cases r; exact ⟨_, _, rfl, r1, r2⟩
  exact call_range_2 (wide_it J q)
end
/-! ## parts of a list -/
theorem cut_from (xs : List V) (k : Nat) : cutV xs (some (k : Int)) none = xs.drop k := by
  unfold cutV
  rw [HT.sIx_nat, HT.sIx_none]
  rcases Nat.le_total k xs.length with h | h
  · rw [Nat.min_eq_left h]
    exact List.take_of_length_le (by rw [List.length_drop]; omega)
  · rw [Nat.min_eq_right h, List.drop_eq_nil_of_le (Nat.le_refl _), List.drop_eq_nil_of_le h]
    simp
theorem cut_to (xs : List V) (k : Nat) : cutV xs none (some (k : Int)) = xs.take k := by
  unfold cutV
  rw [HT.sIx_nat, HT.sIx_none, List.drop_zero, Nat.sub_zero]
  rcases Nat.le_total k xs.length with h | h
  · rw [Nat.min_eq_left h]
  · rw [Nat.min_eq_right h, List.take_of_length_le (Nat.le_refl _), List.take_of_length_le h]
theorem cut_mid (xs : List V) (j k : Nat) : cutV xs (some (j : Int)) (some (k : Int)) = (xs.drop j).take (k - j) := by
  unfold cutV
  rw [HT.sIx_nat, HT.sIx_nat]
  rcases Nat.le_total j xs.length with h | h
  · rw [Nat.min_eq_left h]
    rcases Nat.le_total k xs.length with h2 | h2
    · rw [Nat.min_eq_left h2]
    · rw [Nat.min_eq_right h2, List.take_of_length_le (by rw [List.length_drop]; omega), List.take_of_length_le (by rw [List.length_drop]; omega)]
  · rw [Nat.min_eq_right h, List.drop_eq_nil_of_le (Nat.le_refl _), List.drop_eq_nil_of_le h]
    simp
theorem iv_drop (ns : List Int) (k : Nat) : (iv ns).drop k = iv (ns.drop k) := by simp
theorem iv_take (ns : List Int) (k : Nat) : (iv ns).take k = iv (ns.take k) := by simp
/-! ## a op b op c op d -/
def tChain3 (r r' r'' : R2) (ta tb tc td : TE) : TE := fun σ H Q => ta σ H fun x H1 => tb σ H1 fun y H2 => r x y H2 fun z H3 => ∃ k, z = .bl k ∧
  (if k = true then tc σ H3 fun v H4 => r' y v H4 fun z' H5 => ∃ k', z' = .bl k' ∧ (if k' = true then td σ H5 fun u H6 => r'' v u H6 Q else Q (.bl false) H5) else Q (.bl false) H3)
section
variable {X : Cx} {a b c d : Expr} {ta tb tc td : TE} {pos : Pos} {op op' op'' : CmpOp} {r r' r'' : R2}
theorem pt_chain3 (h1 : OpR X (compareOp op) r) (h2 : OpR X (compareOp op') r') (h3 : OpR X (compareOp op'') r'') (ha : PE X a ta) (hb : PE X b tb) (hc : PE X c tc) (hd : PE X d td)
    (hm : lastMarks [op, op', op''] [b, c, d] = false := by with_unfolding_all rfl) : PT X (.Compare a [op, op', op''] [b, c, d] pos) (tTest (tChain3 r r' r'' ta tb tc td)) := by
  refine ⟨fun pins s σ H Q I h => isTrue_chain (thn (ha.run pins s σ H _ I h) fun v s1 ⟨x, H1, I1, r1, q1⟩ => test_link (thn (hb.run pins s1 σ H1 _ I1 q1) fun u s2 ⟨y, H2, I2, r2, q2⟩ =>
    thn (h1 pins s2 σ H2 x y v u _ I2 r1 r2 q2) fun e s3 ⟨z, H3, I3, r3, k, ez, q3⟩ => ?_)) hm⟩
  subst ez
  cases r3
  refine wpAny_truthy_bool ?_
  cases k with
  | false =>
    obtain ⟨k2, e2, q2⟩ := q3
    cases e2
    exact ite_ff ⟨H3, I3, q2⟩
  | true =>
    refine ite_tt (test_link (thn (hc.run pins s3 σ H3 _ I3 q3) fun w4 s4 ⟨y4, H4, I4, r4, q4⟩ => thn (h2 pins s4 σ H4 y y4 u w4 _ I4 r2 r4 q4) fun e5 s5 ⟨z5, H5, I5, r5, k5, e5', q5⟩ => ?_))
    subst e5'
    cases r5
    refine wpAny_truthy_bool ?_
    cases k5 with
    | false =>
      obtain ⟨k2, e2, q2⟩ := q5
      cases e2
      exact ite_ff ⟨H5, I5, q2⟩
    | true =>
      refine ite_tt (test_last (thn (hd.run pins s5 σ H5 _ I5 q5) fun w6 s6 ⟨y6, H6, I6, r6, q6⟩ => thn (h3 pins s6 σ H6 y4 y6 w4 w6 _ I6 r4 r6 q6) fun e7 s7 ⟨z7, H7, I7, r7, k7, e7', q7⟩ => ?_))
      subst e7'
      cases r7
      exact wpAny_truthy_bool ⟨H7, I7, q7⟩
end
end Sq


set_option Elab.async false
set_option maxRecDepth 100000
set_option maxHeartbeats 4000000
namespace Sq
open PySem PySem.Spec PyProof.Rows L2
/-! ## an own exception's __init__(self, value): super().__init__(text); self.value = value -/
section
open PySem.W PySem.Calls
variable {prog : Program} {w : World} {A : Around} {E : Value → Shared → Prop} {h : Heap} {g : Array GenState} {d : Drawn} {t : Nat} {os : OsState}
variable {nm q : Str} {C N : Addr} {bs bm : List Value} {hdct : Bool} {sn : List Str} {sub : List Value} {ab : Bool} {col : Option Bool} {dd : Option Addr} {k0 k1 k2 k3 k5 : Option Value}
/-- ValueError.__init__, bound to e, called -/
theorem call_vw {u e t0 : Addr} {rest : List Value} {Q : Value → Shared → Prop}
    (hC : h.get? C = some (excClassObj nm q C N bs bm hdct sn sub ab col dd k0 k1 k2 k3 k5 "ValueError.__new__")) (he : h.get? e = some (HandSPX.excO C t0)) (hu : h.get? u = some (kxs_mw "ValueError.__init__" e)) (hrest : rest.length ≤ sizeLine)
    (hq : ∀ h' t1, (∀ b o, b ≠ e → h.get? b = some o → h'.get? b = some o) → h'.get? e = some (HandSPX.excO C t1) → Q .none ⟨h', g, d, t, os⟩) :
    wpAny (model prog w) A (call (.ref u) rest) Q E ⟨h, g, d, t, os⟩ := by
  refine wpAny_call (codeAny_of_tree ?_)
  show wpAny _ A.in1 (callAny (.ref u) ⟨rest, []⟩) _ _ _
  simp only [callAny]
  refine wpAny_bind (wpAny_load hu ?_)
  simp only [kxs_mw, show (Value.type "method-wrapper" == Value.type "method" || Value.type "method-wrapper" == Value.type "builtin_function_or_method" || Value.type "method-wrapper" == Value.type "method-wrapper") = true by decide, if_true]
  refine W.KFB.if_so (by decide) ?_
  refine wpAny_bind (check_bound_init F.excBase_ValueError.toExcCallFacts hC he rfl ?_)
  refine wpAny_bind (wpAny_pure (wpAny_pure ⟨Code.quiet_builtin _ (by decide +kernel), codeAny_builtin F.excBase_ValueError.initEntry ?_⟩))
  exact exc_init_tree (cls := .ref C) (t0 := t0) (dv := none) (c2 := .none) (c3 := .none) (b4 := .bool false) he hrest fun h' k e' _ => hq h' h.objs.size k e'
end

def spXI (C : Addr) : Sp := fun vs H Q _ => ∃ (a : Addr) (v : V), vs = [.ref a, v] ∧ H a = some (exo a C none) ∧ ∀ dx, H dx = none → dx ≠ a → Q .non (upd (upd H dx (exd dx [("value", v)])) a (exo a C (some dx)))
/-- what the written part says of such an __init__ -/
structure XIn (P : Program) (K : PySem.W.Frag) (C f cc cda : Addr) (qual file : Str) : Prop where
  code : PySem.W.codeIn K (.ref cda) qual = true
  cell : ∃ cl cld csl, K.lookup cc = some ⟨cl, cld, .cell (some (.ref C)), csl⟩
  rec_ : ∃ ccl cdd vs ccs tf, K.lookup cda = some ⟨ccl, cdd, .fields vs, ccs⟩ ∧ vs[2]? = some (.str file tf)
  file : ((P.main.file : Str) == file) = true
  top : (P.main.scope.names.lookup ("super" : Str)).isSome = false
  opq : PySem.W.nsIn K PySem.cStatics "thirdparty.any" = some none
  sup : PySem.W.ks_superIn K C C "__init__" = some (some (.builtin "ValueError.__init__"))
  veb : PySem.W.subIn K (.ref C) (.type "ValueError") = some true
  self : PySem.W.mroIn K C (.ref C) = some true
  val : PySem.W.findIn K (.ref C) "value" = some none
abbrev xiScope : Scope := ⟨.function, [("self", .local), ("value", .local), ("__class__", .free), ("super", .globalImplicit)], false, false, []⟩
abbrev xiArgs (q0 q1 : Pos) : Arguments := { posonlyargs := [], args := [{ arg := "self", annotation := none, pos := q0 }, { arg := "value", annotation := none, pos := q1 }], vararg := none, kwonlyargs := [], kw_defaults := [], kwarg := none, defaults := [] }
abbrev xiBody (m : Str) (p0 p1 p2 p3 p4 p5 p6 p7 p8 p9 : Pos) : List Stmt := [.Expr (.Call (.Attribute (.Call (.Name "super" p0) [] [] p1) "__init__" p2) [.Constant (.str m) 0 p3] [] p4) p5, .Assign [.Attribute (.Name "self" p6) "value" p7] (.Name "value" p8) p9]
theorem xi_S : NdefX.NScope ["self", "value", "__class__"] ["self", "value"] ["__class__"] xiScope := NdefX.nscope_by (by decide +kernel)
/-- how the call of super().__init__ begins (by rfl, once the places are known) -/
def XiCall (qual : Str) (f cc cda : Addr) (m : Str) (p0 p1 p2 p3 p4 : Pos) : Prop := ∀ L : Addr, eval (.Call (.Attribute (.Call (.Name "super" p0) [] [] p1) "__init__" p2) [.Constant (.str m) 0 p3] [] p4) (PySem.W.ksEnv qual xiScope L f (.ref cda) cc) = (do
  let ov ← attributeBase (.Call (.Name "super" p0) [] [] p1) "__init__" (PySem.W.ksEnv qual xiScope L f (.ref cda) cc) (eval (.Call (.Name "super" p0) [] [] p1) (PySem.W.ksEnv qual xiScope L f (.ref cda) cc))
  standAt p2.atName
  let (g, first) ← holding [ov] (getMethod ov "__init__" (do return (← importBound (.Call (.Name "super" p0) [] [] p1) (PySem.W.ksEnv qual xiScope L f (.ref cda) cc)).getD true))
  callWith p4 g first (backTo p4 (starEach [.Constant (.str m) 0 p3] (PySem.W.ksEnv qual xiScope L f (.ref cda) cc))) [])
theorem ok_xi {P : Program} {w : World} {K : PySem.W.Frag} {mg : Str → Option Value} {base : Heap} {CX : CXT} {k : Nat} {C f cc cda : Addr} {qual file : Str} {kV doc pm ct oc : Value} {an od : Option Addr} {osl : Array (Option Value)}
    {p0 p1 p2 p3 p4 p5 p6 p7 p8 p9 q0 q1 : Pos} {m : Str} (T : OexC K C) (XI : XIn P K C f cc cda qual file)
    (lk : K.lookup f = some ⟨oc, od, .func (PySem.W.ksFn "__init__" qual (xiArgs q0 q1) (xiBody m p0 p1 p2 p3 p4 p5 p6 p7 p8 p9) xiScope .none kV doc pm an (.ref cda) ct cc), osl⟩) (hms : mg "super" = none) (he : XiCall qual f cc cda m p0 p1 p2 p3 p4) :
    FnOk P w K mg base CX (k + 1) f (PySem.W.ksFn "__init__" qual (xiArgs q0 q1) (xiBody m p0 p1 p2 p3 p4 p5 p6 p7 p8 p9) xiScope .none kV doc pm an (.ref cda) ct cc) ["self", "value"] (spXI C) := by
  refine ⟨fun vs H Q E h => by obtain ⟨a, v, rfl, _⟩ := h; rfl, fun A outer s H args us vs Q E hr e0 hbind r hsp => ?_⟩
  obtain ⟨a, v, rfl, ha, hq⟩ := hsp
  have KX : K.In s.heap := e0.mod.kin.keeps fun b o e => (e0.bs b o e).1
  have lim : s.heap.NoLimit := e0.mod.nolimit.keeps fun b o e => (e0.bs b o e).1
  obtain ⟨cl, cld, csl, hcell⟩ := XI.cell
  obtain ⟨ccl, cdd, cvs, ccs, tf, hcode, hvs⟩ := XI.rec_
  refine PySem.ks_codeAny_call_defAt (binds := (["self", "value"] : List Str).zip us) hr.depth (KX _ _ lk) rfl lim (PySem.W.codeRec_of KX XI.code) rfl hbind xi_S.nocell (fun ⟨n, _⟩ hy => xi_S.par n (List.of_mem_zip hy).1) (fun h1 hns kp => ?_) xi_S.co xi_S.gen xi_S.kind
  have S := xi_S
  let F : NdefX.NF := ⟨"__init__", qual, xiArgs q0 q1, xiBody m p0 p1 p2 p3 p4 p5 p6 p7 p8 p9, xiScope, [("__class__", cc)], cda⟩
  have cells : NdefX.CellsAt F.cl ["__class__"] [none] s.heap H := by
    have one : ∀ y c, F.cl.lookup y = some c → y = ("__class__" : Str) ∧ c = cc := fun y c e => by
      have e' : ([("__class__", cc)] : List (Str × Addr)).lookup y = some c := e
      by_cases z : y = ("__class__" : Str)
      · subst z
        simp [List.lookup] at e'
        exact ⟨rfl, e'.symm⟩
      · have z2 : (y == ("__class__" : Str)) = false := by simpa using z
        simp [List.lookup, z2] at e'
    refine ⟨rfl, fun y c e => ?_, fun x y c e1 e2 => ?_, fun i y e => ?_⟩
    · rw [(one y c e).2]
      exact ⟨(e0.bs _ _ (e0.mod.kin _ _ hcell)).2, _, ⟨_, KX _ _ hcell, rfl⟩⟩
    · rw [(one x c e1).1, (one y c e2).1]
    · cases i with
      | zero =>
        obtain rfl : ("__class__" : Str) = y := by simpa using e
        exact ⟨cc, by simp [F, List.lookup], fun v h => by simp at h⟩
      | succ i => simp at e
  have I : Inv (NdefX.ncx CX P w K mg base ["self", "value", "__class__"] F f A outer s H E) [] (NdefX.startF ["self", "value", "__class__"] [.ref a, v] [none]) H { s with heap := h1, toks := s.toks + ((["self", "value"] : List Str).zip us).length } :=
    NdefX.inv_startN (F := F) S hr.hd e0 rfl r cells hns kp
  have K1 : K.In h1 := KX.keeps kp
  show PySem.wpAt (model P w) (A.deeper (PySem.W.ksEnv qual xiScope s.heap.objs.size f (.ref cda) cc)) (.func (xiBody m p0 p1 p2 p3 p4 p5 p6 p7 p8 p9) (PySem.W.ksEnv qual xiScope s.heap.objs.size f (.ref cda) cc)) (execs (xiBody m p0 p1 p2 p3 p4 p5 p6 p7 p8 p9) (PySem.W.ksEnv qual xiScope s.heap.objs.size f (.ref cda) cc)) _ _ _
  refine ks_wpAt_execs_cons (ks_wpAt_Expr_any (ks_wpAt_MethodCall ?_ (he _)))
  refine ks_wpAt_super_base (env := NdefX.envF F f s.heap.objs.size) rfl rfl (by decide) rfl (K1 _ _ lk) rfl rfl rfl (K1 _ _ hcode) rfl hvs XI.file XI.top ?_
  obtain ⟨nm, q, N, bs, bm, sn, sub, ab, col, dd, k0, k1, k2, k3, k5, hC, hbm⟩ := T.cls
  have hcl : PySem.W.clsIn K C = some { name := nm, bases := bs, mro := .ref C :: bm, ns := N, qualname := q, hasDict := true, slotNames := sn, subclasses := sub, abstract := ab, collection := col, hasDel := false } := by unfold PySem.W.clsIn; rw [hC] <;> rfl
  obtain ⟨mb, hb1, hb2⟩ := I.mod.blt
  obtain ⟨t1, hoe⟩ := exo_at I.hok ha
  have hself : (((["self", "value"] : List Str).zip us).reverse.lookup ("self" : Str)) = some (Value.ref a) := by
    cases r with
    | cons r1 r => cases r with
      | cons r2 r =>
        cases r
        obtain rfl := r1
        rfl
  refine PySem.W.ks_loadName_global rfl rfl (Calls.loadGlobal_builtin (I.mod.glob.keeps I.bk) hms (hb1.keeps I.bk) ((hb2 _ (by decide)).trans PyProof.Rows.Boot.«super») ⟨rfl, ?_⟩)
  refine wpAny_loadName_free rfl rfl rfl ⟨_, K1 _ _ hcell, rfl⟩ ?_
  refine wpAny_loadName_local rfl rfl hns hself ?_
  refine ks_wpAny_isType_cls (K1 _ _ hC) rfl ⟨rfl, ?_⟩
  refine ks_wpAny_call_super (K1 _ _ hC) rfl hoe rfl (fun c e => by cases e) (PySem.W.looks_mroIn K1 XI.self) (fun h2 e2 kp2 => ?_)
  have I2 := I.kept (t' := s.toks + ((["self", "value"] : List Str).zip us).length) kp2
  have K2 : K.In h2 := K1.keeps kp2
  obtain ⟨t2, hoe2⟩ := exo_at I2.hok ha
  have at2 : PySem.W.InstAt h2 a { cls := .ref C, dict := none, data := .fields #[.ref t2, .none, .none, .none, .bool false, .none] } C none := ⟨hoe2, rfl, rfl, trivial⟩
  have hsup : PySem.W.alongIn K "__init__" (((.ref C :: bm).dropWhile (· != Value.ref C)).drop 1) = some (some (.builtin "ValueError.__init__")) := by
    have z := XI.sup
    unfold PySem.W.ks_superIn at z
    rw [hcl] at z
    exact z
  refine PySem.W.kxs_getMethod PySem.W.kxs_ValueError e2 (PySem.W.looks_opaque K2 XI.opq) (l₀ := .ref C :: bm) ((PySem.W.looks_clsIn K2 hcl).andThen .now) rfl K2 hsup (at2.type.andThen (PySem.W.looks_subIn K2 XI.veb)) (PySem.W.ks_ne K2 at2 hcl) (by decide) ?_
  have I3 := I2.kept (h' := h2.push (PySem.W.kxs_mw "ValueError.__init__" a)) (t' := s.toks + ((["self", "value"] : List Str).zip us).length + 1) fun b o e => Heap.get?_push_of_some _ e
  refine PySem.W.kxs_callWith (i := "ValueError.__init__") (x := a) rfl (Calls.evalArgs_plain (Calls.spliced_cons (Calls.Constant_str (pos := p3) (k := 0) (Calls.spliced_nil ⟨Heap.get?_push_at rfl rfl, ?_⟩))))
  have I4 := I3.tok (s.toks + ((["self", "value"] : List Str).zip us).length + 1 + 1)
  obtain ⟨t4, hoe4⟩ := exo_at I4.hok ha
  refine call_vw (t0 := t4) (Heap.get?_push_of_some _ (K2 _ _ hC)) hoe4 (Heap.get?_push_at rfl rfl) (by simp [sizeLine_eq]) fun h5 t5 k5 e5 => ?_
  have J0 := I4.write (h' := h5) (t' := s.toks + ((["self", "value"] : List Str).zip us).length + 1 + 1) (x := a) (e := a) (o := exo a C none) (by rw [ha]; exact True.intro) (.inl rfl) k5 ⟨_, e5⟩ (exo_ok e5)
  have eu : upd H a (exo a C none) = H := by
    funext b
    by_cases hb : b = a
    · rw [hb, upd_same, ha]
    · rw [upd_ne hb]
  rw [eu] at J0
  show PySem.wpAt _ _ _ (execs [.Assign [.Attribute (.Name "self" p6) "value" p7] (.Name "value" p8) p9] _) _ _ _
  refine wpAt_of_wpAny ?_
  have pst : PSs (NdefX.ncx CX P w K mg base ["self", "value", "__class__"] F f A outer s H E) [.Assign [.Attribute (.Name "self" p6) "value" p7] (.Name "value" p8) p9] (tOst K "value" (tVar 0) (tVar 1)) := pss_one (ps_ost (pv 0) (pv 1) rfl)
  refine wpAny_mono (pst.run [] _ _ H { nx := fun _ H' => Q .non H', rt := Q } J0 ⟨v, rfl, .ref a, rfl, a, C, rfl, T, XI.val, .inl ⟨ha, fun dx n ne => hq dx n ne⟩⟩) (fun fl s' hs => ?_) fun e s' hs => hs
  cases fl with
  | ret u =>
    obtain ⟨v, σ', H', J, rv, q⟩ := hs
    exact ⟨v, H', J.os, J.bare, J.base, J.hok, rv, q⟩
  | next =>
    obtain ⟨σ', H', J, q⟩ := hs
    exact ⟨.non, H', J.os, J.bare, J.base, J.hok, rfl, q⟩
  | brk =>
    obtain ⟨_, _, _, q⟩ := hs
    exact False.elim q
  | cont =>
    obtain ⟨_, _, _, q⟩ := hs
    exact False.elim q
end Sq


set_option Elab.async false
set_option maxRecDepth 100000
set_option maxHeartbeats 4000000
namespace Sq
open PySem PySem.Spec PyProof.Rows L2
/-! ## an exception that has been caught and is kept -/
/-- at a: an exception of the class cls with the dict d, at rest -/
def Xo (a : Addr) (cls : Value) (d : Option Addr) : HO := .ext fun h => ∃ (oe : Obj) (vs : Array Value), h.get? a = some oe ∧ Zc cls d oe ∧ oe.data = .fields vs
theorem xo_ok {P : Program} {w : World} {H : Hp} {h : Heap} {a : Addr} {cls : Value} {d : Option Addr} {oe : Obj} {vs : Array Value} (e : h.get? a = some oe) (z : Zc cls d oe) (f : oe.data = .fields vs) : ObjOk P w H h a (Xo a cls d) :=
  ⟨⟨oe, vs, e, z, f⟩, ⟨_, e⟩, fun _ _ ⟨o2, v2, e2, z2, f2⟩ k => ⟨o2, v2, k _ e2, z2, f2⟩⟩
theorem xo_at {P : Program} {w : World} {H : Hp} {h : Heap} {a : Addr} {cls : Value} {d : Option Addr} (hok : HOk P w H h) (e : H a = some (Xo a cls d)) : ∃ (oe : Obj) (vs : Array Value), h.get? a = some oe ∧ Zc cls d oe ∧ oe.data = .fields vs := by
  have x : ObjOk P w H h a (.ext fun h => ∃ (oe : Obj) (vs : Array Value), h.get? a = some oe ∧ Zc cls d oe ∧ oe.data = .fields vs) := hok a _ e
  exact x.1
section
variable {X : Cx} {pins : List (Addr × Obj)} {σ : L2.St} {H : Hp} {s : Shared} {a : Addr} {cls : Value} {d : Option Addr} {oe : Obj} {vs : Array Value}
/-- an object that is younger than the entry and that nothing holds is kept from now on -/
theorem track (J : Inv X pins σ H s) (e : s.heap.get? a = some oe) (na : H a = none) (nL : a ≠ X.env.locals) (np : ∀ p ∈ X.pn ++ pins, p.1 ≠ a) (young : X.s_0.heap.get? a = none) (z : Zc cls d oe) (f : oe.data = .fields vs) : Inv X pins σ (upd H a (Xo a cls d)) s := by
  have old : ∀ {b : Addr} {o : Obj}, X.s_0.heap.get? b = some o → b ≠ a := fun {b o} q c => by
    rw [c, young] at q
    cases q
  have set : ∀ {b : Addr} {o : HO}, H b = some o → b ≠ a := fun {b o} q c => by
    rw [c, na] at q
    cases q
  refine ⟨J.ok, J.os, J.bare, ⟨J.base.keep, J.base.slot, fun b o q n x => ?_, J.base.there, fun b xs q => ?_, fun b o v q => ?_, fun b ps q => ?_⟩, J.loc, J.cell, ?_, fun y c q => ?_, fun p hp => ?_, fun b o q => ?_, J.len⟩
  · rw [upd_ne (old q)]
    exact J.base.free b o q n x
  · have z := J.base.tups b xs q
    rw [upd_ne (set z)]
    exact z
  · have z := J.base.frzs b o v q
    rw [upd_ne (set z)]
    exact z
  · obtain ⟨more, z⟩ := J.base.tbls b ps q
    exact ⟨more, by rw [upd_ne (set z)]; exact z⟩
  · rw [upd_ne (Ne.symm nL)]
    exact J.free
  · have nc : c ≠ a := fun h => by
      obtain ⟨w, o, e2, d2⟩ := J.cell y c q
      rw [h, e] at e2
      cases e2
      rw [f] at d2
      cases d2
    rw [upd_ne nc]
    exact J.freeC y c q
  · obtain ⟨e1, n1, r1⟩ := J.pin p hp
    exact ⟨e1, by rw [upd_ne (np p hp)]; exact n1, r1⟩
  · by_cases hb : b = a
    · subst hb
      rw [upd_same] at q
      cases q
      exact xo_ok e z f
    · rw [upd_ne hb] at q
      have own : ∀ c, H c = some (.own b) → c ≠ a := fun c hc h => by
        rw [h, na] at hc
        cases hc
      exact (J.hok b o q).stay (fun c v _ k => k) (fun c hc => by rw [upd_ne (own c hc)]; exact hc) fun c xs hc => by rw [upd_ne fun h => by rw [h, na] at hc; cases hc]; exact hc
end

/-- what is wished behind the suite of 'except x as n' -/
def keepD (D : Ends) (i : Nat) : Ends where
  nx := fun τ G => D.nx (τ.set i none) G
  rt := D.rt
  bk := fun τ G => D.bk (τ.set i none) G
  ct := fun τ G => D.ct (τ.set i none) G
def wKeep (K : PySem.W.Frag) (c : Value) (i : Nat) (ts : Addr → Value → Option Addr → TS) (Wout : WX) (D : Ends) : WX := fun cls d σ H => ∃ b, PySem.W.exmOne K cls c = some b ∧
  (b = true → ∀ a, H a = none → ts a cls d (keepD D i) (σ.set i (some (.ref a))) (upd H a (Xo a cls d))) ∧ (b = false → Wout cls d σ H)
/-- into the suite and out of it -/
theorem suite_in {X : Cx} {pins : List (Addr × Obj)} {σ : L2.St} {H : Hp} {s : Shared} {a : Addr} (I : Inv X pins σ H s) : Inv (X.suite a (X.pn ++ pins)) [] σ H s :=
  ⟨I.ok.suite _ _, I.os, I.bare, I.base, I.loc, I.cell, I.free, I.freeC, fun p hp => I.pin p (by rw [List.append_nil] at hp; exact hp), I.hok, I.len⟩
theorem suite_out {X : Cx} {pins : List (Addr × Obj)} {σ : L2.St} {H : Hp} {s : Shared} {a : Addr} (I : Inv (X.suite a (X.pn ++ pins)) [] σ H s) (ok : X.Ok) : Inv X pins σ H s :=
  ⟨ok, I.os, I.bare, I.base, I.loc, I.cell, I.free, I.freeC, fun p hp => I.pin p (by rw [List.append_nil]; exact hp), I.hok, I.len⟩
section
variable {X : Cx} {x n : Str} {c : Value} {i : Nat} {body rest : List Stmt} {st : Stmt} {np pos pos2 : Pos} {tb : WX → TS} {ts : Addr → Value → Option Addr → TS} {Wout : WX}
/-- as ps_try_as; the exception stays behind the suite -/
theorem ps_try_keep (hs : X.stack = X.env :: X.outer) (hf : X.env.frame = some X.env.locals) (hN : X.N.Nodup) (hi : X.N[i]? = some n) (hln : X.env.kindOf n = some .local) (hex : X.ex = []) (hc : Names X x c) (tk : Takes X Wout)
    (hb : ∀ (W : WX) (pn : List (Addr × Obj)) (xe : Value → Shared → Prop), Takes (X.tr pn xe) W → PassesOwn (model X.prog X.w) X.A X.env xe → PSs (X.tr pn xe) body (tb W))
    (hsu : ∀ (a : Addr) (cls : Value) (d : Option Addr) (pn : List (Addr × Obj)), PSs (X.suite a pn) (st :: rest) (ts a cls d)) :
    PS X (.Try body [.ExceptHandler (some (.Name x np)) (some n) (st :: rest) pos2] [] [] pos) (fun D σ H => tb (wKeep X.K c i ts Wout D) D σ H) := by
  refine ⟨fun pins s σ H D I h => wpAny_Try_except ?_⟩
  have ok := I.ok
  have hfr : X.A.frames = some (X.env :: X.outer) := by rw [ok.frames, hs]
  have hlc : Loc X.env.scope n := .inl hln
  have seen : ∀ {C : Heap} {h : Heap} {q : Addr} {o : Obj} {vs : Array Value}, h.FunFrames C (X.env :: X.outer) → h.get? q = some o → o.data = .fields vs → q ∉ frs (X.env :: X.outer) := fun {C h q o vs} ff e dd hm => by
    obtain ⟨_, o2, e2, nn⟩ := ff.mem hm
    rw [e] at e2
    cases e2
    exact nn _ dd
  refine wpAny_mono ((hb (wKeep X.K c i ts Wout D) (X.pn ++ pins) _ (fun u s2 air => ?_) PassesOwn.looking).run [] s σ H D (I.toTry _) h) (fun fl s2 q => ?_) fun _ _ z => z
  · obtain ⟨a, G, sI, pins2, τ, H2, cls, d, rfl, J2, nb, up, sky, na, os, ag, b, hb1, yes, no⟩ := air
    have J : Inv X pins τ H2 sI := J2.ofTry ok
    rw [hs] at sky
    refine Sky.land Zc.steady hfr hf sky fun h3 l3 up3 => ?_
    have J3 : Inv X pins τ H2 { s2 with heap := h3 } := J.landed nb l3.1 (up.trans up3) os ag
    obtain ⟨o3, v3, e3, z3, d3⟩ := l3.there
    have out := seen l3.2.2.1 e3 d3
    have nL : a ≠ X.env.locals := fun z => out (List.mem_filterMap.mpr ⟨X.env, List.mem_cons_self, by rw [hf, z]⟩)
    have nF : a ∉ X.fs := fun hm => by
      obtain ⟨e, he, q⟩ := List.mem_filterMap.mp hm
      exact out (List.mem_filterMap.mpr ⟨e, List.mem_cons_of_mem _ he, q⟩)
    have young : sI.heap.get? a = none := by
      cases q : sI.heap.get? a with
      | none => rfl
      | some o =>
        have z := nb a o q (by rw [hs]; exact out)
        rw [l3.2.1] at z
        cases z
    have young0 : X.s_0.heap.get? a = none := by
      cases q : X.s_0.heap.get? a with
      | none => rfl
      | some o =>
        obtain ⟨o2, z⟩ := J.base.there a o q (by rw [hex]; simp)
        rw [young] at z
        cases z
    have off : ∀ p ∈ X.pn ++ pins, p.1 ≠ a := fun p hp z => by
      have y := (J.pin p hp).1
      rw [z, young] at y
      cases y
    have S3 := J3.suite e3 d3 na nL nF
    have LT : PySem.W.Looks (model X.prog X.w) h3 (typeOf (.ref a)) cls := fun _ _ _ s k q => wpAny_typeOf_ref (k _ _ e3) (by rw [z3.1]; exact q)
    have LM := PySem.W.exm_one (M := model X.prog X.w) J3.kIn LT hb1
    have ask : ∀ {Q2 : Value → Shared → Prop} {E2 : Value → Shared → Prop}, Q2 c { s2 with heap := h3 } → wpAny (model X.prog X.w) (X.A.mark (some (.ref a))) (eval (.Name x np) X.env) Q2 E2 { s2 with heap := h3 } := fun {Q2 E2} q => by
      obtain ⟨hg, hdb, hm | ⟨hm, hv, hnn⟩⟩ := hc
      · exact ld_glob (X := X.suite a ((a, o3) :: (X.pn ++ pins))) S3 hg hm q hdb
      · exact ld_blt (X := X.suite a ((a, o3) :: (X.pn ++ pins))) S3 hg hm hv q hnn hdb
    refine wpAny_handleBy_cons (codeAny_handlers_test (ask (LM.here ?_))) (by intro q; cases q)
    cases b with
    | true =>
      refine codeAny_handlers_suite_as (HandSPX.lands_againZ l3 fun h4 l4 up4 => ?_)
      have J4 : Inv X pins τ H2 { s2 with heap := h4 } := J.landed nb l4.1 ((up.trans up3).trans up4) os ag
      obtain ⟨o4, v4, e4, z4, d4⟩ := l4.there
      have S4 : Inv (X.suite a (X.pn ++ pins)) [] τ (upd H2 a (Xo a cls d)) { s2 with heap := h4 } := suite_in (track J4 e4 na nL off young0 z4 d4)
      refine store_ok (X := X.suite a (X.pn ++ pins)) (v := .ref a) S4 hN hi hlc rfl (fun s5 S5 => ?_) (.inr hln)
      refine wpAny_mono ((hsu a cls d (X.pn ++ pins)).run [] s5 _ _ _ S5 (yes rfl a na)) (fun fl s6 hsp => ?_) fun _ _ z => z.elim
      have fin : ∀ {σ6 : L2.St} {H6 : Hp} {Q2 : Shared → Prop}, Inv (X.suite a (X.pn ++ pins)) [] σ6 H6 s6 → (∀ s7, Inv X pins (σ6.set i none) H6 s7 → Q2 s7) →
          wpAny (model X.prog X.w) X.A (do bindName X.env n .none; unbindBehindTheSuite X.env n pos2) (fun _ s7 => Q2 s7) X.xe s6 := fun {σ6 H6 Q2} S6 hq =>
        gone_ok (X := X.suite a (X.pn ++ pins)) S6 hN hi hln fun s7 S7 => hq s7 (suite_out S7 ok)
      cases fl with
      | next =>
        obtain ⟨σ6, H6, S6, q6⟩ := hsp
        exact fin S6 fun s7 J7 => ⟨_, _, J7, q6⟩
      | brk =>
        obtain ⟨σ6, H6, S6, q6⟩ := hsp
        exact fin S6 fun s7 J7 => ⟨_, _, J7, q6⟩
      | cont =>
        obtain ⟨σ6, H6, S6, q6⟩ := hsp
        exact fin S6 fun s7 J7 => ⟨_, _, J7, q6⟩
      | ret u =>
        obtain ⟨v6, σ6, H6, S6, r6, q6⟩ := hsp
        exact fin S6 fun s7 J7 => ⟨_, _, _, J7, r6, q6⟩
    | false =>
      refine wpAny_handleBy_nil ?_
      obtain ⟨_, _, _, oe, vs, T, _, _, he, _, hd, h1, _⟩ := id l3
      unfold PySem.passOn
      refine wpAny_bind (wpAny_field he hd h1 ?_)
      rw [if_neg (show ¬ ((Value.ref T == Value.none) = true) from by simp)]
      have go : wpAny (model X.prog X.w) X.A (setFlight (.ref a) X.env.frame) (fun _ s4 => wpAny (model X.prog X.w) X.A (throw (.ref a) : Sem Flow) (SP X pins D) X.xe s4) X.xe { s2 with heap := h3 } := by
        rw [hf]
        exact HandSPX.setFlight_upZ l3 fun h4 g4 up4 => wpAny_throw (tk _ _ ⟨a, G, sI, pins, τ, H2, cls, d, rfl, J, nb, (up.trans up3).trans up4, .inr (.inr (by rw [hs]; exact g4)), na, os, ag, no rfl⟩)
      first
        | exact wpAny_bind (wpAny_pure (wpAny_bind go))
        | exact wpAny_bind go
  · cases fl with
    | next =>
      obtain ⟨τ, H2, J, q⟩ := q
      exact wpAny_execs_nil ⟨τ, H2, J.ofTry ok, q⟩
    | brk =>
      obtain ⟨τ, H2, J, q⟩ := q
      exact ⟨τ, H2, J.ofTry ok, q⟩
    | cont =>
      obtain ⟨τ, H2, J, q⟩ := q
      exact ⟨τ, H2, J.ofTry ok, q⟩
    | ret u =>
      obtain ⟨v, τ, H2, J, r, q⟩ := q
      exact ⟨v, τ, H2, J.ofTry ok, r, q⟩
end

/-! ## a kept exception looked at -/
/-- at a: a kept exception of the own class C with the attributes fs -/
def Kept (H : Hp) (a C : Addr) (fs : List (Str × V)) : Prop := ∃ d, (H a = some (Xo a (.ref C) (some d)) ∧ H d = some (.xd fs)) ∨ (H a = some (exo a C (some d)) ∧ H d = some (exd d fs))
theorem kept_at {X : Cx} {pins : List (Addr × Obj)} {σ : L2.St} {H : Hp} {s : Shared} {a C : Addr} {fs : List (Str × V)} (I : Inv X pins σ H s) (k : Kept H a C fs) :
    ∃ (oe od : Obj) (d : Addr) (mA : Str → Option Value), PySem.W.InstAt s.heap a oe C (some od) ∧ s.heap.get? d = some od ∧ s.heap.Ns1 d mA ∧ ∀ f, RelO (fs.lookup f) (mA f) := by
  obtain ⟨d, ⟨h1, h2⟩ | ⟨h1, h2⟩⟩ := k
  · obtain ⟨oe, vs, e, z, f⟩ := xo_at I.hok h1
    have hx : ObjOk X.prog X.w H s.heap d (.xd fs) := I.hok d _ h2
    obtain ⟨mA, hns, hr⟩ := hx
    obtain ⟨od, ho, _⟩ := lookIn_ns hns
    exact ⟨oe, od, d, mA, ⟨e, z.1, by unfold PySem.W.notCls; rw [f] <;> rfl, by rw [z.2]; exact ho⟩, ho, hns, hr⟩
  · obtain ⟨t1, e⟩ := exo_at I.hok h1
    obtain ⟨mA, hns, hr⟩ := exd_at I.hok h2
    obtain ⟨od, ho, _⟩ := lookIn_ns hns
    exact ⟨_, od, d, mA, ⟨e, rfl, rfl, ho⟩, ho, hns, hr⟩
def rIsX (K : PySem.W.Frag) : List V → Hp → VK → Prop := fun xs H Q => ∃ (a C : Addr) (fs : List (Str × V)) (c : V) (cv : Value) (b : Bool), xs = [.ref a, c] ∧ Kept H a C fs ∧ ExcC K C ∧ ClsV c cv ∧ PySem.W.kitOne K (.ref C) cv = some b ∧ Q (.bl b) H
theorem call_isX {X : Cx} {K : PySem.W.Frag} (h : X.K = K := by rfl) : CallR X (.builtin "isinstance") (rIsX K) := by
  subst h
  intro pins s σ H xs us Q I r h
  obtain ⟨a, C, fs, c, cv, b, rfl, k, EC, hc, e, q⟩ := h
  obtain ⟨oe, od, d, mA, J, _⟩ := kept_at I k
  cases r with
  | @cons _ u0 _ ur rx rr =>
    cases rr with
    | @cons _ u1 _ _ rt rr =>
      cases rr
      cases rx
      have ec : u1 = cv := by
        cases hc <;> exact rt
      subst ec
      obtain ⟨cd, hcd, _⟩ := PySem.W.any_some EC.hd
      exact PySem.W.kia_one (PySem.W.kitx_exc (by rw [hcd]; rfl) EC.hg EC.hk EC.hs EC.ha EC.hn EC.ht EC.hm) I.kIn J e (fun z => nomatch z) fun tk => ⟨.bl b, H, I.kept (t' := tk) fun _ _ z => z, rfl, q⟩
def tXv (K : PySem.W.Frag) (te : TE) (f : Str) : TE := fun σ H Q => te σ H fun x H1 => ∃ (a C : Addr) (fs : List (Str × V)) (v : V), x = .ref a ∧ Kept H1 a C fs ∧ XfC K C ∧ PySem.W.findIn K (.ref C) f = some none ∧ fs.lookup f = some v ∧ Q v H1
theorem pe_xv {X : Cx} {K : PySem.W.Frag} {e : Expr} {te : TE} {f : Str} {pos : Pos} (he : PE X e te) (hb : attributeBase e f X.env (eval e X.env) = eval e X.env := by rfl) (h : X.K = K := by rfl) : PE X (.Attribute e f pos) (tXv K te f) := by
  subst h
  refine ⟨fun pins s σ H Q I h => attr_of hb (thn (he.run pins s σ H _ I h) fun u s1 hh => ?_)⟩
  obtain ⟨x, H1, I1, rx, a, C, fs, v, rfl, k, T, hno, l, q⟩ := hh
  obtain rfl : u = Value.ref a := rx
  obtain ⟨oe, od, d, mA, J, ho, hns, hr⟩ := kept_at I1 k
  obtain ⟨od2, ho2, hl⟩ := lookIn_ns hns
  rw [ho] at ho2
  cases ho2
  obtain ⟨u, hu, ru⟩ := RelO.some_of (v := v) (o := mA f) (by rw [← l]; exact hr f)
  exact HandSPX.exc_get I1.kIn J T.ga T.gg T.exC (PySem.W.findObj_own T.hdC hno rfl (by rw [hl, hu])) (handed_of ru) ⟨v, H1, I1.tok _, ru, q⟩
end Sq


set_option Elab.async false
set_option maxRecDepth 100000
set_option maxHeartbeats 4000000
namespace Sq
open PySem PySem.Spec PyProof.Rows L2
/-! ## raise C(e), C an own class with the __init__ of MExc -/
structure Rai (P : Program) (w : World) (K : PySem.W.Frag) (mg : Str → Option Value) (base : Heap) (k : Nat) (x : Str) (C : Addr) : Prop where
  ex : ∃ (f : Addr) (fd : FuncData), OexC K C ∧ PySem.W.findIn K (.ref C) "__init__" = some (some (.ref f)) ∧ PySem.W.typeIn K (.ref f) = some (.type "function") ∧ FnOk P w K mg base CX0 k f fd ["self", "value"] (spXI C) ∧ mg x = some (.ref C) ∧ L2.Binds K fd ["self", "value"] []
def tRx (W : WX) (C : Addr) (te : TE) : TS := fun _ σ H => te σ H fun v H1 => ∀ d, H1 d = none → W (.ref C) (some d) σ (upd H1 d (.xd [("value", v)]))
theorem heap_rx {H : Hp} {a d : Addr} {u z o : HO} (na : H a = none) (n : d ≠ a) : upd (del (upd (upd (upd H a u) d z) a o) a) d (.xd [("value", v)]) = upd H d (.xd [("value", v)]) := by
  funext b
  by_cases h1 : b = d
  · rw [h1, upd_same, upd_same]
  · rw [upd_ne h1, upd_ne h1]
    by_cases h2 : b = a
    · rw [h2, del_same, na]
    · rw [del_ne h2, upd_ne h2, upd_ne h1, upd_ne h2]
/-- a reading that may be weakened -/
def tWk (te : TE) : TE := fun σ H Q => ∃ R : VK, te σ H R ∧ ∀ v G, R v G → Q v G
theorem pe_wk {X : Cx} {e : Expr} {te : TE} (h : PE X e te) : PE X e (tWk te) := ⟨fun pins s σ H Q I ⟨R, q, k⟩ => wpAny_mono (h.run pins s σ H R I q) (fun u s1 ⟨x, G, J, r, z⟩ => ⟨x, G, J, r, k _ _ z⟩) fun _ _ z => z⟩
section
variable {X : Cx} {W : WX} {k j : Nat} {C : Addr} {x : Str} {p pos pos2 : Pos} {e : Expr} {te : TE}
theorem ps_rx (c : Rai X.prog X.w X.K X.mg X.base k x C) (hr : Room j X.A) (hk : k + 1 ≤ j) (hg : Gl X x) (tk : Takes X W) (ha : PE X e te) (hc : X.calm = true := by rfl)
    (hdb : (x == ("__debug__" : Str)) = false := by decide) (he : starEach [e] X.env = (false, eval e X.env) :: starEach [] X.env := by rfl) (hpl : (backTo pos (starEach [] X.env)).any (·.1) = false := by rfl) : PS X (.Raise (some (.Call (.Name x p) [e] [] pos)) none pos2) (tRx W C te) := by
  obtain ⟨f, fd, T, iC, tI, F, hm, b⟩ := c.ex
  have mk := pmk_oex (pos := pos) (p := p) T iC tI F (hr.mono hk) b .nil pass0 hg hm (pa_cons (pe_wk ha) pa_nil he) hdb he hpl
  have r := ps_raise (pos := pos2) hc tk mk
  refine ⟨fun pins s σ H D I h => r.run pins s σ H D I ⟨_, h, fun v G q => ⟨Nat.le_of_ble_eq_true rfl, fun a na => ⟨a, v, rfl, upd_same, fun dx nd ne => ?_⟩⟩⟩⟩
  have nd' : G dx = none := by
    rw [upd_ne ne] at nd
    exact nd
  refine ⟨rfl, dx, _, upd_same, by rw [upd_ne ne, upd_same], nd', ?_⟩
  rw [heap_rx na ne]
  exact q dx nd'
end

/-! ## defs that may raise -/
structure CalX (P : Program) (w : World) (K : PySem.W.Frag) (mg : Str → Option Value) (base : Heap) (k : Nat) (x : Str) (sp : Sp) : Prop where
  ex : ∃ (f : Addr) (fd : FuncData) (ps : List Str), FnOk P w K mg base (L2.CX P w) k f fd ps sp ∧ mg x = some (.ref f) ∧ PySem.W.keepIn K (.ref f) = true ∧ L2.Binds K fd ps []
section
variable {P : Program} {w : World} {K : PySem.W.Frag} {mg : Str → Option Value} {base : Heap}
theorem DefAt.calX {x : Str} {st : Stmt} {ps N : List Str} {k : Nat} {sp : Sp} (D : DefAt K mg x st ps) (S : FnScope N ps (defScope st)) (len : ∀ vs H Q E, sp vs H Q E → vs.length = ps.length)
    (hb : ∀ (f : Addr) (cdv : Value) (A : Around) (outer : List Env) (s : Shared) (H : Hp) (vs : List V) (Q : VK) (E : XK), Room k (A.deeper (envOfC x (defScope st) s.heap.objs.size f cdv)) → sp vs H Q E →
      (Takes (cxOf (L2.CX P w) P w K mg base N x (defScope st) f cdv A outer s H E) fun cls d _ G => E cls d G) →
      ∃ t, PSs (cxOf (L2.CX P w) P w K mg base N x (defScope st) f cdv A outer s H E) (defBody st) t ∧ t { nx := fun _ H' => Q .non H', rt := Q } (start N vs) H) : CalX P w K mg base (k + 1) x sp := by
  obtain ⟨f, fd, F, hm, b⟩ := D.ex
  exact ⟨f, fd, ps, F.okX S len fun cdv A outer s H vs Q E hr hsp => hb f cdv A outer s H vs Q E hr hsp (takes_of rfl rfl rfl rfl), hm, F.kp, b⟩
/-- where it raises nothing it is a plain def -/
theorem fn_calm {k : Nat} {f : Addr} {fd : FuncData} {ps : List Str} {sp sp' : Sp} (F : FnOk P w K mg base (L2.CX P w) k f fd ps sp) (h : ∀ vs H Q E, sp' vs H Q E → sp vs H Q E0) : FnOk P w K mg base CX0 k f fd ps sp' := by
  refine ⟨fun vs H Q E q => F.len _ _ _ _ (h _ _ _ _ q), fun A outer s H args us vs Q E hr e0 b r q => codeAny_mono (F.run A outer s H args us vs Q E0 hr e0 b r (h _ _ _ _ q)) fun res s' z => ?_⟩
  cases res with
  | ok fl => cases fl <;> exact z
  | error e =>
    obtain ⟨_, _, _, _, _, _, _, _, _, _, _, _, no⟩ := z
    exact no.elim
theorem CalX.calm {x : Str} {k : Nat} {sp sp' : Sp} (c : CalX P w K mg base k x sp) (h : ∀ vs H Q E, sp' vs H Q E → sp vs H Q E0) : Cal P w K mg base k x sp' [] := by
  obtain ⟨f, fd, ps, F, hm, kp, b⟩ := c.ex
  exact ⟨f, fd, ps, [], fn_calm F h, hm, kp, b, .nil⟩
theorem CalX.imp {x : Str} {k j : Nat} {sp sp' : Sp} (c : CalX P w K mg base k x sp) (hk : k ≤ j) (h : ∀ vs H Q E, sp' vs H Q E → sp vs H Q E) : CalX P w K mg base j x sp' := by
  obtain ⟨f, fd, ps, F, hm, kp, b⟩ := c.ex
  exact ⟨f, fd, ps, (F.mono hk).imp h, hm, kp, b⟩
end
section
variable {X : Cx} {W : WX} {k j : Nat} {x : Str} {sp : Sp} {p pos : Pos} {e : Expr} {es : List Expr} {t : TA}
/-- a call that may raise, where W is wished of what is raised -/
theorem pe_cx (c : CalX X.prog X.w X.K X.mg X.base k x sp) (hr : Room j X.A) (hk : k ≤ j) (tk : Takes X W) (hg : Gl X x) (ha : PA X (e :: es) t)
    (hdb : (x == ("__debug__" : Str)) = false := by decide) (he : starEach (e :: es) X.env = (false, eval e X.env) :: starEach es X.env := by rfl) (hpl : (backTo pos (starEach es X.env)).any (·.1) = false := by rfl) :
    PE X (.Call (.Name x p) (e :: es) [] pos) (tCallS sp (WE W) t) := by
  obtain ⟨f, fd, ps, F, hm, kp, b⟩ := c.ex
  exact pe_callS F (hr.mono hk) hg hm kp b (passAt tk) ha hdb he hpl
/-- a call of such a def that raises nothing -/
theorem pe_cx0 (c : CalX X.prog X.w X.K X.mg X.base k x sp) (hr : Room j X.A) (hk : k ≤ j) (hg : Gl X x) (ha : PA X (e :: es) t)
    (hdb : (x == ("__debug__" : Str)) = false := by decide) (he : starEach (e :: es) X.env = (false, eval e X.env) :: starEach es X.env := by rfl) (hpl : (backTo pos (starEach es X.env)).any (·.1) = false := by rfl) :
    PE X (.Call (.Name x p) (e :: es) [] pos) (tCall sp [] E0 t) := by
  obtain ⟨f, fd, ps, F, hm, kp, b⟩ := c.ex
  exact L2.pe_call F (hr.mono hk) hg hm kp b .nil passL ha hdb he hpl
end

/-! ## methods and new objects that may raise -/
structure MetX (P : Program) (w : World) (K : PySem.W.Frag) (mg : Str → Option Value) (base : Heap) (k : Nat) (C : Addr) (m : Str) (sp : Sp) : Prop where
  ex : ∃ (f : Addr) (fd : FuncData) (ps : List Str), Cls K C ∧ Meth K C m f ∧ FnOk P w K mg base (L2.CX P w) k f fd ps sp ∧ L2.Binds K fd ps []
structure MakX (P : Program) (w : World) (K : PySem.W.Frag) (mg : Str → Option Value) (base : Heap) (k : Nat) (x : Str) (C : Addr) (sp : Sp) : Prop where
  ex : ∃ (f : Addr) (fd : FuncData) (ps : List Str), Mk K C f ∧ FnOk P w K mg base (L2.CX P w) k f fd ps sp ∧ mg x = some (.ref C) ∧ L2.Binds K fd ps []
section
variable {P : Program} {w : World} {K : PySem.W.Frag} {mg : Str → Option Value} {base : Heap} {C : Addr} {m x qual : Str} {st : Stmt} {ps N : List Str} {k : Nat} {sp : Sp}
theorem MetAt.metX (D : MetAt K C m qual st ps) (cl : Cls K C) (S : FnScope N ps (defScope st)) (len : ∀ vs H Q E, sp vs H Q E → vs.length = ps.length)
    (hb : ∀ (f : Addr) (cdv : Value) (A : Around) (outer : List Env) (s : Shared) (H : Hp) (vs : List V) (Q : VK) (E : XK), Room k (A.deeper (envOfC qual (defScope st) s.heap.objs.size f cdv)) → sp vs H Q E →
      (Takes (cxOf (L2.CX P w) P w K mg base N qual (defScope st) f cdv A outer s H E) fun cls d _ G => E cls d G) →
      ∃ t, PSs (cxOf (L2.CX P w) P w K mg base N qual (defScope st) f cdv A outer s H E) (defBody st) t ∧ t { nx := fun _ H' => Q .non H', rt := Q } (start N vs) H) : MetX P w K mg base (k + 1) C m sp := by
  obtain ⟨f, fd, F, hm, b⟩ := D.ex
  exact ⟨f, fd, ps, cl, hm, F.okX S len fun cdv A outer s H vs Q E hr hsp => hb f cdv A outer s H vs Q E hr hsp (takes_of rfl rfl rfl rfl), b⟩
theorem IniAt.makX (D : IniAt K mg C x qual st ps) (S : FnScope N ps (defScope st)) (len : ∀ vs H Q E, sp vs H Q E → vs.length = ps.length)
    (hb : ∀ (f : Addr) (cdv : Value) (A : Around) (outer : List Env) (s : Shared) (H : Hp) (vs : List V) (Q : VK) (E : XK), Room k (A.deeper (envOfC qual (defScope st) s.heap.objs.size f cdv)) → sp vs H Q E →
      (Takes (cxOf (L2.CX P w) P w K mg base N qual (defScope st) f cdv A outer s H E) fun cls d _ G => E cls d G) →
      ∃ t, PSs (cxOf (L2.CX P w) P w K mg base N qual (defScope st) f cdv A outer s H E) (defBody st) t ∧ t { nx := fun _ H' => Q .non H', rt := Q } (start N vs) H) : MakX P w K mg base (k + 1) x C sp := by
  obtain ⟨f, fd, F, hm, hg, b⟩ := D.ex
  exact ⟨f, fd, ps, hm, F.okX S len fun cdv A outer s H vs Q E hr hsp => hb f cdv A outer s H vs Q E hr hsp (takes_of rfl rfl rfl rfl), hg, b⟩
end
theorem MetX.calm {P : Program} {w : World} {K : PySem.W.Frag} {mg : Str → Option Value} {base : Heap} {C : Addr} {m : Str} {k : Nat} {sp sp' : Sp} (c : MetX P w K mg base k C m sp) (h : ∀ vs H Q E, sp' vs H Q E → sp vs H Q E0) : Met P w K mg base k C m sp' := by
  obtain ⟨f, fd, ps, c1, c2, F, b⟩ := c.ex
  exact ⟨f, fd, ps, c1, c2, fn_calm F h, b⟩
theorem MakX.calm {P : Program} {w : World} {K : PySem.W.Frag} {mg : Str → Option Value} {base : Heap} {C : Addr} {x : Str} {k : Nat} {sp sp' : Sp} (c : MakX P w K mg base k x C sp) (h : ∀ vs H Q E, sp' vs H Q E → sp vs H Q E0) : Mak P w K mg base k x C sp' := by
  obtain ⟨f, fd, ps, M, F, hm, b⟩ := c.ex
  exact ⟨f, fd, ps, M, fn_calm F h, hm, b⟩
def tMethS (C : Addr) (m : Str) (sp : Sp) (E : L2.St → XK) (ta : TE) (t : TA) : TE := fun σ H Q => ta σ H fun x H1 => ∃ a dx fs, x = .ref a ∧ H1 a = some (.ins C dx fs) ∧ fs.lookup m = none ∧ t σ H1 fun vs H2 => sp (x :: vs) H2 Q (E σ)
def tMakeS (C : Addr) (sp : Sp) (E : L2.St → XK) (t : TA) : TE := fun σ H Q => t σ H fun vs H1 => ∀ x dx, H1 x = none → H1 dx = none → dx ≠ x →
  sp (.ref x :: vs) (upd (upd H1 dx (.own x)) x (.ins C dx [])) (fun v H2 => v = .non ∧ Q (.ref x) H2) (E σ)
section
variable {X : Cx} {W : WX} {k j : Nat} {C : Addr} {x m : Str} {sp : Sp} {p pos apos : Pos} {e o : Expr} {es : List Expr} {ta : TE} {t : TA}
theorem pe_mx {pl : Sem Bool} (c : MetX X.prog X.w X.K X.mg X.base k C m sp) (hr : Room j X.A) (hk : k ≤ j) (tk : Takes X W) (he : PE X o ta) (ha : PA X (e :: es) t)
    (ht : eval (.Call (.Attribute o m apos) (e :: es) [] pos) X.env = (do
      let ov ← eval o X.env
      standAt apos.atName
      let (f, first) ← holding [ov] (getMethod ov m pl)
      callWith pos f first (backTo pos (starEach (e :: es) X.env)) (backToKw pos (keywordEach [] X.env))) := by rfl)
    (hst : starEach (e :: es) X.env = (false, eval e X.env) :: starEach es X.env := by rfl) (hpl : (backTo pos (starEach es X.env)).any (·.1) = false := by rfl) : PE X (.Call (.Attribute o m apos) (e :: es) [] pos) (tMethS C m sp (WE W) ta t) := by
  obtain ⟨f, fd, ps, cl, hm, F, b⟩ := c.ex
  refine ⟨fun pins s σ H Q I h => PySem.W.methodCall_KW (pl := pl) (thn (he.run pins s σ H _ I h) fun u s1 hh => ?_) ht⟩
  obtain ⟨x, H1, I1, rx, a, dx, fs, rfl, ea, l, q⟩ := hh
  obtain rfl : u = Value.ref a := rx
  refine getmeth_ok I1 ea cl hm l (PySem.W.callWith_K (first := [.ref a]) (h₀ := X.base) I.ok.mod.kin hm.kp (thn (ha.run pos pins s1 σ H1 _ I1 q) fun us s2 hh => ?_) hst hpl)
  obtain ⟨vs, H2, I2, r, q2⟩ := hh
  exact ⟨I2.kIn, run_fnS (us := .ref a :: us) (vs := .ref a :: vs) F (hr.mono hk) b (passAt tk σ) I2 (.cons rfl r) q2⟩
theorem pe_mkx (c : MakX X.prog X.w X.K X.mg X.base k x C sp) (hr : Room j X.A) (hk : k + 1 ≤ j) (tk : Takes X W) (hg : Gl X x) (ha : PA X (e :: es) t)
    (hdb : (x == ("__debug__" : Str)) = false := by decide) (he : starEach (e :: es) X.env = (false, eval e X.env) :: starEach es X.env := by rfl) (hpl : (backTo pos (starEach es X.env)).any (·.1) = false := by rfl) :
    PE X (.Call (.Name x p) (e :: es) [] pos) (tMakeS C sp (WE W) t) := by
  obtain ⟨f, fd, ps, M, F, hm, b⟩ := c.ex
  refine ⟨fun pins s σ H Q I h => wpAny_Call_Name_kw (ld_glob I hg hm ?_ hdb)⟩
  refine PySem.W.callWith_K (h₀ := X.base) I.ok.mod.kin M.kp (thn (ha.run pos pins s σ H _ I h) fun us s1 hh => ?_) he hpl
  obtain ⟨vs, H1, I1, r, q⟩ := hh
  refine ⟨I1.kIn, ?_⟩
  have hq := q (s1.heap.objs.size + 1) s1.heap.objs.size (I1.hok.fresh (Nat.le_succ _)) (I1.hok.fresh (Nat.le_refl _)) (Nat.ne_of_lt (Nat.lt_succ_self _))
  have I2 := Inv.made (C := C) I1
  have r2 : Vals (V.ref (s1.heap.objs.size + 1) :: vs) (Value.ref (s1.heap.objs.size + 1) :: us) := .cons rfl r
  have ln : (Value.ref (s1.heap.objs.size + 1) :: us).length = ps.length := by
    rw [← r2.length]
    exact F.len _ _ _ _ hq
  have bb := b _ (Value.ref (s1.heap.objs.size + 1) :: us) I2.kIn (by rw [List.append_nil]; exact ln)
  rw [List.append_nil] at bb
  show wpAny _ _ (call (.ref C) us) _ _ _
  refine wpAny_call (make_map (f := f) I1.kIn M.makes M.init (beq_iff_eq.mp M.fn) (codeAny_mono (F.run _ X.stack _ _ ⟨Value.ref (s1.heap.objs.size + 1) :: us, []⟩ _ _ _ (WE W σ) ((hr.mono hk).make C us []) (I2.env0.make C us []) bb r2 hq) fun r s' hq2 => ?_))
  cases r with
  | error er => exact passAt tk σ pins _ _ er s' I2 hq2
  | ok fl =>
    cases fl with
    | ret u =>
      obtain ⟨v, H', I3, rv, ev, q3⟩ := I2.after hq2
      subst ev
      exact ⟨rv, ⟨V.ref (s1.heap.objs.size + 1), H', I3, rfl, q3⟩⟩
    | next => exact False.elim hq2
    | brk => exact False.elim hq2
    | cont => exact False.elim hq2
theorem pe_mx0 {pl : Sem Bool} (c : MetX X.prog X.w X.K X.mg X.base k C m sp) (hr : Room j X.A) (hk : k ≤ j) (he : PE X o ta) (ha : PA X (e :: es) t)
    (ht : eval (.Call (.Attribute o m apos) (e :: es) [] pos) X.env = (do
      let ov ← eval o X.env
      standAt apos.atName
      let (f, first) ← holding [ov] (getMethod ov m pl)
      callWith pos f first (backTo pos (starEach (e :: es) X.env)) (backToKw pos (keywordEach [] X.env))) := by rfl)
    (hst : starEach (e :: es) X.env = (false, eval e X.env) :: starEach es X.env := by rfl) (hpl : (backTo pos (starEach es X.env)).any (·.1) = false := by rfl) : PE X (.Call (.Attribute o m apos) (e :: es) [] pos) (tMeth C m sp [] E0 ta t) := by
  obtain ⟨f, fd, ps, c1, c2, F, b⟩ := c.ex
  exact L2.pe_meth (pl := pl) he c1 c2 F (hr.mono hk) b .nil passL ha hst hpl ht
theorem pe_mkx0 (c : MakX X.prog X.w X.K X.mg X.base k x C sp) (hr : Room j X.A) (hk : k + 1 ≤ j) (hg : Gl X x) (ha : PA X (e :: es) t)
    (hdb : (x == ("__debug__" : Str)) = false := by decide) (he : starEach (e :: es) X.env = (false, eval e X.env) :: starEach es X.env := by rfl) (hpl : (backTo pos (starEach es X.env)).any (·.1) = false := by rfl) :
    PE X (.Call (.Name x p) (e :: es) [] pos) (tMake C sp [] E0 t) := by
  obtain ⟨f, fd, ps, M, F, hm, b⟩ := c.ex
  exact L2.pe_make M F (hr.mono hk) hg hm b .nil passL ha hdb he hpl
end

/-! ## an exception class of the text, out of what the top has written -/
theorem rai_mk {P : Program} {w : World} {K : PySem.W.Frag} {h base : Heap} {mg : Str → Option Value} {x : Str} {C f cc cda N : Addr} {nm q qual m file : Str} {bs bm sub : List Value} {sn : List Str} {ab : Bool} {col : Option Bool} {dd cld cdd od an : Option Addr} {k0 k1 k2 k3 k5 : Option Value}
    {cl ccl oc kV doc pm ct : Value} {csl ccs osl : Array (Option Value)} {cvs : Array Value} {tf : Tok} {p0 p1 p2 p3 p4 p5 p6 p7 p8 p9 q0 q1 : Pos} (X : K.In h) (G : h.Ns mainGlobals mg) (hm : mg x = some (.ref C))
    (lC : K.lookup C = some (excClassObj nm q C N bs bm true sn sub ab col dd k0 k1 k2 k3 k5 "ValueError.__new__")) (rC : PySem.HandSPX.refsVE bm = true) (sa : PySem.W.findIn K (.ref C) "__setattr__" = some (some (.builtin "object.__setattr__")))
    (ex : PySem.W.subIn K (.ref C) (.type "BaseException") = some true) (ty : PySem.W.typeIn K (.ref C) = some (.type "type")) (kc : PySem.W.keepIn K (.ref C) = true)
    (ini : PySem.W.findIn K (.ref C) "__init__" = some (some (.ref f))) (tyf : PySem.W.typeIn K (.ref f) = some (.type "function"))
    (l : K.lookup f = some ⟨oc, od, .func (PySem.W.ksFn "__init__" qual (xiArgs q0 q1) (xiBody m p0 p1 p2 p3 p4 p5 p6 p7 p8 p9) xiScope .none kV doc pm an (.ref cda) ct cc), osl⟩)
    (co : PySem.W.codeIn K (.ref cda) qual = true) (cell : K.lookup cc = some ⟨cl, cld, .cell (some (.ref C)), csl⟩) (rec_ : K.lookup cda = some ⟨ccl, cdd, .fields cvs, ccs⟩) (v2 : cvs[2]? = some (.str file tf)) (fl : ((P.main.file : Str) == file) = true)
    (top : (P.main.scope.names.lookup ("super" : Str)).isSome = false) (opq : PySem.W.nsIn K PySem.cStatics "thirdparty.any" = some none) (sup : PySem.W.ks_superIn K C C "__init__" = some (some (.builtin "ValueError.__init__"))) (veb : PySem.W.subIn K (.ref C) (.type "ValueError") = some true)
    (slf : PySem.W.mroIn K C (.ref C) = some true) (val : PySem.W.findIn K (.ref C) "value" = some none) (ms : PySem.W.nsIn K mainGlobals "super" = some none) (he : XiCall qual f cc cda m p0 p1 p2 p3 p4)
    (hb : ∀ us : List Value, us.length = 2 → bindArgs (PySem.W.ksFn "__init__" qual (xiArgs q0 q1) (xiBody m p0 p1 p2 p3 p4 p5 p6 p7 p8 p9) xiScope .none kV doc pm an (.ref cda) ct cc) ⟨us, []⟩ = pure ((["self", "value"] : List Str).zip us)) : Rai P w K mg base 1 x C :=
  ⟨f, _, ⟨⟨nm, q, N, bs, bm, sn, sub, ab, col, dd, k0, k1, k2, k3, k5, lC, rC⟩, sa, ex, ty, kc⟩, ini, tyf,
    ok_xi ⟨⟨nm, q, N, bs, bm, sn, sub, ab, col, dd, k0, k1, k2, k3, k5, lC, rC⟩, sa, ex, ty, kc⟩ ⟨co, ⟨cl, cld, csl, cell⟩, ⟨ccl, cdd, cvs, ccs, tf, rec_, v2⟩, fl, top, opq, sup, veb, slf, val⟩ l (PySem.W.mg_none_of X G ms) he, hm, L2.Binds.all hb⟩
end Sq


set_option Elab.async false
set_option maxRecDepth 100000
set_option maxHeartbeats 4000000
namespace Sq
open PySem PySem.Spec PyProof.Rows L2
/-! ## methods called by keywords alone -/
structure MetKX (P : Program) (w : World) (K : PySem.W.Frag) (mg : Str → Option Value) (base : Heap) (k : Nat) (C : Addr) (m : Str) (ks : List Str) (sp : Sp) : Prop where
  ex : ∃ (f : Addr) (fd : FuncData) (ps : List Str) (spf : Sp) (g : List Value → List Value → List Value) (gV : List V → List V → List V),
    Cls K C ∧ Meth K C m f ∧ FnOk P w K mg base (L2.CX P w) k f fd ps spf ∧ KBn K fd ps 1 ks g gV ∧ ∀ x zs H Q E, sp (x :: zs) H Q E → zs.length = ks.length ∧ spf (gV [x] zs) H Q E
def tMetK (C : Addr) (m : Str) (sp : Sp) (E : L2.St → XK) (ta : TE) (tk : TA) : TE := fun σ H Q => ta σ H fun x H1 => ∃ a dx fs, x = .ref a ∧ H1 a = some (.ins C dx fs) ∧ fs.lookup m = none ∧ tk σ H1 fun zs H2 => sp (x :: zs) H2 Q (E σ)
section
variable {X : Cx} {W : WX} {k j : Nat} {C : Addr} {m : Str} {ks : List Str} {sp : Sp} {pos apos : Pos} {o : Expr} {kws : List Keyword} {ta : TE} {t : TA}
theorem pe_mkwx {pl : Sem Bool} (c : MetKX X.prog X.w X.K X.mg X.base k C m ks sp) (hr : Room j X.A) (hk : k ≤ j) (tk : Takes X W) (he : PE X o ta) (ha : PK X kws t)
    (ht : eval (.Call (.Attribute o m apos) [] kws pos) X.env = (do
      let ov ← eval o X.env
      standAt apos.atName
      let (f, first) ← holding [ov] (getMethod ov m pl)
      callWith pos f first (backTo pos (starEach [] X.env)) (backToKw pos (keywordEach kws X.env))) := by rfl)
    (hall : (backToKw pos (keywordEach kws X.env)).all (·.1.isSome) = true := by rfl) (hks : (backToKw pos (keywordEach kws X.env)).filterMap (·.1) = ks := by rfl)
    (hpl : ((backTo pos (starEach [] X.env)).any (·.1) || (backToKw pos (keywordEach kws X.env)).any (·.1.isNone)) = false := by rfl) : PE X (.Call (.Attribute o m apos) [] kws pos) (tMetK C m sp (WE W) ta t) := by
  obtain ⟨f, fd, ps, spf, g, gV, cl, hm, F, hb, hs⟩ := c.ex
  refine ⟨fun pins s σ H Q I h => PySem.W.methodCall_KW (pl := pl) (thn (he.run pins s σ H _ I h) fun u s1 hh => ?_) ht⟩
  obtain ⟨x, H1, I1, rx, a, dx, fs, rfl, ea, l, q⟩ := hh
  obtain rfl : u = Value.ref a := rx
  refine getmeth_ok I1 ea cl hm l (PySem.W.callWith_KW0 (first := [.ref a]) (h₀ := X.base) I.ok.mod.kin hm.kp hall (thn (ha.run pos pins s1 σ H1 _ I1 q) fun ws s2 hh => ?_) hpl)
  obtain ⟨zs, H2, I2, rz, q2⟩ := hh
  obtain ⟨lz, q3⟩ := hs _ _ _ _ _ q2
  refine ⟨I2.kIn, ?_⟩
  rw [hks]
  have r1 : Vals [V.ref a] [Value.ref a] := .cons rfl .nil
  refine wpAny_call (codeAny_mono (F.run X.A X.stack s2 H2 ⟨[.ref a], ks.zip ws⟩ (g [.ref a] ws) (gV [.ref a] zs) Q (WE W σ) (hr.mono hk) I2.env0 (hb.to s2 [.ref a] ws I2.kIn rfl (rz.length.symm.trans lz)) (hb.rel r1 rz) q3) fun r s3 hq => ?_)
  cases r with
  | error er => exact passAt tk σ pins H2 s2 er s3 I2 hq
  | ok fl =>
    cases fl with
    | ret u => exact I2.after hq
    | next => exact False.elim hq
    | brk => exact False.elim hq
    | cont => exact False.elim hq
end
/-! ## new objects made by keywords alone -/
structure MakK (P : Program) (w : World) (K : PySem.W.Frag) (mg : Str → Option Value) (base : Heap) (k : Nat) (x : Str) (C : Addr) (ks : List Str) (sp : Sp) : Prop where
  ex : ∃ (f : Addr) (fd : FuncData) (ps : List Str) (spf : Sp) (g : List Value → List Value → List Value) (gV : List V → List V → List V),
    Mk K C f ∧ FnOk P w K mg base CX0 k f fd ps spf ∧ mg x = some (.ref C) ∧ KBn K fd ps 1 ks g gV ∧ ∀ x zs H Q E, sp (x :: zs) H Q E → zs.length = ks.length ∧ spf (gV [x] zs) H Q E
def tMakK (C : Addr) (sp : Sp) (tk : TA) : TE := fun σ H Q => tk σ H fun zs H1 => ∀ x dx, H1 x = none → H1 dx = none → dx ≠ x → sp (.ref x :: zs) (upd (upd H1 dx (.own x)) x (.ins C dx [])) (fun v H3 => v = .non ∧ Q (.ref x) H3) E0
section
variable {X : Cx} {k j : Nat} {C : Addr} {x : Str} {ks : List Str} {sp : Sp} {p pos : Pos} {kws : List Keyword} {t : TA}
theorem pe_mkk (c : MakK X.prog X.w X.K X.mg X.base k x C ks sp) (hr : Room j X.A) (hk : k + 1 ≤ j) (hg : Gl X x) (ha : PK X kws t)
    (hall : (backToKw pos (keywordEach kws X.env)).all (·.1.isSome) = true := by rfl) (hks : (backToKw pos (keywordEach kws X.env)).filterMap (·.1) = ks := by rfl) (hdb : (x == ("__debug__" : Str)) = false := by decide)
    (hpl : ((backTo pos (starEach [] X.env)).any (·.1) || (backToKw pos (keywordEach kws X.env)).any (·.1.isNone)) = false := by rfl) : PE X (.Call (.Name x p) [] kws pos) (tMakK C sp t) := by
  obtain ⟨f, fd, ps, spf, g, gV, M, F, hm, hb, hs⟩ := c.ex
  refine ⟨fun pins s σ H Q I h => wpAny_Call_Name_kw (ld_glob I hg hm (PySem.W.callWith_KW0 (h₀ := X.base) I.ok.mod.kin M.kp hall (thn (ha.run pos pins s σ H _ I h) fun ws s2 hh => ?_) hpl) hdb)⟩
  obtain ⟨zs, H2, I2, rz, q2⟩ := hh
  refine ⟨I2.kIn, ?_⟩
  rw [hks]
  have lz : zs.length = ks.length := (hs _ _ _ _ _ (q2 (s2.heap.objs.size + 1) s2.heap.objs.size (I2.hok.fresh (Nat.le_succ _)) (I2.hok.fresh (Nat.le_refl _)) (Nat.ne_of_lt (Nat.lt_succ_self _)))).1
  exact run_makeK (us := []) (vs := []) M F (hr.mono hk) hb pass0 I2 .nil rz rfl lz fun x dx n1 n2 n3 => (hs _ _ _ _ _ (q2 x dx n1 n2 n3)).2
end
/-! ## list.count of plain values -/
def rCntF (K : PySem.W.Frag) : V → List V → Hp → VK → Prop := fun x xs H Q => ∃ (a : Addr) (ys : List V) (y : V), x = .ref a ∧ xs = [y] ∧ SqL K H a ys ∧ flatV y = true ∧ ys.all flatV = true ∧ Q (.int ((ys.countP fun z => eqV z y : Nat) : Int)) H
theorem count_flat {y : V} : ∀ {ys : List V} {us : List Value}, Vals ys us → ys.all flatV = true → us.countP (eqU y) = ys.countP fun z => eqV z y
  | _, _, .nil, _ => rfl
  | _, _, .cons (a := z) (b := u) r t, f => by
    rw [List.all_cons, Bool.and_eq_true] at f
    rw [List.countP_cons, List.countP_cons, count_flat t f.2, eqU_of r f.1]
theorem mt_countF {X : Cx} : MtR X "list.count" (rCntF X.K) := by
  intro pins s σ H x xs v us Q I rx rxs h
  obtain ⟨a, ys, y, rfl, rfl, hs, fy, fys, q⟩ := h
  cases rx
  obtain ⟨uy, rfl, ry⟩ := rxs.one
  obtain ⟨its, rv, ⟨⟨cls, dd, data, sl⟩, n, ho, hc, hdn, hd⟩, hlen⟩ := I.list hs
  simp only at hc hd
  subst hc hd
  refine call_meets PySem.F.slot_list_count ⟨_, ho, rfl⟩ PySem.F.entry_list_count (PySem.F.args_list_count_2 _ _) (SeqAt.list_countAt a its.toArray n dd sl uy (eqU y)) ⟨ho, fun u2 hu2 => mem_eqAt ry fy rv fys u2 (by simpa using hu2), ?_⟩
  refine ⟨.int ((ys.countP fun z => eqV z y : Nat) : Int), H, I.tok _, ⟨s.toks, ?_⟩, q⟩
  show Value.int ((its.toArray.toList.countP (eqU y) : Nat) : Int) s.toks = _
  rw [List.toList_toArray, count_flat rv fys]
/-! ## a method, an __init__ called by place and by keywords -/
theorem kbn_self {K : PySem.W.Frag} {x qual : Str} {st : Stmt} {f : Addr} {fd : FuncData} {ps ks : List Str} (F : Fun K x qual st f fd) (g : {α : Type} → α → List α → List α) (hg : ∀ {v : V} {u : Value} {vs : List V} {us : List Value}, RelV v u → Vals vs us → Vals (g v vs) (g u us))
    (h : ∀ (kV doc pm : Value) (an : Option Addr) (cdv ct u : Value) (ws : List Value), ws.length = ks.length →
      bindArgs (PySem.W.fnOf x qual (defArgs st) (defBody st) (defScope st) .none kV doc pm an cdv ct) ⟨[u], ks.zip ws⟩ = pure (ps.zip (g u ws))) : KBn K fd ps 1 ks (fun us ws => match us with | [u] => g u ws | _ => ws) (fun us ws => match us with | [u] => g u ws | _ => ws) := by
  obtain ⟨oc, od, kV, doc, pm, an, cdv, ct, osl, rfl, lk, hcd⟩ := F.ex
  refine ⟨fun s us ws X l1 l2 => ?_, fun r1 r2 => ?_⟩
  · match us, l1 with
    | [u], _ => exact .of_eq (h kV doc pm an cdv ct u ws l2)
  · cases r1 with
    | nil => exact r2
    | cons a r => cases r with
      | nil => exact hg a r2
      | cons b r => exact r2
section
variable {P : Program} {w : World} {K : PySem.W.Frag} {mg : Str → Option Value} {base : Heap} {C : Addr} {m x qual : Str} {st : Stmt} {ps ks N : List Str} {k : Nat} {sp spk : Sp}
theorem MetAt.metKX (D : MetAt K C m qual st ps) (cl : Cls K C) (S : FnScope N ps (defScope st)) (len : ∀ vs H Q E, sp vs H Q E → vs.length = ps.length)
    (hb : ∀ (f : Addr) (cdv : Value) (A : Around) (outer : List Env) (s : Shared) (H : Hp) (vs : List V) (Q : VK) (E : XK), Room k (A.deeper (envOfC qual (defScope st) s.heap.objs.size f cdv)) → sp vs H Q E →
      (Takes (cxOf (L2.CX P w) P w K mg base N qual (defScope st) f cdv A outer s H E) fun cls d _ G => E cls d G) →
      ∃ t, PSs (cxOf (L2.CX P w) P w K mg base N qual (defScope st) f cdv A outer s H E) (defBody st) t ∧ t { nx := fun _ H' => Q .non H', rt := Q } (start N vs) H)
    (g : {α : Type} → α → List α → List α) (hg : ∀ {v : V} {u : Value} {vs : List V} {us : List Value}, RelV v u → Vals vs us → Vals (g v vs) (g u us))
    (h : ∀ (kV doc pm : Value) (an : Option Addr) (cdv ct u : Value) (ws : List Value), ws.length = ks.length →
      bindArgs (PySem.W.fnOf m qual (defArgs st) (defBody st) (defScope st) .none kV doc pm an cdv ct) ⟨[u], ks.zip ws⟩ = pure (ps.zip (g u ws)))
    (hs : ∀ x zs H Q E, spk (x :: zs) H Q E → zs.length = ks.length ∧ sp (g x zs) H Q E) : MetX P w K mg base (k + 1) C m sp ∧ MetKX P w K mg base (k + 1) C m ks spk := by
  obtain ⟨f, fd, F, hm, b⟩ := D.ex
  have ok := F.okX S len fun cdv A outer s H vs Q E hr hsp => hb f cdv A outer s H vs Q E hr hsp (takes_of rfl rfl rfl rfl)
  exact ⟨⟨f, fd, ps, cl, hm, ok, b⟩, ⟨f, fd, ps, sp, _, _, cl, hm, ok, kbn_self F g hg h, hs⟩⟩
theorem IniAt.makK (D : IniAt K mg C x qual st ps) (S : FnScope N ps (defScope st)) (len : ∀ vs H Q E, sp vs H Q E → vs.length = ps.length)
    (hb : ∀ (f : Addr) (cdv : Value) (A : Around) (outer : List Env) (s : Shared) (H : Hp) (vs : List V) (Q : VK) (E : XK), Room k (A.deeper (envOfC qual (defScope st) s.heap.objs.size f cdv)) → sp vs H Q E →
      (Takes (cxOf (L2.CX P w) P w K mg base N qual (defScope st) f cdv A outer s H E) fun cls d _ G => E cls d G) →
      ∃ t, PSs (cxOf (L2.CX P w) P w K mg base N qual (defScope st) f cdv A outer s H E) (defBody st) t ∧ t { nx := fun _ H' => Q .non H', rt := Q } (start N vs) H)
    (g : {α : Type} → α → List α → List α) (hg : ∀ {v : V} {u : Value} {vs : List V} {us : List Value}, RelV v u → Vals vs us → Vals (g v vs) (g u us))
    (h : ∀ (kV doc pm : Value) (an : Option Addr) (cdv ct u : Value) (ws : List Value), ws.length = ks.length →
      bindArgs (PySem.W.fnOf "__init__" qual (defArgs st) (defBody st) (defScope st) .none kV doc pm an cdv ct) ⟨[u], ks.zip ws⟩ = pure (ps.zip (g u ws)))
    (hs : ∀ x zs H Q E, spk (x :: zs) H Q E → zs.length = ks.length ∧ sp (g x zs) H Q E0) : MakX P w K mg base (k + 1) x C sp ∧ MakK P w K mg base (k + 1) x C ks spk := by
  obtain ⟨f, fd, F, hm, hg2, b⟩ := D.ex
  have ok := F.okX S len fun cdv A outer s H vs Q E hr hsp => hb f cdv A outer s H vs Q E hr hsp (takes_of rfl rfl rfl rfl)
  have ok0 : FnOk P w K mg base CX0 (k + 1) f fd ps (fun vs H Q _ => sp vs H Q E0) := fn_calm ok fun vs H Q E z => z
  exact ⟨⟨f, fd, ps, hm, ok, hg2, b⟩, ⟨f, fd, ps, _, _, _, hm, ok0, hg2, kbn_self F g hg h, hs⟩⟩
end
/-! ## [.. for i, x in enumerate(xs) ..] -/
theorem lc_enum {K : PySem.W.Frag} {a : Addr} {xs : List V} {g : TG} {tt : TT} {te : TE} {vs : List Nat} {σ : L2.St} {H1 : Hp} {D : Addr} {Qd : Hp → Prop} (Pv : Nat → Hp → Prop) (h0 : Pv 0 (upd H1 D (.lst []))) (hq : ∀ i H, Pv i H → SqL K H a xs)
    (hs : ∀ (i : Nat) (x : V) (T : Addr) (H : Hp), xs[i]? = some x → Pv i H → H T = none → g (.ref T) (wipe σ vs) (upd H T (.tup [.int (i : Nat), x])) fun σ2 H2 => wipe σ2 vs = wipe σ vs ∧ tt σ2 H2 fun b H3 =>
      if b = true then te σ2 H3 fun y H4 => ∃ acc, H4 D = some (.lst acc) ∧ acc.length < sizeLine ∧ Pv (i + 1) (upd H4 D (.lst (acc ++ [y]))) else Pv (i + 1) H3) (hd : ∀ H, Pv xs.length H → Qd H) :
    ∃ W : Nat → Nat → Hp → Prop, (∃ m, W 0 m (upd H1 D (.lst []))) ∧ ∀ i m H, W i m H →
      ((Ite K a).stop i H ∧ Qd H) ∨ ((Ite K a).go i H ∧ ∃ Nx : Hp → Prop, (∀ H', Nx H' → ∃ m', m' < m ∧ W (i + 1) m' H') ∧ ∀ x H', (Ite K a).yld i H x H' → g x (wipe σ vs) H' fun σ2 H2 => wipe σ2 vs = wipe σ vs ∧ tt σ2 H2 fun b H3 =>
        if b = true then te σ2 H3 fun y H4 => ∃ acc, H4 D = some (.lst acc) ∧ acc.length < sizeLine ∧ Nx (upd H4 D (.lst (acc ++ [y]))) else Nx H3) := by
  refine ⟨fun i m H => m + i = xs.length ∧ Pv i H, ⟨xs.length, rfl, h0⟩, fun i m H hW => ?_⟩
  obtain ⟨em, p⟩ := hW
  have q := hq i H p
  by_cases lt : i < xs.length
  · have ex : xs[i]? = some xs[i] := List.getElem?_eq_getElem lt
    refine .inr ⟨⟨xs, _, q, ex⟩, Pv (i + 1), fun H' p' => ⟨m - 1, by omega, by omega, p'⟩, fun v H' hy => ?_⟩
    obtain ⟨T, x, rfl, nT, rfl, f⟩ := hy
    exact hs i x T H (f xs q) p nT
  · have ei : i = xs.length := by omega
    subst ei
    exact .inl ⟨⟨xs, q, Nat.le_refl _⟩, hd H p⟩
/-! ## a kept exception stays -/
theorem Kept.same {H H' : Hp} {a C : Addr} {fs : List (Str × V)} (k : Kept H a C fs) (s : Same H H') : Kept H' a C fs := by
  obtain ⟨d, ⟨h1, h2⟩ | ⟨h1, h2⟩⟩ := k
  · exact ⟨d, .inl ⟨s _ _ h1, s _ _ h2⟩⟩
  · exact ⟨d, .inr ⟨s _ _ h1, s _ _ h2⟩⟩
theorem kept_new {H : Hp} {a C d : Addr} {fs : List (Str × V)} (na : H a = none) (hd : H d = some (.xd fs)) : Kept (upd H a (Xo a (.ref C) (some d))) a C fs := ⟨d, .inl ⟨upd_same, upd_keep na hd⟩⟩
theorem But.same {o : Addr} {H H1 H' : Hp} (b : But o H1 H') (s : Same H H1) (n : H o = none) : Same H H' := fun c u e => b c u (fun z => by
  rw [z, n] at e
  cases e) (s c u e)
theorem exm_mk {K : PySem.W.Frag} {C S : Addr} {b : Bool} (h1 : PySem.W.subIn K (.ref S) (.type "BaseException") = some true) (h2 : PySem.W.isClsIn K S = true) (h3 : PySem.W.typeIn K (.ref S) = some (.type "type")) (h4 : PySem.W.subIn K (.ref C) (.ref S) = some b) : PySem.W.exmOne K (.ref C) (.ref S) = some b := by
  have e1 : (PySem.W.subIn K (.ref S) (.type "BaseException") == some true) = true := by rw [h1] <;> rfl
  have e2 : ((PySem.W.clsIn K S).isSome && PySem.W.typeIn K (.ref S) == some (.type "type")) = true := by
    have h2' : (PySem.W.clsIn K S).isSome = true := h2
    rw [h2', h3] <;> rfl
  show (if (PySem.W.subIn K (.ref S) (.type "BaseException") == some true) = true then (if ((PySem.W.clsIn K S).isSome && PySem.W.typeIn K (.ref S) == some (.type "type")) = true then PySem.W.subIn K (.ref C) (.ref S) else none) else none) = some b
  rw [if_pos e1, if_pos e2]
  exact h4
end Sq


set_option Elab.async false
set_option maxRecDepth 100000
set_option maxHeartbeats 4000000
namespace Sq
open PySem PySem.Spec PyProof.Rows L2
/-! ## a, *b = a list -/
theorem star_list {prog : Program} {w : World} {A : Around} {E : Value → Shared → Prop} {s : Shared} {l : Addr} {items : Array Value} {n i : Nat} {Q : List Value → Shared → Prop} (hl : s.heap.IsList l items) (hh : A.handled = none) (hi : i < n) (hn : n ≤ items.size + 1) (hz : items.size ≤ 16384)
    (h : ∀ (h₂ : Heap) (tk : Nat), (∀ b o, s.heap.get? b = some o → h₂.get? b = some o) → Q (items.toList.take i ++ [.ref h₂.objs.size] ++ (items.toList.drop i).drop (items.size + 1 - n)) { s with heap := h₂.push { cls := .type "list", data := .seq ((items.toList.drop i).take (items.size + 1 - n)).toArray }, toks := tk }) :
    wpAny (model prog w) A (unpackItems (.ref l) n (some i)) Q E s := by
  have hlt : l ≠ s.heap.objs.size := by obtain ⟨o, ho, _⟩ := hl; exact Nat.ne_of_lt (Heap.lt_size ho)
  have hll : l < s.heap.objs.size := by obtain ⟨o, ho, _⟩ := hl; exact Heap.lt_size ho
  unfold unpackItems
  refine wpAny_bind ?_
  unfold notIterableAtAll
  refine wpAny_bind (wpAny_specialOf hl.typeIs PySem.F.slot_list_iter.lookup ?_)
  refine wpAny_pure ?_
  simp only [Bool.false_eq_true, if_false]
  refine wpAny_bind (wpAny_holding (wpAny_pyIter_list hl ?_))
  refine wpAny_bind (wpAny_holding (PySem.W.kun_draw hlt i 0 _ _ ⟨_, Heap.get?_push_size _ rfl, rfl, rfl⟩ (hl.push _) (by omega) fun h₁ hit₁ hs₁ => ?_))
  have hl₁ : h₁.IsList l items := (hl.push _).extBut hs₁.extBut hlt
  rw [Nat.zero_add] at hit₁
  have hit₁' := hit₁
  obtain ⟨oi, hoi, _⟩ := hit₁'
  have hl₁' := hl₁
  obtain ⟨ol, hol, _⟩ := hl₁'
  rw [List.drop_zero]
  have hfl : (items.toList.take i).length = i := by rw [List.length_take, Array.length_toList]; omega
  rw [if_neg (show ¬ ((items.toList.take i).length < i) by rw [hfl]; omega)]
  refine wpAny_bind (wpAny_holding (PySem.W.kun_collect (s := { s with heap := h₁ }) (T := "list_iterator") (.inr (.inr (.inl rfl))) (Walks.list (A := A.in1) hh s.heap.objs.size l hlt items) (fun j u st => st.1.typeIs) (k := i) (by omega) ⟨hit₁, hl₁⟩ (Heap.lt_size hoi) (Heap.lt_size hol) (fun h₂ tk hk => ?_) (by rw [sizeLine_eq]; omega)))
  have hrl : (items.toList.drop i).length = items.size - i := by rw [List.length_drop, Array.length_toList]
  have hmid : (items.toList.drop i).length - (n - 1 - i) = items.size + 1 - n := by rw [hrl]; omega
  show wpAny _ _ (if (items.toList.drop i).length < n - 1 - i then _ else _) _ _ _
  rw [if_neg (by rw [hrl]; omega)]
  show wpAny _ _ (newList ((items.toList.drop i).take ((items.toList.drop i).length - (n - 1 - i))) >>= fun d => pure (items.toList.take i ++ [d] ++ (items.toList.drop i).drop ((items.toList.drop i).length - (n - 1 - i)))) _ _ _
  rw [hmid]
  have he : ∀ b o, s.heap.get? b = some o → h₂.get? b = some o := fun b o e => hk b o (Nat.ne_of_lt (Heap.lt_size e)) (hs₁.extBut b o (Nat.ne_of_lt (Heap.lt_size e)) (Heap.get?_push_of_some _ e))
  exact wpAny_bind (wpAny_newList (wpAny_pure (h h₂ tk he)) (by rw [List.length_take, hrl, sizeLine_eq]; omega))
def gStar (K : PySem.W.Frag) (t : TGs) : TG := fun v σ H Q => ∃ a x xs, v = .ref a ∧ SqL K H a (x :: xs) ∧ xs.length ≤ 16000 ∧ ∀ D, H D = none → t [x, .ref D] σ (upd H D (.lst xs)) Q
section
variable {X : Cx} {K : PySem.W.Frag} {e : Expr} {es : List Expr} {t : TG} {u ts : TGs} {p pos : Pos} {k : Nat}
theorem pgs_star (h1 : PG X e t) (h2 : PGs X es u) (hs : (assignEach (.Starred e p :: es) X.env).map (·.2) = assign e X.env :: (assignEach es X.env).map (·.2) := by rfl) : PGs X (.Starred e p :: es) (gCons t u) := by
  refine ⟨fun pins s σ H vs us Q I r h => ?_⟩
  obtain ⟨v, vr, e1, h⟩ := h
  subst e1
  cases r with
  | cons r rr =>
    rw [hs]
    refine assignInOrder_cons (thn (h1.run pins s σ H _ _ _ I r h) fun _ s1 ⟨σ1, H1, I1, q1⟩ => ?_)
    exact h2.run pins s1 σ1 H1 _ _ Q I1 rr q1
/-- a, *b = a list -/
theorem pg_star (hc : X.calm = true) (h : PGs X es ts) (hn : (assignEach es X.env).length = 2 := by rfl) (hst : (assignEach es X.env).findIdx? (·.1) = some 1 := by rfl) (hK : X.K = K := by rfl) : PG X (.Tuple es k pos) (gStar K ts) := by
  subst hK
  refine ⟨fun pins s σ H v u Q I r hw => ?_⟩
  obtain ⟨a, x, xs, e1, hq, hl, hw⟩ := hw
  subst e1
  cases r
  obtain ⟨its, rv, pl, hz⟩ := I.list hq
  have hl' : s.heap.IsList a its.toArray := by
    obtain ⟨o, m, e, c, d, q⟩ := pl
    exact ⟨o, e, c, m, q⟩
  rw [PyProof.Rows.assign_Tuple]
  refine wpAny_bind (wpAny_standAt ?_)
  unfold unpack
  rw [hn, hst]
  cases rv with
  | @cons _ v0 _ vs0 r0 rr =>
    have hlen : vs0.length = xs.length := rr.length.symm
    refine wpAny_bind (wpAny_holding (star_list hl' (I.ok.hd hc) (by decide) (by rw [List.size_toArray, List.length_cons]; omega) (by rw [List.size_toArray, List.length_cons]; omega) fun h₂ tk kp => ?_))
    have I1 : Inv X pins σ H { s with heap := h₂, toks := tk } := I.kept kp
    have em : (((v0 :: vs0).toArray.toList.drop 1).take ((v0 :: vs0).toArray.size + 1 - 2)) = vs0 := by
      rw [List.toList_toArray, List.size_toArray, List.length_cons, List.drop_one, List.tail_cons]
      exact List.take_of_length_le (by omega)
    have el : (((v0 :: vs0).toArray.toList.drop 1).drop ((v0 :: vs0).toArray.size + 1 - 2)) = [] := by
      rw [List.toList_toArray, List.size_toArray, List.length_cons, List.drop_one, List.tail_cons]
      exact List.drop_eq_nil_of_le (by omega)
    have hf := I1.hok.fresh (Nat.le_refl _)
    have I2 : Inv X pins σ (upd H h₂.objs.size (.lst xs)) { s with heap := h₂.push { cls := .type "list", data := .seq vs0.toArray }, toks := tk } :=
      I1.laid (t' := tk) (fun b u q => Heap.get?_push_of_some _ q) (Nat.le_refl _) ⟨by rw [sizeLine_eq]; omega, vs0, _, rr, Heap.get?_push_size _ rfl⟩
    rw [em, el]
    exact h.run pins _ σ _ [x, .ref h₂.objs.size] [v0, .ref h₂.objs.size] Q I2 (.cons r0 (.cons rfl .nil)) (hw _ hf)
end
def tStarL (K : PySem.W.Frag) (te : TE) (t : TA) : TA := fun σ H Q => te σ H fun x H1 => ∃ (p : Addr) (xs : List V), x = V.ref p ∧ SqL K H1 p xs ∧ t σ H1 fun ys H2 => Q (xs ++ ys) H2
/-- *e in a display, e a list -/
theorem pa_starK {X : Cx} {K : PySem.W.Frag} {e : Expr} {es : List Expr} {te : TE} {t : TA} {p : Pos} (he : PE X e te) (hr : PA X es t) (hs : starEach (.Starred e p :: es) X.env = (true, eval e X.env) :: starEach es X.env := by rfl) (hK : X.K = K := by rfl) : PA X (.Starred e p :: es) (tStarL K te t) := by
  subst hK
  have z := StX.pa_star (pe_wk he) hr hs
  refine ⟨fun pos pins s σ H Q I h => z.run pos pins s σ H Q I ⟨_, h, fun v G q => ?_⟩⟩
  obtain ⟨a, xs, e, hq, q⟩ := q
  exact ⟨a, xs, e, .inr hq, q⟩
theorem pe_gc {X : Cx} {x : Str} {v : V} {pos : Pos} (hg : Gl X x) (h : ∃ u, X.mg x = some u ∧ RelV v u) (hdb : (x == ("__debug__" : Str)) = false := by decide) : PE X (.Name x pos) (tC v) := by
  obtain ⟨u, a, b⟩ := h
  exact pe_glob hg a b hdb
/-! ## texts of lists, sign by sign -/
def dig (c : Nat) : Bool := decide (48 ≤ c) && decide (c ≤ 57)
def wrd (n t : Nat) : List Nat := if 1 < t then TL.numL n ++ 94 :: TL.numL t else TL.numL n
/-- equal neighbours, and how often -/
def grpS (acc : List (Int × Nat)) (k : Int) : List (Int × Nat) := match acc.getLast? with
  | some (a, c) => if a = k then acc.dropLast ++ [(a, c + 1)] else acc ++ [(k, 1)]
  | none => [(k, 1)]
def grp (ns : List Int) : List (Int × Nat) := ns.foldl grpS []
def ungrp (ps : List (Int × Nat)) : List Int := ps.flatMap fun p => List.replicate p.2 p.1
theorem ungrp_app (a b : List (Int × Nat)) : ungrp (a ++ b) = ungrp a ++ ungrp b := List.flatMap_append
theorem last_split {α : Type} {l : List α} {x : α} (h : l.getLast? = some x) : l = l.dropLast ++ [x] := by
  have ne : l ≠ [] := fun e => by
    rw [e] at h
    cases h
  rw [List.getLast?_eq_some_getLast ne] at h
  have e := List.dropLast_concat_getLast ne
  rw [Option.some.inj h] at e
  exact e.symm
theorem ungrp_step (acc : List (Int × Nat)) (k : Int) : ungrp (grpS acc k) = ungrp acc ++ [k] := by
  unfold grpS
  cases h : acc.getLast? with
  | none =>
    have e : acc = [] := by
      cases acc with
      | nil => rfl
      | cons a t => simp at h
    subst e
    simp [ungrp]
  | some p =>
    obtain ⟨a, c⟩ := p
    have e := last_split h
    simp only
    split
    · rename_i z
      subst z
      rw [ungrp_app]
      conv => rhs; rw [e, ungrp_app]
      simp [ungrp, List.replicate_succ']
    · rw [ungrp_app]
      simp [ungrp]
theorem ungrp_fold : ∀ (ns : List Int) (acc : List (Int × Nat)), ungrp (ns.foldl grpS acc) = ungrp acc ++ ns
  | [], acc => by simp
  | k :: r, acc => by
    rw [List.foldl_cons, ungrp_fold r, ungrp_step, List.append_assoc]
    rfl
theorem ungrp_grp (ns : List Int) : ungrp (grp ns) = ns := by
  unfold grp
  rw [ungrp_fold]
  simp [ungrp]
/-- the counts are at least 1; what stands there stands in the list -/
def GrpOk (b : Int → Prop) (N : Nat) (ps : List (Int × Nat)) : Prop := ∀ p ∈ ps, b p.1 ∧ 1 ≤ p.2 ∧ p.2 ≤ N
theorem grp_step {b : Int → Prop} {N : Nat} {acc : List (Int × Nat)} {k : Int} (h : GrpOk b N acc) (hk : b k) : GrpOk b (N + 1) (grpS acc k) := by
  have up : ∀ p ∈ acc, b p.1 ∧ 1 ≤ p.2 ∧ p.2 ≤ N + 1 := fun p hp => ⟨(h p hp).1, (h p hp).2.1, Nat.le_succ_of_le (h p hp).2.2⟩
  unfold grpS
  cases e : acc.getLast? with
  | none =>
    intro p hp
    rw [List.mem_singleton.mp hp]
    exact ⟨hk, Nat.le_refl _, by simp⟩
  | some q =>
    obtain ⟨a, c⟩ := q
    have es := last_split e
    have hq := h (a, c) (by rw [es]; simp)
    simp only
    split
    · intro p hp
      rcases List.mem_append.mp hp with z | z
      · exact up p (List.dropLast_subset _ z)
      · rw [List.mem_singleton.mp z]
        exact ⟨hq.1, by simp, by have := hq.2.2; simp only at this ⊢; omega⟩
    · intro p hp
      rcases List.mem_append.mp hp with z | z
      · exact up p z
      · rw [List.mem_singleton.mp z]
        exact ⟨hk, Nat.le_refl _, by simp⟩
theorem grp_fold {b : Int → Prop} : ∀ (ns : List Int) (N : Nat) (acc : List (Int × Nat)), GrpOk b N acc → (∀ k ∈ ns, b k) → GrpOk b (N + ns.length) (ns.foldl grpS acc)
  | [], N, acc, h, _ => h
  | k :: r, N, acc, h, hk => by
    have := grp_fold r (N + 1) (grpS acc k) (grp_step h (hk k (List.mem_cons_self ..))) fun j hj => hk j (List.mem_cons_of_mem _ hj)
    rw [List.foldl_cons, List.length_cons, show N + (r.length + 1) = N + 1 + r.length by omega]
    exact this
theorem grp_ok {b : Int → Prop} {ns : List Int} (h : ∀ k ∈ ns, b k) : GrpOk b ns.length (grp ns) := by
  have := grp_fold ns 0 [] (fun p z => nomatch z) h
  rw [Nat.zero_add] at this
  exact this
theorem grp_snoc (ns : List Int) (k : Int) : grp (ns ++ [k]) = grpS (grp ns) k := by
  unfold grp
  rw [List.foldl_append]
  rfl
theorem grpS_len (acc : List (Int × Nat)) (k : Int) : (grpS acc k).length ≤ acc.length + 1 ∧ 0 < (grpS acc k).length := by
  unfold grpS
  cases e : acc.getLast? with
  | none => simp
  | some q =>
    obtain ⟨a, c⟩ := q
    have es := congrArg List.length (last_split e)
    simp only [List.length_append, List.length_singleton] at es
    simp only
    split <;> simp <;> omega
theorem grp_len (ns : List Int) : (grp ns).length ≤ ns.length := by
  have : ∀ (ns : List Int) (acc : List (Int × Nat)), (ns.foldl grpS acc).length ≤ acc.length + ns.length := by
    intro ns
    induction ns with
    | nil => intro acc; simp
    | cons k r ih =>
      intro acc
      have a := ih (grpS acc k)
      have b := (grpS_len acc k).1
      rw [List.foldl_cons, List.length_cons]
      omega
  have a := this ns []
  simpa [grp] using a
theorem grp_nil {ns : List Int} : grp ns = [] ↔ ns = [] := by
  constructor
  · intro h
    have e := ungrp_grp ns
    rw [h] at e
    exact e.symm
  · rintro rfl
    rfl
def noneL : List Nat := [110, 111, 110, 101]
def wrds (ns : List Int) : List (List Nat) := (grp ns).map fun p => wrd p.1.toNat p.2
def showL (ns : List Int) : List Nat := if ns = [] then noneL else TL.joinL [44, 32] (wrds ns)
/-! ## and read back -/
def numIn (w : List Nat) : Option Nat := if 1 ≤ w.length ∧ w.length ≤ 200 ∧ w.all dig = true then some (NumText.digitsVal w) else none
def numsIn (w : List Nat) : Option (List Int) := match TL.spl [94] 0 [] w with
  | [] => none
  | f :: o => match numIn f, (match o with | [] => some 1 | t :: _ => numIn t) with
    | some n, some t => if 1 < o.length ∨ n < 2 then none else some (List.replicate t (n : Int))
    | _, _ => none
theorem dig_num (n : Nat) : (TL.numL n).all dig = true := by
  rw [List.all_eq_true]
  intro c hc
  have := TL.numL_digits n c hc
  unfold dig
  rw [Bool.and_eq_true, decide_eq_true_eq, decide_eq_true_eq]
  exact this
theorem numIn_num {n : Nat} (h : (TL.numL n).length ≤ 200) : numIn (TL.numL n) = some n := by
  unfold numIn
  have l : 1 ≤ (TL.numL n).length := by
    cases e : TL.numL n with
    | nil => exact absurd e (TL.numL_ne n)
    | cons a t => simp
  rw [if_pos ⟨l, h, dig_num n⟩, TL.numL_val]
theorem free94 (n : Nat) : 94 ∉ TL.numL n := TL.numL_free (.inr (by decide))
theorem free44 (n t : Nat) : 44 ∉ wrd n t := by
  unfold wrd
  have a : ∀ m, 44 ∉ TL.numL m := fun m => TL.numL_free (.inl (by decide))
  split
  · simp only [List.mem_append, List.mem_cons, not_or]
    exact ⟨a n, by decide, a t⟩
  · exact a n
theorem spl_wrd (n t : Nat) : TL.spl [94] 0 [] (wrd n t) = if 1 < t then [TL.numL n, TL.numL t] else [TL.numL n] := by
  unfold wrd
  split
  · have e := TL.spl_part1 (s := 94) (S := []) (p := TL.numL n) (rest := TL.numL t) (acc := []) (free94 n)
    rw [show TL.numL n ++ 94 :: TL.numL t = TL.numL n ++ ([94] ++ TL.numL t) from rfl, e, TL.spl_last1 (free94 t)]
    rfl
  · rw [TL.spl_last1 (free94 n)]
    rfl
theorem nums_wrd {n t : Nat} (hn : (TL.numL n).length ≤ 200) (ht : (TL.numL t).length ≤ 200) (h2 : 2 ≤ n) (h1 : 1 ≤ t) : numsIn (wrd n t) = some (List.replicate t (n : Int)) := by
  unfold numsIn
  rw [spl_wrd]
  by_cases h : 1 < t
  · rw [if_pos h]
    simp only [numIn_num hn, numIn_num ht]
    rw [if_neg (by simp; omega)]
  · rw [if_neg h]
    simp only [numIn_num hn]
    rw [if_neg (by simp; omega), show t = 1 by omega]
theorem free110 (n t : Nat) : 110 ∉ wrd n t := by
  unfold wrd
  have a : ∀ m, 110 ∉ TL.numL m := fun m => TL.numL_free (.inr (by decide))
  split
  · simp only [List.mem_append, List.mem_cons, not_or]
    exact ⟨a n, by decide, a t⟩
  · exact a n
theorem wrds_ne {ns : List Int} (h : ns ≠ []) : wrds ns ≠ [] := fun e => h (grp_nil.mp (List.map_eq_nil_iff.mp e))
theorem spl_show {ns : List Int} (h : ns ≠ []) : TL.spl [44, 32] 0 [] (showL ns) = wrds ns := by
  unfold showL
  rw [if_neg h]
  refine TL.spl_join (wrds_ne h) fun p hp => ?_
  obtain ⟨q, _, rfl⟩ := List.mem_map.mp hp
  exact free44 _ _
theorem show_ne {ns : List Int} (h : ns ≠ []) : showL ns ≠ noneL := fun e => by
  have a := spl_show h
  rw [e, TL.spl_last1 (show 44 ∉ noneL by decide)] at a
  have m : noneL ∈ wrds ns := by
    rw [← a]
    simp
  obtain ⟨q, _, eq⟩ := List.mem_map.mp m
  have : 110 ∈ noneL := by decide
  rw [← eq] at this
  exact free110 _ _ this
theorem show_inj_nil {ns : List Int} : showL ns = noneL ↔ ns = [] := ⟨fun e => Classical.byContradiction fun h => show_ne h e, fun e => by
  subst e
  rfl⟩
/-- lists that are shown and read here -/
def Nice (ns : List Int) : Prop := (∀ k ∈ ns, 2 ≤ k ∧ k < 10 ^ 200) ∧ ns.length ≤ 5000
theorem num_len {k : Int} (h0 : 0 ≤ k) (h : k < 10 ^ 200) : (TL.numL k.toNat).length ≤ 200 := by
  have e : ((10 : Int) ^ 200) = ((10 ^ 200 : Nat) : Int) := by norm_cast
  refine TL.numL_len (by decide) ?_
  rw [e] at h
  omega
theorem lt5 {n : Nat} (h : n ≤ 5000) : n < sizeLine := by
  rw [sizeLine_eq]
  omega
theorem num_len3 {t : Nat} (h : t ≤ 5000) : (TL.numL t).length ≤ 4 := TL.numL_len (by decide) (by omega)
theorem Nice.grp {ns : List Int} (h : Nice ns) : GrpOk (fun k => 2 ≤ k ∧ k < 10 ^ 200) 5000 (grp ns) := fun p hp => by
  have := grp_ok h.1 p hp
  have l := h.2
  exact ⟨this.1, this.2.1, by omega⟩
theorem wrd_len {k : Int} {t : Nat} (h0 : 0 ≤ k) (h : k < 10 ^ 200) (ht : t ≤ 5000) : (wrd k.toNat t).length ≤ 205 := by
  have a := num_len h0 h
  have b := num_len3 ht
  unfold wrd
  split
  · rw [List.length_append, List.length_cons]
    omega
  · omega
theorem join_len (s : List Nat) : ∀ ws : List (List Nat), (TL.joinL s ws).length ≤ (ws.map (·.length)).sum + ws.length * s.length
  | [] => by simp [TL.joinL]
  | [p] => by simp [TL.joinL]
  | p :: q :: r => by
    have ih := join_len s (q :: r)
    simp only [TL.joinL, List.length_append, List.map_cons, List.sum_cons, List.length_cons] at ih ⊢
    have : (r.length + 1 + 1) * s.length = (r.length + 1) * s.length + s.length := by rw [Nat.add_mul (r.length + 1) 1]; omega
    omega
theorem sum_le {b : Nat} : ∀ {ws : List (List Nat)}, (∀ w ∈ ws, w.length ≤ b) → (ws.map (·.length)).sum ≤ ws.length * b
  | [], _ => by simp
  | w :: r, h => by
    have a := h w (List.mem_cons_self ..)
    have c := sum_le (ws := r) fun x hx => h x (List.mem_cons_of_mem _ hx)
    rw [List.map_cons, List.sum_cons, List.length_cons, Nat.add_mul]
    omega
theorem Nice.words {ns : List Int} (h : Nice ns) : (∀ w ∈ wrds ns, w.length ≤ 205) ∧ (wrds ns).length ≤ 5000 := by
  refine ⟨fun w hw => ?_, ?_⟩
  · obtain ⟨p, hp, rfl⟩ := List.mem_map.mp hw
    obtain ⟨a, b, c⟩ := h.grp p hp
    exact wrd_len (by omega) a.2 c
  · unfold wrds
    rw [List.length_map]
    exact Nat.le_trans (grp_len ns) h.2
theorem Nice.len {ns : List Int} (h : Nice ns) : (showL ns).length ≤ 1050000 := by
  obtain ⟨a, b⟩ := h.words
  unfold showL
  split
  · decide
  · have c := join_len [44, 32] (wrds ns)
    have d := sum_le a
    have e := Nat.mul_le_mul_right 205 b
    have f : (wrds ns).length * ([44, 32] : List Nat).length ≤ 5000 * 2 := Nat.mul_le_mul_right 2 b
    omega
theorem wrds_get {ns : List Int} {i : Nat} {w : List Nat} (h : (wrds ns)[i]? = some w) : ∃ p, (grp ns)[i]? = some p ∧ w = wrd p.1.toNat p.2 := by
  unfold wrds at h
  rw [List.getElem?_map] at h
  cases e : (grp ns)[i]? with
  | none =>
    rw [e] at h
    cases h
  | some p =>
    rw [e] at h
    exact ⟨p, rfl, (Option.some.inj h).symm⟩
theorem ungrp_take {ps : List (Int × Nat)} {i : Nat} {p : Int × Nat} (h : ps[i]? = some p) : ungrp (ps.take (i + 1)) = ungrp (ps.take i) ++ List.replicate p.2 p.1 := by
  rw [List.take_add_one, h, ungrp_app]
  simp [ungrp]
/-! ## the pairs in the heap -/
def Prs (H : Hp) (l : Addr) (ps : List (Int × Nat)) : Prop := ∃ ts : List Addr, H l = some (.lst (ts.map V.ref)) ∧ ts.length = ps.length ∧ ∀ (i : Nat) (t : Addr) (p : Int × Nat), ts[i]? = some t → ps[i]? = some p → H t = some (.tup [.int p.1, .int ((p.2 : Nat) : Int)])
theorem Prs.same {H H' : Hp} {l : Addr} {ps : List (Int × Nat)} (h : Prs H l ps) (s : Same H H') : Prs H' l ps := by
  obtain ⟨ts, a, b, c⟩ := h
  exact ⟨ts, s _ _ a, b, fun i t p h1 h2 => s _ _ (c i t p h1 h2)⟩
def dPs (ps : List (Int × Nat)) : PyData := .list (ps.map fun p => .tuple [.int p.1, .int ((p.2 : Nat) : Int)])
theorem dpall_prs {K : PySem.W.Frag} {H : Hp} : ∀ (ts : List Addr) (ps : List (Int × Nat)), ts.length = ps.length → (∀ (i : Nat) (t : Addr) (p : Int × Nat), ts[i]? = some t → ps[i]? = some p → H t = some (.tup [.int p.1, .int ((p.2 : Nat) : Int)])) →
    DpAll K H (ts.map V.ref) (ps.map fun p => .tuple [.int p.1, .int ((p.2 : Nat) : Int)])
  | [], [], _, _ => .nil
  | [], _ :: _, h, _ => by simp at h
  | _ :: _, [], h, _ => by simp at h
  | t :: ts, p :: ps, h, c => .cons (.tup (SqT.of (c 0 t p rfl rfl)) (.cons (.int _) (.cons (.int _) .nil))) (dpall_prs ts ps (by simpa using h) fun i t' p' h1 h2 => c (i + 1) t' p' (by simpa using h1) (by simpa using h2))
theorem dp_prs {K : PySem.W.Frag} {H : Hp} {l : Addr} {ps : List (Int × Nat)} (h : Prs H l ps) : Dp K H (.ref l) (dPs ps) := by
  obtain ⟨ts, a, b, c⟩ := h
  exact .lst (seqL_of a) (dpall_prs ts ps b c)
theorem can_prs : ∀ ps : List (Int × Nat), PyData.canLayAll0 (ps.map fun p => .tuple [.int p.1, .int ((p.2 : Nat) : Int)]) = true
  | [] => by simp [PyData.canLayAll0]
  | p :: r => by simp [PyData.canLayAll0, PyData.canLay0, can_prs r]
theorem dep_prs : ∀ ps : List (Int × Nat), PyData.depthAll (ps.map fun p => .tuple [.int p.1, .int ((p.2 : Nat) : Int)]) ≤ 1
  | [] => by simp [PyData.depthAll]
  | p :: r => by
    have := dep_prs r
    simp only [List.map_cons, PyData.depthAll, PyData.depth]
    omega
theorem shaped_prs (ps : List (Int × Nat)) : SeqAt.shaped (dPs ps) = true := by
  have := dep_prs ps
  unfold SeqAt.shaped dPs
  rw [Bool.and_eq_true, decide_eq_true_eq]
  refine ⟨by simp only [PyData.canLay0, can_prs], ?_⟩
  show PyData.depth _ ≤ 64
  rw [PyData.depth]
  omega
theorem eqv_prs0 (ps : List (Int × Nat)) : PyData.eqv (dPs ps) (dI []) = decide (ps = []) := by
  unfold dPs dI
  cases ps with
  | nil => simp [PyData.eqv, PyData.eqvAll]
  | cons a r => simp [PyData.eqv, PyData.eqvAll]
/-- found != [] -/
theorem r_nePs {K : PySem.W.Frag} {H : Hp} {l b : Addr} {ps : List (Int × Nat)} {Q : VK} (h1 : Prs H l ps) (h2 : SqL K H b (iv [])) (q : Q (.bl (!decide (ps = []))) H) : rNeQ K (.ref l) (.ref b) H Q :=
  rNeQ_of ⟨dPs ps, dI [], dp_prs h1, dp_iv h2, shaped_prs ps, shaped_dI [], by rw [eqv_prs0]; exact q⟩
theorem Prs.last {H : Hp} {l : Addr} {ps : List (Int × Nat)} {a : Int} {c : Nat} (h : Prs H l ps) (e : ps.getLast? = some (a, c)) :
    ∃ (ts : List Addr) (t : Addr) (j : Nat), H l = some (.lst (ts.map V.ref)) ∧ ixN (ts.map V.ref).length (-1) = some j ∧ atI (ts.map V.ref) (-1) = some (.ref t) ∧ H t = some (.tup [.int a, .int ((c : Nat) : Int)]) ∧
      ∀ (T : Addr) (k : Int) (H' : Hp), (∀ b o, b ≠ l → H b = some o → H' b = some o) → H' T = some (.tup [.int k, .int (((c + 1 : Nat) : Nat) : Int)]) → H' l = some (.lst ((ts.map V.ref).set j (.ref T))) → Prs H' l (ps.dropLast ++ [(k, c + 1)]) := by
  obtain ⟨ts, h1, h2, h3⟩ := h
  have ep := last_split e
  have lp := congrArg List.length ep
  simp only [List.length_append, List.length_singleton, List.length_dropLast] at lp
  have hpos : 0 < ts.length := by omega
  have lt : ts.length - 1 < ts.length := by omega
  have ix : ixN (ts.map V.ref).length (-1) = some (ts.length - 1) := by
    rw [List.length_map]
    unfold ixN
    rw [if_neg (by omega)]
    rw [if_pos (by omega)]
    congr 1
    omega
  have eg : ps[ts.length - 1]? = some (a, c) := by
    rw [h2, ep]
    simp
  refine ⟨ts, ts[ts.length - 1], ts.length - 1, h1, ix, ?_, h3 _ _ _ (List.getElem?_eq_getElem lt) eg, fun T k H' keep hT hl => ?_⟩
  · unfold atI
    rw [ix]
    show (ts.map V.ref)[ts.length - 1]? = _
    rw [List.getElem?_map, List.getElem?_eq_getElem lt]
    rfl
  · refine ⟨ts.set (ts.length - 1) T, by rw [hl, List.map_set], by rw [List.length_set, List.length_append, List.length_dropLast, List.length_singleton]; omega, fun i t p ht hp => ?_⟩
    have li : i < ts.length := by
      have := (List.getElem?_eq_some_iff.mp ht).1
      rw [List.length_set] at this
      exact this
    by_cases z : i = ts.length - 1
    · subst z
      rw [List.getElem?_set_self lt] at ht
      have et : T = t := Option.some.inj ht
      rw [List.getElem?_append_right (by rw [List.length_dropLast]; omega), List.length_dropLast, show ts.length - 1 - (ps.length - 1) = 0 by omega] at hp
      have epp : (k, c + 1) = p := by simpa using hp
      rw [← et, ← epp]
      exact hT
    · rw [List.getElem?_set_ne (by omega)] at ht
      rw [List.getElem?_append_left (by rw [List.length_dropLast]; omega), List.getElem?_dropLast, if_pos (by omega)] at hp
      have old := h3 i t p ht hp
      refine keep t _ (fun e => ?_) old
      rw [e, h1] at old
      cases old
theorem Prs.snoc {H H' : Hp} {l : Addr} {ps : List (Int × Nat)} {k : Int} (h : Prs H l ps) : ∃ ts : List Addr, H l = some (.lst (ts.map V.ref)) ∧ ts.length = ps.length ∧
    ∀ (T : Addr) (H' : Hp), (∀ b o, b ≠ l → H b = some o → H' b = some o) → H' T = some (.tup [.int k, .int ((1 : Nat) : Int)]) → H' l = some (.lst (ts.map V.ref ++ [.ref T])) → Prs H' l (ps ++ [(k, 1)]) := by
  obtain ⟨ts, h1, h2, h3⟩ := h
  refine ⟨ts, h1, h2, fun T H' keep hT hl => ⟨ts ++ [T], by rw [hl]; simp, by simp [h2], fun i t p ht hp => ?_⟩⟩
  by_cases z : i < ts.length
  · rw [List.getElem?_append_left z] at ht
    rw [List.getElem?_append_left (by omega)] at hp
    have old := h3 i t p ht hp
    refine keep t _ (fun e => ?_) old
    rw [e, h1] at old
    cases old
  · have li : i = ts.length := by
      have := (List.getElem?_eq_some_iff.mp ht).1
      simp at this
      omega
    subst li
    rw [List.getElem?_append_right (Nat.le_refl _), Nat.sub_self] at ht
    rw [h2, List.getElem?_append_right (Nat.le_refl _), Nat.sub_self] at hp
    have et : T = t := by simpa using ht
    have ep : (k, 1) = p := by simpa using hp
    rw [← et, ← ep]
    exact hT
theorem show_short {ns : List Int} (h : Nice ns) {n : Nat} (hn : ns.length ≤ n) : (showL ns).length ≤ n * 207 + 4 := by
  obtain ⟨a, b⟩ := h.words
  unfold showL
  split
  · show 4 ≤ _
    omega
  · have c := join_len [44, 32] (wrds ns)
    have d := sum_le a
    have l : (wrds ns).length ≤ n := by
      unfold wrds
      rw [List.length_map]
      exact Nat.le_trans (grp_len ns) hn
    have e := Nat.mul_le_mul_right 205 l
    have f : (wrds ns).length * ([44, 32] : List Nat).length ≤ n * 2 := Nat.mul_le_mul_right 2 l
    omega
theorem fold_rep (k : Int) : ∀ (c : Nat) (gs : List (Int × Nat)) (t : Nat), (List.replicate c k).foldl grpS (gs ++ [(k, t)]) = gs ++ [(k, t + c)]
  | 0, gs, t => by simp
  | c + 1, gs, t => by
    have e : grpS (gs ++ [(k, t)]) k = gs ++ [(k, t + 1)] := by
      unfold grpS
      simp
    rw [List.replicate_succ, List.foldl_cons, e, fold_rep k c gs (t + 1), show t + 1 + c = t + (c + 1) by omega]
theorem grp_add {ns : List Int} {gs : List (Int × Nat)} {k : Int} {c : Nat} (h : grp ns = gs) (hl : ∀ a t, gs.getLast? = some (a, t) → a ≠ k) (hc : 1 ≤ c) : grp (ns ++ List.replicate c k) = gs ++ [(k, c)] := by
  obtain ⟨c', rfl⟩ : ∃ c', c = c' + 1 := ⟨c - 1, by omega⟩
  unfold grp at h ⊢
  rw [List.foldl_append, h, List.replicate_succ, List.foldl_cons]
  have e : grpS gs k = gs ++ [(k, 1)] := by
    unfold grpS
    cases el : gs.getLast? with
    | none =>
      have : gs = [] := List.getLast?_eq_none_iff.mp el
      subst this
      rfl
    | some q =>
      obtain ⟨a, t⟩ := q
      simp only
      rw [if_neg (hl a t el)]
  rw [e, fold_rep k c' gs 1, show 1 + c' = c' + 1 by omega]
theorem grp_two {o : Int} {m : Nat} (h : 1 ≤ m) : grp ((o + 1) :: List.replicate m o) = [(o + 1, 1), (o, m)] :=
  grp_add (ns := [o + 1]) (gs := [(o + 1, 1)]) rfl (fun a t e => by
    have : a = o + 1 := by
      have := congrArg (Option.map Prod.fst) e
      simpa using this.symm
    omega) h
theorem show_two {o : Int} {m : Nat} (h : 2 ≤ m) : showL ((o + 1) :: List.replicate m o) = TL.numL (o + 1).toNat ++ ([44, 32] ++ (TL.numL o.toNat ++ 94 :: TL.numL m)) := by
  unfold showL wrds
  rw [if_neg (by simp), grp_two (by omega)]
  simp only [List.map_cons, List.map_nil, TL.joinL]
  unfold wrd
  rw [if_neg (by decide), if_pos (by omega)]
end Sq


set_option Elab.async false
set_option maxRecDepth 100000
set_option maxHeartbeats 4000000
namespace Sq
open PySem PySem.Spec PyProof.Rows L2
/-! ## a text times an int -/
def repL (k : Nat) (a : List Nat) : List Nat := (List.replicate k a).flatten
theorem repL_one (k c : Nat) : repL k [c] = List.replicate k c := by
  induction k with
  | zero => rfl
  | succ k ih =>
    unfold repL at ih ⊢
    rw [List.replicate_succ, List.flatten_cons, ih]
    rfl
theorem fold_cps (a : Array Nat) : ∀ (k : Nat) (b : Array Nat), ((List.replicate k a).foldl (· ++ ·) b).toList = b.toList ++ repL k a.toList
  | 0, b => by simp [repL]
  | k + 1, b => by
    rw [List.replicate_succ, List.foldl_cons, fold_cps a k, Array.toList_append]
    unfold repL
    rw [List.replicate_succ, List.flatten_cons, List.append_assoc]
def rRepSL : R2 := fun x y H Q => ∃ (a : List Nat) (k : Int), x = .str (SX.S a) ∧ y = .int k ∧ -(2 ^ 62) < k ∧ k < 2 ^ 62 ∧ a.length * k.toNat ≤ 10000000 ∧ Q (.str (SX.S (repL k.toNat a))) H
theorem op_rep_strL {X : Cx} : OpR X (binaryOp .Mult) rRepSL := by
  intro pins s σ H x y v u Q I rx ry h
  obtain ⟨a, k, rfl, rfl, h1, h2, hz, q⟩ := h
  obtain ⟨t, rfl⟩ := rx
  obtain ⟨t', rfl⟩ := ry
  have el : (SX.S a).length = a.length := SX.S_len a
  refine PySem.P.mul_str ?_ (fun p e => ?_) (fun p e => ?_) ?_
  · rw [decide_eq_false (by omega), decide_eq_false (by omega)]
    rfl
  · rw [el]
    have kp : 0 < k := by omega
    refine Int.not_lt.mpr ((Int.le_ediv_iff_mul_le kp).mpr ?_)
    have ek : ((k.toNat : Nat) : Int) = k := Int.toNat_of_nonneg (by omega)
    have hz2 : ((a.length * k.toNat : Nat) : Int) ≤ 10000000 := by omega
    rw [Int.natCast_mul, ek] at hz2
    omega
  · rw [el]
    unfold Builtin.Str.tooLong
    refine decide_eq_false ?_
    have := sizeLine_eq
    omega
  · by_cases c : k < 1
    · rw [if_pos c]
      refine ⟨by decide, .str _, H, I.tok _, ⟨_, rfl⟩, ?_⟩
      have e : k.toNat = 0 := by omega
      rw [e] at q
      exact q
    · rw [if_neg c]
      split
      · rename_i z
        refine ⟨.str (SX.S a), H, I, ⟨_, rfl⟩, ?_⟩
        have e : repL k.toNat a = a := by
          rw [Bool.or_eq_true] at z
          rcases z with z | z
          · have : k = 1 := eq_of_beq z
            rw [this]
            simp [repL]
          · have : a.length = 0 := by
              rw [el] at z
              exact eq_of_beq z
            rw [List.eq_nil_of_length_eq_zero this]
            simp [repL]
        rw [e] at q
        exact q
      · have e : (⟨(List.replicate k.toNat (SX.S a).cps).foldl (· ++ ·) #[]⟩ : Str) = SX.S (repL k.toNat a) := by
          refine TL.ext_tl ?_
          show ((List.replicate k.toNat a.toArray).foldl (· ++ ·) #[]).toList = _
          rw [fold_cps]
          rfl
        rw [e]
        refine ⟨?_, .str _, H, I.tok _, ⟨_, rfl⟩, q⟩
        have : (repL k.toNat a).length = k.toNat * a.length := by simp [repL]
        rw [SX.S_len, this, Nat.mul_comm]
        have := sizeLine_eq
        omega
end Sq


set_option Elab.async false
set_option maxRecDepth 100000
set_option maxHeartbeats 2000000
namespace Sq
open PySem PySem.Spec PyProof.Rows L2
/-! ## pieces of a text -/
abbrev Pc := List Nat × Bool
def pcS (c : Nat) (acc : List Pc) (x : Nat) : List Pc :=
  match acc.getLast? with
  | some (w, b) => if b = decide (x = c) then acc.dropLast ++ [(w ++ [x], b)] else acc ++ [([x], decide (x = c))]
  | none => [([x], decide (x = c))]
def pcs (c : Nat) (u : List Nat) : List Pc := u.foldl (pcS c) []
theorem pcs_snoc (c : Nat) (u : List Nat) (x : Nat) : pcs c (u ++ [x]) = pcS c (pcs c u) x := by simp [pcs]
theorem pcs_take {c : Nat} {u : List Nat} {i x : Nat} (h : u[i]? = some x) : pcs c (u.take (i + 1)) = pcS c (pcs c (u.take i)) x := by
  rw [List.take_add_one, h]
  exact pcs_snoc c _ x
theorem pcS_snoc (c : Nat) (acc : List Pc) (w : List Nat) (b : Bool) (x : Nat) : pcS c (acc ++ [(w, b)]) x = if b = decide (x = c) then acc ++ [(w ++ [x], b)] else acc ++ [(w, b)] ++ [([x], decide (x = c))] := by
  unfold pcS
  rw [List.getLast?_concat]
  simp only [List.dropLast_concat]
/-- run by run -/
def goR (f : Nat → Nat) (c : Nat) : Nat → List Nat → List Nat
  | n, [] => List.replicate (f n) c
  | n, x :: r => if x = c then goR f c (n + 1) r else List.replicate (f n) c ++ x :: goR f c 0 r
def outP (f : Nat → Nat) (c : Nat) (ps : List Pc) : List Nat := ps.flatMap fun p => if p.2 = true then List.replicate (f p.1.length) c else p.1
theorem outP_app (f : Nat → Nat) (c : Nat) (a b : List Pc) : outP f c (a ++ b) = outP f c a ++ outP f c b := by simp [outP]
theorem out_both {f : Nat → Nat} (h0 : f 0 = 0) (c : Nat) : ∀ (u : List Nat) (acc : List Pc) (w : List Nat),
    outP f c (u.foldl (pcS c) (acc ++ [(w, true)])) = outP f c acc ++ goR f c w.length u ∧ outP f c (u.foldl (pcS c) (acc ++ [(w, false)])) = outP f c acc ++ (w ++ goR f c 0 u)
  | [], acc, w => by
    constructor
    · rw [List.foldl_nil, outP_app]
      simp [outP, goR]
    · rw [List.foldl_nil, outP_app]
      simp [outP, goR, h0]
  | x :: r, acc, w => by
    have ih := out_both h0 c r
    constructor
    · rw [List.foldl_cons, pcS_snoc]
      by_cases e : x = c
      · rw [if_pos (by simp [e]), (ih _ _).1]
        simp [goR, e]
      · rw [if_neg (by simp [e]), decide_eq_false e, (ih _ _).2, outP_app]
        simp [outP, goR, e]
    · rw [List.foldl_cons, pcS_snoc]
      by_cases e : x = c
      · rw [if_neg (by simp [e]), decide_eq_true e, (ih _ _).1, outP_app]
        simp [outP, goR, e]
      · rw [if_pos (by simp [e]), (ih _ _).2]
        simp [goR, e, h0]
theorem out_pcs {f : Nat → Nat} (h0 : f 0 = 0) (c : Nat) (u : List Nat) : outP f c (pcs c u) = goR f c 0 u := by
  unfold pcs
  cases u with
  | nil => simp [outP, goR, h0]
  | cons x r =>
    have e : pcS c [] x = [] ++ [([x], decide (x = c))] := rfl
    rw [List.foldl_cons, e]
    by_cases h : x = c
    · rw [decide_eq_true h, (out_both h0 c r [] [x]).1]
      simp [outP, goR, h]
    · rw [decide_eq_false h, (out_both h0 c r [] [x]).2]
      simp [outP, goR, h, h0]
/-- a text squeezed -/
def sqT (c : Nat) (ks : List Int) (u : List Nat) : List Nat := goR (fun n => (sqz (n : Int) ks).toNat) c 0 u
theorem sqz0 {ks : List Int} (h : Two ks) : sqz 0 ks = 0 := by
  have a := sqz_nn (n := 0) (Int.le_refl _) h
  have b := sqz_le (n := 0) (Int.le_refl _) h
  omega
theorem goR_len {f : Nat → Nat} (hf : ∀ n, f n ≤ n) (c : Nat) : ∀ (u : List Nat) (n : Nat), (goR f c n u).length ≤ n + u.length
  | [], n => by
    have := hf n
    simp [goR]
    omega
  | x :: r, n => by
    unfold goR
    split
    · have := goR_len hf c r (n + 1)
      simp only [List.length_cons]
      omega
    · have a := goR_len hf c r 0
      have b := hf n
      simp only [List.length_append, List.length_replicate, List.length_cons]
      omega
theorem sqT_len {c : Nat} {ks : List Int} (h : Two ks) (u : List Nat) : (sqT c ks u).length ≤ u.length := by
  have z := goR_len (f := fun n => (sqz (n : Int) ks).toNat) (fun n => by
    have := sqz_le (n := (n : Int)) (by omega) h
    show (sqz (n : Int) ks).toNat ≤ n
    omega) c u 0
  unfold sqT
  omega
theorem goR_mem {f : Nat → Nat} (c : Nat) {p : Nat → Prop} (hc : p c) : ∀ (u : List Nat) (n : Nat), (∀ x ∈ u, p x) → ∀ x ∈ goR f c n u, p x
  | [], n, _, x, hx => by
    rw [List.eq_of_mem_replicate hx]
    exact hc
  | y :: r, n, h, x, hx => by
    unfold goR at hx
    have hr : ∀ z ∈ r, p z := fun z hz => h z (List.mem_cons_of_mem _ hz)
    split at hx
    · exact goR_mem c hc r (n + 1) hr x hx
    · rcases List.mem_append.mp hx with z | z
      · rw [List.eq_of_mem_replicate z]
        exact hc
      · rcases List.mem_cons.mp z with z | z
        · rw [z]
          exact h y (List.mem_cons_self ..)
        · exact goR_mem c hc r 0 hr x z
theorem sqT_mem {c : Nat} {ks : List Int} {u : List Nat} {p : Nat → Prop} (hc : p c) (h : ∀ x ∈ u, p x) : ∀ x ∈ sqT c ks u, p x := goR_mem c hc u 0 h
/-- how long the pieces are -/
theorem pcs_sum (c : Nat) (u : List Nat) : ((pcs c u).map (·.1.length)).sum = u.length := by
  have key : ∀ (u : List Nat) (acc : List Pc), ((u.foldl (pcS c) acc).map (·.1.length)).sum = (acc.map (·.1.length)).sum + u.length := fun u => by
    induction u with
    | nil => intro acc; simp
    | cons x r ih =>
      intro acc
      rw [List.foldl_cons, ih]
      have e : ((pcS c acc x).map (·.1.length)).sum = (acc.map (·.1.length)).sum + 1 := by
        cases eg : acc.getLast? with
        | none =>
          have : acc = [] := List.getLast?_eq_none_iff.mp eg
          subst this
          rfl
        | some p =>
          obtain ⟨w, b⟩ := p
          obtain ⟨a, rfl⟩ := List.getLast?_eq_some_iff.mp eg
          rw [pcS_snoc]
          split <;> simp <;> omega
      rw [e, List.length_cons]
      omega
  have z := key u []
  simpa [pcs] using z
theorem pcs_one {c : Nat} {u : List Nat} : ∀ p ∈ pcs c u, 1 ≤ p.1.length := by
  have key : ∀ (u : List Nat) (acc : List Pc), (∀ p ∈ acc, 1 ≤ p.1.length) → ∀ p ∈ u.foldl (pcS c) acc, 1 ≤ p.1.length := fun u => by
    induction u with
    | nil => exact fun acc h => h
    | cons x r ih =>
      intro acc h
      rw [List.foldl_cons]
      refine ih _ fun p hp => ?_
      cases eg : acc.getLast? with
      | none =>
        have : acc = [] := List.getLast?_eq_none_iff.mp eg
        subst this
        have : p = ([x], decide (x = c)) := by simpa [pcS] using hp
        rw [this]
        exact Nat.le_refl _
      | some q =>
        obtain ⟨w, b⟩ := q
        obtain ⟨a, rfl⟩ := List.getLast?_eq_some_iff.mp eg
        rw [pcS_snoc] at hp
        split at hp
        · rcases List.mem_append.mp hp with z | z
          · exact h p (List.mem_append_left _ z)
          · rw [List.mem_singleton.mp z]
            simp
        · rcases List.mem_append.mp hp with z | z
          · exact h p z
          · rw [List.mem_singleton.mp z]
            exact Nat.le_refl _
  exact key u [] fun p hp => nomatch hp
theorem pcs_count (c : Nat) (u : List Nat) : (pcs c u).length ≤ u.length := by
  have key : ∀ ps : List Pc, (∀ p ∈ ps, 1 ≤ p.1.length) → ps.length ≤ (ps.map (·.1.length)).sum := fun ps => by
    induction ps with
    | nil => exact fun _ => Nat.le_refl _
    | cons p r ih =>
      intro h
      have a := ih fun q hq => h q (List.mem_cons_of_mem _ hq)
      have b := h p (List.mem_cons_self ..)
      rw [List.map_cons, List.sum_cons, List.length_cons]
      omega
  have z := key _ (pcs_one (c := c) (u := u))
  rw [pcs_sum] at z
  exact z
theorem pcs_le {c : Nat} {u : List Nat} : ∀ p ∈ pcs c u, p.1.length ≤ u.length := fun p hp => by
  have key : ∀ ps : List Pc, p ∈ ps → p.1.length ≤ (ps.map (·.1.length)).sum := fun ps => by
    induction ps with
    | nil => intro h; cases h
    | cons q r ih =>
      intro h
      rw [List.map_cons, List.sum_cons]
      rcases List.mem_cons.mp h with z | z
      · rw [z]
        omega
      · have := ih z
        omega
  have z := key _ hp
  rw [pcs_sum] at z
  exact z
theorem pcs_mem {c : Nat} {u : List Nat} {P : Nat → Prop} (h : ∀ x ∈ u, P x) : ∀ p ∈ pcs c u, ∀ x ∈ p.1, P x := by
  have key : ∀ (u : List Nat) (acc : List Pc), (∀ x ∈ u, P x) → (∀ p ∈ acc, ∀ x ∈ p.1, P x) → ∀ p ∈ u.foldl (pcS c) acc, ∀ x ∈ p.1, P x := fun u => by
    induction u with
    | nil => exact fun acc _ h => h
    | cons y r ih =>
      intro acc hu h
      rw [List.foldl_cons]
      have hy := hu y (List.mem_cons_self ..)
      refine ih _ (fun x hx => hu x (List.mem_cons_of_mem _ hx)) fun p hp => ?_
      cases eg : acc.getLast? with
      | none =>
        have : acc = [] := List.getLast?_eq_none_iff.mp eg
        subst this
        have : p = ([y], decide (y = c)) := by simpa [pcS] using hp
        rw [this]
        intro x hx
        rw [List.mem_singleton.mp hx]
        exact hy
      | some q =>
        obtain ⟨w, b⟩ := q
        obtain ⟨a, rfl⟩ := List.getLast?_eq_some_iff.mp eg
        rw [pcS_snoc] at hp
        split at hp
        · rcases List.mem_append.mp hp with z | z
          · exact h p (List.mem_append_left _ z)
          · rw [List.mem_singleton.mp z]
            intro x hx
            rcases List.mem_append.mp hx with v | v
            · exact h (w, b) (List.mem_append_right _ (List.mem_singleton.mpr rfl)) x v
            · rw [List.mem_singleton.mp v]
              exact hy
        · rcases List.mem_append.mp hp with z | z
          · exact h p z
          · rw [List.mem_singleton.mp z]
            intro x hx
            rw [List.mem_singleton.mp hx]
            exact hy
  exact key u [] h fun p hp => nomatch hp
/-! ## a list of tuples (piece, is a run) -/
def PcH (H : Hp) (l : Addr) (ps : List Pc) : Prop := ∃ ts : List Addr, H l = some (.lst (ts.map V.ref)) ∧ ts.length = ps.length ∧ ∀ (i : Nat) (t : Addr) (p : Pc), ts[i]? = some t → ps[i]? = some p → H t = some (.tup [.str (SX.S p.1), .bl p.2])
theorem PcH.same {H H' : Hp} {l : Addr} {ps : List Pc} (h : PcH H l ps) (s : Same H H') : PcH H' l ps := by
  obtain ⟨ts, a, b, c⟩ := h
  exact ⟨ts, s _ _ a, b, fun i t p h1 h2 => s _ _ (c i t p h1 h2)⟩
def dPc (ps : List Pc) : PyData := .list (ps.map fun p => .tuple [.str (SX.S p.1), .bool p.2])
theorem dpall_pc {K : PySem.W.Frag} {H : Hp} : ∀ (ts : List Addr) (ps : List Pc), ts.length = ps.length → (∀ (i : Nat) (t : Addr) (p : Pc), ts[i]? = some t → ps[i]? = some p → H t = some (.tup [.str (SX.S p.1), .bl p.2])) →
    DpAll K H (ts.map V.ref) (ps.map fun p => .tuple [.str (SX.S p.1), .bool p.2])
  | [], [], _, _ => .nil
  | [], _ :: _, h, _ => by simp at h
  | _ :: _, [], h, _ => by simp at h
  | t :: ts, p :: ps, h, c => .cons (.tup (SqT.of (c 0 t p rfl rfl)) (.cons (.str _) (.cons (.bl _) .nil))) (dpall_pc ts ps (by simpa using h) fun i t' p' h1 h2 => c (i + 1) t' p' (by simpa using h1) (by simpa using h2))
theorem can_pc : ∀ ps : List Pc, (∀ p ∈ ps, PyData.strOk (SX.S p.1) = true) → PyData.canLayAll0 (ps.map fun p => .tuple [.str (SX.S p.1), .bool p.2]) = true
  | [], _ => by simp [PyData.canLayAll0]
  | p :: r, h => by simp [PyData.canLayAll0, PyData.canLay0, h p (List.mem_cons_self ..), can_pc r fun q hq => h q (List.mem_cons_of_mem _ hq)]
theorem dep_pc : ∀ ps : List Pc, PyData.depthAll (ps.map fun p => .tuple [.str (SX.S p.1), .bool p.2]) ≤ 1
  | [] => by simp [PyData.depthAll]
  | p :: r => by
    have := dep_pc r
    simp only [List.map_cons, PyData.depthAll, PyData.depth]
    omega
theorem r_nePc {K : PySem.W.Frag} {H : Hp} {l b : Addr} {ps : List Pc} {Q : VK} (h1 : PcH H l ps) (hk : ∀ p ∈ ps, PyData.strOk (SX.S p.1) = true) (h2 : H b = some (.lst [])) (q : Q (.bl (!decide (ps = []))) H) : rNeQ K (.ref l) (.ref b) H Q := by
  obtain ⟨ts, a, c, d⟩ := h1
  refine rNeQ_of ⟨dPc ps, dI [], .lst (seqL_of a) (dpall_pc ts ps c d), dp_iv (seqL_of h2), ?_, shaped_dI [], ?_⟩
  · have z := dep_pc ps
    unfold SeqAt.shaped dPc
    rw [Bool.and_eq_true, decide_eq_true_eq]
    refine ⟨by simp only [PyData.canLay0, can_pc ps hk], ?_⟩
    show PyData.depth _ ≤ 64
    rw [PyData.depth]
    omega
  · have e : PyData.eqv (dPc ps) (dI []) = decide (ps = []) := by
      unfold dPc dI
      cases ps with
      | nil => simp [PyData.eqv, PyData.eqvAll]
      | cons a r => simp [PyData.eqv, PyData.eqvAll]
    rw [e]
    exact q
theorem PcH.last {H : Hp} {l : Addr} {ps : List Pc} {p : Pc} (h : PcH H l ps) (e : ps.getLast? = some p) :
    ∃ (ts : List Addr) (t : Addr) (j : Nat), H l = some (.lst (ts.map V.ref)) ∧ ixN (ts.map V.ref).length (-1) = some j ∧ atI (ts.map V.ref) (-1) = some (.ref t) ∧ H t = some (.tup [.str (SX.S p.1), .bl p.2]) ∧
      ∀ (T : Addr) (q : Pc) (H' : Hp), (∀ b o, b ≠ l → H b = some o → H' b = some o) → H' T = some (.tup [.str (SX.S q.1), .bl q.2]) → H' l = some (.lst ((ts.map V.ref).set j (.ref T))) → PcH H' l (ps.dropLast ++ [q]) := by
  obtain ⟨ts, h1, h2, h3⟩ := h
  obtain ⟨a, rfl⟩ := List.getLast?_eq_some_iff.mp e
  have lp : ts.length = a.length + 1 := by rw [h2]; simp
  have ix : ixN (ts.map V.ref).length (-1) = some a.length := by
    rw [List.length_map, lp]
    unfold ixN
    rw [if_neg (by omega), if_pos (by omega)]
    congr 1
    omega
  have lt : a.length < ts.length := by omega
  refine ⟨ts, ts[a.length], a.length, h1, ix, ?_, h3 _ _ _ (List.getElem?_eq_getElem lt) (by simp), fun T q H' keep hT hl => ?_⟩
  · unfold atI
    rw [ix]
    show (ts.map V.ref)[a.length]? = _
    rw [List.getElem?_map, List.getElem?_eq_getElem lt]
    rfl
  · rw [List.dropLast_concat]
    refine ⟨ts.set a.length T, by rw [hl, List.map_set], by rw [List.length_set, List.length_append, List.length_singleton, lp], fun i t p' ht hp => ?_⟩
    have li : i < ts.length := by
      have := (List.getElem?_eq_some_iff.mp ht).1
      rwa [List.length_set] at this
    by_cases z : i = a.length
    · subst z
      rw [List.getElem?_set_self lt] at ht
      have et : T = t := Option.some.inj ht
      have ep : q = p' := by simpa using hp
      rw [← et, ← ep]
      exact hT
    · rw [List.getElem?_set_ne (by omega)] at ht
      rw [List.getElem?_append_left (by omega)] at hp
      have old := h3 i t p' ht (by rw [List.getElem?_append_left (by omega)]; exact hp)
      refine keep t _ (fun e => ?_) old
      rw [e, h1] at old
      cases old
theorem PcH.snoc {H : Hp} {l : Addr} {ps : List Pc} (h : PcH H l ps) : ∃ ts : List Addr, H l = some (.lst (ts.map V.ref)) ∧ ts.length = ps.length ∧
    ∀ (T : Addr) (q : Pc) (H' : Hp), (∀ b o, b ≠ l → H b = some o → H' b = some o) → H' T = some (.tup [.str (SX.S q.1), .bl q.2]) → H' l = some (.lst (ts.map V.ref ++ [.ref T])) → PcH H' l (ps ++ [q]) := by
  obtain ⟨ts, h1, h2, h3⟩ := h
  refine ⟨ts, h1, h2, fun T q H' keep hT hl => ⟨ts ++ [T], by rw [hl]; simp, by simp [h2], fun i t p ht hp => ?_⟩⟩
  by_cases z : i < ts.length
  · rw [List.getElem?_append_left z] at ht
    rw [List.getElem?_append_left (by omega)] at hp
    have old := h3 i t p ht hp
    refine keep t _ (fun e => ?_) old
    rw [e, h1] at old
    cases old
  · have li : i = ts.length := by
      have := (List.getElem?_eq_some_iff.mp ht).1
      simp at this
      omega
    subst li
    have et : T = t := by simpa using ht
    have ep : q = p := by
      rw [h2, List.getElem?_append_right (Nat.le_refl _), Nat.sub_self] at hp
      simpa using hp
    rw [← et, ← ep]
    exact hT
/-- for x in a text -/
theorem for_str {u : List Nat} {g : TG} {tb : TS} {D : Ends} {σ : L2.St} {H : Hp} (Pv : Nat → L2.St → Hp → Prop) (h0 : Pv 0 σ H)
    (hs : ∀ (i : Nat) (x : Nat) (σ : L2.St) (H : Hp), u[i]? = some x → Pv i σ H → g (.str (SX.S [x])) σ H fun σ2 H2 => tb { D with nx := Pv (i + 1), ct := Pv (i + 1), bk := D.nx } σ2 H2) (hd : ∀ σ H, Pv u.length σ H → D.nx σ H) :
    ∃ W : Nat → Nat → L2.St → Hp → Prop, (∃ m, W 0 m σ H) ∧ ∀ i m σ H, W i m σ H → ((Its (SX.S u)).stop i H ∧ D.nx σ H) ∨
      ((Its (SX.S u)).go i H ∧ ∃ N : L2.St → Hp → Prop, (∀ σ' H', N σ' H' → ∃ m', m' < m ∧ W (i + 1) m' σ' H') ∧ ∀ v H', (Its (SX.S u)).yld i H v H' → g v σ H' fun σ2 H2 => tb { D with nx := N, ct := N, bk := D.nx } σ2 H2) := by
  have sz : (SX.S u).cps.size = u.length := SX.S_len u
  refine ⟨fun i m σ H => m + i = u.length ∧ Pv i σ H, ⟨u.length, rfl, h0⟩, fun i m σ H hW => ?_⟩
  obtain ⟨em, p⟩ := hW
  by_cases lt : i < u.length
  · refine .inr ⟨by show i < (SX.S u).cps.size; omega, Pv (i + 1), fun σ' H' p' => ⟨m - 1, by omega, by omega, p'⟩, fun v H' hy => ?_⟩
    obtain ⟨rfl, c, ec, rfl⟩ := hy
    refine hs i c σ H' ?_ p
    have e : (SX.S u).cps[i]? = u[i]? := by
      show (u.toArray)[i]? = _
      simp
    rw [← e]
    exact ec
  · have ei : i = u.length := by omega
    subst ei
    exact .inl ⟨by show (SX.S u).cps.size ≤ _; omega, hd σ H p⟩
theorem strOkS {a : List Nat} (h : ∀ c ∈ a, c < 0x110000) : PyData.strOk (SX.S a) = true := by
  unfold PyData.strOk
  rw [Array.all_eq_true_iff_forall_mem]
  intro c hc
  exact decide_eq_true (h c (by simpa using hc))
theorem same_atP {G H : Hp} {o : Addr} {u : HO} (s : Same G H) (n : G o = none) : Same G (upd H o u) := fun b x e => upd_off (fun z => by
  rw [z, n] at e
  cases e) (s b x e)
theorem joinL_nil : ∀ ws : List (List Nat), TL.joinL [] ws = ws.flatten
  | [] => rfl
  | [a] => by simp [TL.joinL]
  | a :: b :: r => by
    have ih := joinL_nil (b :: r)
    simp only [TL.joinL, List.nil_append, List.flatten_cons] at ih ⊢
    rw [ih]
end Sq


set_option Elab.async false
set_option maxRecDepth 100000
set_option maxHeartbeats 4000000
namespace Sq
open PySem PySem.Spec L2
/-! ## groups replaced one after the other are runs squeezed -/
/-- what stands behind a part of a text: what is done, and how many of the character are pending -/
def stS (f : Nat → Nat) (c : Nat) (s : List Nat × Nat) (x : Nat) : List Nat × Nat := if x = c then (s.1, s.2 + 1) else (s.1 ++ List.replicate (f s.2) c ++ [x], 0)
theorem goR_st (f : Nat → Nat) (c : Nat) : ∀ (u : List Nat) (s : List Nat × Nat), s.1 ++ goR f c s.2 u = (u.foldl (stS f c) s).1 ++ List.replicate (f (u.foldl (stS f c) s).2) c
  | [], s => rfl
  | x :: r, s => by
    show _ = (r.foldl (stS f c) (stS f c s x)).1 ++ _
    rw [List.foldl_cons, ← goR_st f c r (stS f c s x)]
    unfold stS
    by_cases h : x = c
    · rw [if_pos h, goR, if_pos h]
    · rw [if_neg h, goR, if_neg h]
      simp
def rpS (c k : Nat) (s : List Nat × Nat) (x : Nat) : List Nat × Nat :=
  let g := if x = c then s.2 + 1 else 0
  let f := s.1 ++ [x]
  if g = k then (f.take (f.length - k) ++ [c], 0) else (f, g)
def rp (c k : Nat) (u : List Nat) : List Nat × Nat := u.foldl (rpS c k) ([], 0)
theorem rp_take {c k : Nat} {u : List Nat} {i x : Nat} (h : u[i]? = some x) : rp c k (u.take (i + 1)) = rpS c k (rp c k (u.take i)) x := by
  unfold rp
  rw [List.take_add_one, h]
  simp
def onceN (k n : Nat) : Nat := n / k + n % k
theorem rp_step {c k : Nat} (hk : 2 ≤ k) (d : List Nat) (n x : Nat) : rpS c k (d ++ List.replicate (onceN k n) c, n % k) x = ((stS (onceN k) c (d, n) x).1 ++ List.replicate (onceN k (stS (onceN k) c (d, n) x).2) c, (stS (onceN k) c (d, n) x).2 % k) := by
  unfold rpS stS
  by_cases h : x = c
  · subst h
    simp only [if_true]
    have e := Nat.div_add_mod n k
    have lt := Nat.mod_lt n (show 0 < k by omega)
    by_cases z : n % k + 1 = k
    · have e1 : n + 1 = k * (n / k + 1) := by rw [Nat.mul_add]; omega
      have d1 : (n + 1) / k = n / k + 1 := by rw [e1, Nat.mul_div_cancel_left _ (by omega)]
      have m1 : (n + 1) % k = 0 := by rw [e1, Nat.mul_mod_right]
      rw [if_pos z]
      unfold onceN
      rw [d1, m1]
      refine Prod.ext ?_ rfl
      show List.take _ _ ++ [x] = _
      have e2 : d ++ List.replicate (n / k + n % k) x ++ [x] = (d ++ List.replicate (n / k) x) ++ List.replicate k x := by
        rw [List.append_assoc, List.append_assoc, ← List.replicate_succ', List.replicate_append_replicate]
        congr 2
        omega
      rw [e2, List.length_append, List.length_replicate, Nat.add_sub_cancel, List.take_left' rfl, List.append_assoc, ← List.replicate_succ']
    · have e1 : n + 1 = n % k + 1 + k * (n / k) := by omega
      have d1 : (n + 1) / k = n / k := by rw [e1, Nat.add_mul_div_left _ _ (by omega), Nat.div_eq_of_lt (by omega)]; omega
      have m1 : (n + 1) % k = n % k + 1 := by
        have : (n % k + 1 + k * (n / k)) % k = n % k + 1 := by rw [Nat.add_mul_mod_self_left, Nat.mod_eq_of_lt (by omega)]
        rw [← e1] at this
        exact this
      rw [if_neg z]
      unfold onceN
      rw [d1, m1]
      refine Prod.ext ?_ rfl
      show _ ++ [x] = _
      rw [List.append_assoc, ← List.replicate_succ']
      rfl
  · simp only [if_neg h]
    rw [if_neg (by omega)]
    simp [onceN]
theorem rp_st {c k : Nat} (hk : 2 ≤ k) : ∀ (u : List Nat) (d : List Nat) (n : Nat), u.foldl (rpS c k) (d ++ List.replicate (onceN k n) c, n % k) = ((u.foldl (stS (onceN k) c) (d, n)).1 ++ List.replicate (onceN k (u.foldl (stS (onceN k) c) (d, n)).2) c, (u.foldl (stS (onceN k) c) (d, n)).2 % k)
  | [], d, n => rfl
  | x :: r, d, n => by
    rw [List.foldl_cons, rp_step hk, List.foldl_cons]
    exact rp_st hk r _ _
theorem once_nat {k n : Nat} (hk : 2 ≤ k) : (sqz (n : Int) [(k : Int)]).toNat = onceN k n := by
  show (once (n : Int) (k : Int)).toNat = _
  have : once (n : Int) (k : Int) = ((n / k + n % k : Nat) : Int) := by
    unfold once
    first
      | rfl
      | (rw [Int.fdiv_eq_ediv_of_nonneg _ (by omega), Int.fmod_eq_emod_of_nonneg _ (by omega)]; rfl)
  rw [this]
  rfl
theorem rp_sq {c k : Nat} (hk : 2 ≤ k) (u : List Nat) : (rp c k u).1 = sqT c [(k : Int)] u := by
  have h := rp_st (c := c) hk u [] 0
  have z : onceN k 0 = 0 := by simp [onceN]
  rw [z, Nat.zero_mod] at h
  unfold rp
  rw [show (([], 0) : List Nat × Nat) = ([] ++ List.replicate 0 c, 0) from rfl, h]
  unfold sqT
  rw [show (fun n : Nat => (sqz (n : Int) [(k : Int)]).toNat) = onceN k from funext fun n => once_nat hk]
  exact (goR_st (onceN k) c u ([], 0)).symm
theorem goR_rep (f : Nat → Nat) (c : Nat) : ∀ (j m : Nat) (r : List Nat), goR f c m (List.replicate j c ++ r) = goR f c (m + j) r
  | 0, m, r => rfl
  | j + 1, m, r => by
    rw [List.replicate_succ, List.cons_append, goR, if_pos rfl, goR_rep f c j (m + 1) r]
    congr 1
    omega
theorem goR_comp (f1 f2 : Nat → Nat) (c : Nat) : ∀ (u : List Nat) (n : Nat), goR f2 c 0 (goR f1 c n u) = goR (fun m => f2 (f1 m)) c n u
  | [], n => by
    have := goR_rep f2 c (f1 n) 0 []
    rw [List.append_nil, Nat.zero_add] at this
    exact this
  | x :: r, n => by
    by_cases h : x = c
    · rw [goR, if_pos h, goR, if_pos h]
      exact goR_comp f1 f2 c r (n + 1)
    · rw [goR, if_neg h, goR_rep, Nat.zero_add, goR, if_neg h, goR, if_neg h, goR_comp f1 f2 c r 0]
theorem sqz_nat {n : Nat} {ks : List Int} (h : Two ks) : ((sqz (n : Int) ks).toNat : Int) = sqz (n : Int) ks := Int.toNat_of_nonneg (sqz_nn (Int.natCast_nonneg _) h)
theorem sqT_comp {c : Nat} {a b : List Int} (ha : Two a) (u : List Nat) : sqT c b (sqT c a u) = sqT c (a ++ b) u := by
  unfold sqT
  rw [goR_comp]
  congr 1
  funext n
  rw [sqz_nat ha, sqz_app]
theorem sqT_nil {c : Nat} (u : List Nat) : sqT c [] u = u := by
  have : ∀ (u : List Nat) (n : Nat), goR (fun n : Nat => (sqz (n : Int) []).toNat) c n u = List.replicate n c ++ u := fun u => by
    induction u with
    | nil =>
      intro n
      show List.replicate n c = _
      simp
    | cons x r ih =>
      intro n
      rw [goR]
      by_cases h : x = c
      · rw [if_pos h, ih, List.replicate_succ', h]
        simp
      · rw [if_neg h, ih]
        rfl
  exact this u 0
theorem sqT_no {c : Nat} {ks : List Int} (h2 : Two ks) {u : List Nat} (h : ∀ x ∈ u, x ≠ c) : sqT c ks u = u := by
  have z : (sqz ((0 : Nat) : Int) ks).toNat = 0 := by
    rw [show ((0 : Nat) : Int) = 0 from rfl, sqz0 h2]
    rfl
  unfold sqT
  induction u with
  | nil => rw [goR, z]; rfl
  | cons x r ih =>
    rw [goR, if_neg (h x (List.mem_cons_self ..)), ih fun y hy => h y (List.mem_cons_of_mem _ hy), z]
    rfl
theorem goR_rest (f : Nat → Nat) (c : Nat) : ∀ (u : List Nat) (n : Nat), (goR f c n u).filter (fun x => decide (x ≠ c)) = u.filter (fun x => decide (x ≠ c))
  | [], n => by
    show (List.replicate (f n) c).filter _ = _
    rw [List.filter_replicate]
    simp
  | x :: r, n => by
    by_cases h : x = c
    · rw [goR, if_pos h, goR_rest f c r, List.filter_cons_of_neg (by simpa using h)]
    · rw [goR, if_neg h, List.filter_append, List.filter_replicate, List.filter_cons_of_pos (by simpa using h), List.filter_cons_of_pos (by simpa using h), goR_rest f c r]
      simp
theorem sqT_rest (c : Nat) (ks : List Int) (u : List Nat) : (sqT c ks u).filter (fun x => decide (x ≠ c)) = u.filter (fun x => decide (x ≠ c)) := goR_rest _ c u 0
/-- the lengths of the runs of a character, some of it before the text -/
def rn (c : Nat) : Nat → List Nat → List Nat
  | n, [] => if n = 0 then [] else [n]
  | n, x :: r => if x = c then rn c (n + 1) r else (if n = 0 then [] else [n]) ++ rn c 0 r
theorem rn_rep (c : Nat) : ∀ (j m : Nat) (r : List Nat), rn c m (List.replicate j c ++ r) = rn c (m + j) r
  | 0, m, r => rfl
  | j + 1, m, r => by
    rw [List.replicate_succ, List.cons_append, rn, if_pos rfl, rn_rep c j (m + 1) r]
    congr 1
    omega
theorem rn_goR {f : Nat → Nat} (hf : ∀ n, f n = 0 ↔ n = 0) (c : Nat) : ∀ (u : List Nat) (n : Nat), rn c 0 (goR f c n u) = (rn c n u).map f
  | [], n => by
    have := rn_rep c (f n) 0 []
    rw [List.append_nil, Nat.zero_add] at this
    show rn c 0 (List.replicate (f n) c) = _
    rw [this, rn, rn]
    by_cases h : n = 0
    · rw [if_pos h, if_pos ((hf n).mpr h)]
      rfl
    · rw [if_neg h, if_neg fun z => h ((hf n).mp z)]
      rfl
  | x :: r, n => by
    by_cases h : x = c
    · rw [goR, if_pos h, rn, if_pos h]
      exact rn_goR hf c r (n + 1)
    · rw [goR, if_neg h, rn_rep, Nat.zero_add, rn, if_neg h, rn, if_neg h, rn_goR hf c r 0, List.map_append]
      by_cases z : n = 0
      · rw [if_pos z, if_pos ((hf n).mpr z)]
        rfl
      · rw [if_neg z, if_neg fun y => z ((hf n).mp y)]
        rfl
theorem rn_far (c : Nat) {x : Nat} (hx : x ≠ c) : ∀ (u : List Nat) (n : Nat), rn c n (u ++ [x]) = rn c n u
  | [], n => by
    simp [rn, hx]
  | y :: r, n => by
    show rn c n (y :: (r ++ [x])) = _
    rw [rn, rn]
    by_cases h : y = c
    · rw [if_pos h, if_pos h, rn_far c hx r]
    · rw [if_neg h, if_neg h, rn_far c hx r]
theorem rn_more (c : Nat) : ∀ (u : List Nat) (n : Nat), ((u = [] ∧ n ≠ 0) ∨ u.getLast? = some c) → ∃ rs m, rn c n u = rs ++ [m] ∧ rn c n (u ++ [c]) = rs ++ [m + 1]
  | [], n, h => by
    rcases h with ⟨_, h⟩ | h
    · exact ⟨[], n, by rw [rn, if_neg h]; rfl, by show rn c n [c] = _; rw [rn, if_pos rfl, rn, if_neg (by omega)]; rfl⟩
    · cases h
  | y :: r, n, h => by
    have hl : (y :: r).getLast? = some c := h.resolve_left fun z => nomatch z.1
    show ∃ rs m, rn c n (y :: r) = _ ∧ rn c n (y :: (r ++ [c])) = _
    rw [rn, rn]
    by_cases e : y = c
    · rw [if_pos e, if_pos e]
      refine rn_more c r (n + 1) ?_
      cases r with
      | nil => exact .inl ⟨rfl, by omega⟩
      | cons z q => exact .inr (by simpa using hl)
    · rw [if_neg e, if_neg e]
      cases r with
      | nil => exact absurd (by simpa using hl) e
      | cons z q =>
        obtain ⟨rs, m, e1, e2⟩ := rn_more c (z :: q) 0 (.inr (by simpa using hl))
        exact ⟨(if n = 0 then [] else [n]) ++ rs, m, by rw [e1]; simp, by rw [e2]; simp⟩
theorem rn_new (c : Nat) : ∀ (u : List Nat) (n : Nat), ¬ ((u = [] ∧ n ≠ 0) ∨ u.getLast? = some c) → rn c n (u ++ [c]) = rn c n u ++ [1]
  | [], n, h => by
    have z : n = 0 := Classical.byContradiction fun z => h (.inl ⟨rfl, z⟩)
    subst z
    simp [rn]
  | y :: r, n, h => by
    show rn c n (y :: (r ++ [c])) = _
    rw [rn, rn]
    by_cases e : y = c
    · rw [if_pos e, if_pos e]
      refine rn_new c r (n + 1) fun z => ?_
      rcases z with ⟨rfl, _⟩ | z
      · exact h (.inr (by rw [e]; rfl))
      · cases r with
        | nil => cases z
        | cons q t => exact h (.inr (by simpa using z))
    · rw [if_neg e, if_neg e, rn_new c r 0 fun z => ?_, List.append_assoc]
      rcases z with ⟨_, z⟩ | z
      · exact z rfl
      · cases r with
        | nil => cases z
        | cons q t => exact h (.inr (by simpa using z))
theorem rn_len (c : Nat) : ∀ (u : List Nat) (n : Nat), (rn c n u).length ≤ u.length + 1
  | [], n => by
    rw [rn]
    split <;> simp
  | x :: r, n => by
    rw [rn]
    have := rn_len c r (n + 1)
    have := rn_len c r 0
    split
    · rw [List.length_cons]; omega
    · rw [List.length_append, List.length_cons]
      split <;> simp <;> omega
theorem sqz_zero {ks : List Int} (h : Two ks) {n : Int} (hn : 0 ≤ n) : sqz n ks = 0 ↔ n = 0 := by
  constructor
  · intro e
    have := fun z : 1 ≤ n => sqz_pos z h
    omega
  · rintro rfl
    exact sqz0 h
theorem rn_sqT {c : Nat} {ks : List Int} (h : Two ks) (u : List Nat) : rn c 0 (sqT c ks u) = (rn c 0 u).map fun n : Nat => (sqz (n : Int) ks).toNat := by
  refine rn_goR (fun n => ?_) c u 0
  have := sqz_zero h (n := (n : Int)) (by omega)
  have e := sqz_nat (n := n) h
  omega
/-- the runs found so far, and how many are pending -/
def rnS (c : Nat) (s : List Nat × Nat) (x : Nat) : List Nat × Nat := if x = c then (s.1, s.2 + 1) else if s.2 = 0 then (s.1, 0) else (s.1 ++ [s.2], 0)
theorem rnS_all (c : Nat) : ∀ (u : List Nat) (s : List Nat × Nat), s.1 ++ rn c s.2 u = (u.foldl (rnS c) s).1 ++ if (u.foldl (rnS c) s).2 = 0 then [] else [(u.foldl (rnS c) s).2]
  | [], s => rfl
  | x :: r, s => by
    rw [List.foldl_cons, ← rnS_all c r (rnS c s x), rn]
    unfold rnS
    by_cases h : x = c
    · rw [if_pos h, if_pos h]
    · rw [if_neg h, if_neg h]
      by_cases z : s.2 = 0
      · rw [if_pos z, if_pos z]
        rfl
      · rw [if_neg z, if_neg z]
        simp
def rnF (c : Nat) (u : List Nat) : List Nat × Nat := u.foldl (rnS c) ([], 0)
theorem rnF_all (c : Nat) (u : List Nat) : rn c 0 u = (rnF c u).1 ++ if (rnF c u).2 = 0 then [] else [(rnF c u).2] := rnS_all c u ([], 0)
theorem rnF_take {c : Nat} {u : List Nat} {i x : Nat} (h : u[i]? = some x) : rnF c (u.take (i + 1)) = rnS c (rnF c (u.take i)) x := by
  unfold rnF
  rw [List.take_add_one, h]
  simp
theorem rnF_len (c : Nat) (u : List Nat) : (rnF c u).1.length ≤ u.length ∧ (rnF c u).2 ≤ u.length := by
  have : ∀ (u : List Nat) (s : List Nat × Nat), (u.foldl (rnS c) s).1.length ≤ s.1.length + u.length ∧ (u.foldl (rnS c) s).2 ≤ s.2 + u.length := fun u => by
    induction u with
    | nil => exact fun s => ⟨Nat.le_refl _, Nat.le_refl _⟩
    | cons x r ih =>
      intro s
      have h := ih (rnS c s x)
      have h2 : (rnS c s x).1.length ≤ s.1.length + 1 ∧ (rnS c s x).2 ≤ s.2 + 1 := by
        unfold rnS
        split
        · exact ⟨Nat.le_succ _, Nat.le_refl _⟩
        · split
          · exact ⟨Nat.le_succ _, Nat.zero_le _⟩
          · exact ⟨by simp, Nat.zero_le _⟩
      rw [List.foldl_cons, List.length_cons]
      omega
  have h := this u ([], 0)
  simpa [rnF] using h
end Sq


set_option Elab.async false
set_option maxRecDepth 100000
set_option maxHeartbeats 4000000
namespace PySem.HandSPX
open PySem PySem.Spec PySem.W PySem.Calls PyProof.Rows
/-! ## an own exception made by a keyword: C(k = u) -/
section
variable {M : Model} {A : Around} {E : Value → Shared → Prop} {h : Heap} {g : Array GenState} {d : Drawn} {t : Nat} {os : OsState}
variable {nm q : Str} {C N : Addr} {bs bm bmB : List Value} {hdct : Bool} {sn : List Str} {sub : List Value} {ab : Bool} {col : Option Bool} {dd : Option Addr} {k0 k1 k2 k3 k5 : Option Value} {B newId initId : String}
theorem check_newK (F : ExcBaseFacts B newId initId bmB) (hT : ∀ X : String, bm.contains (.type X) = bmB.contains (.type X)) {ky : Str} {u : Value} {Q : Unit → Shared → Prop}
    (hC : h.get? C = some (excClassObj nm q C N bs bm hdct sn sub ab col dd k0 k1 k2 k3 k5 newId)) (hq : Q () ⟨h, g, d, t, os⟩) : wpAny M A (checkBuiltinCall newId ⟨[.ref C], [(ky, u)]⟩) Q E ⟨h, g, d, t, os⟩ := by
  have hcont : (Value.ref C :: bm).contains (.type B) = true := by rw [List.contains_cons, hT, F.hasB, Bool.or_true]
  have hstar := F.noStar
  simp only [checkBuiltinCall, F.newKind, F.newSplit, F.newRow]
  repeat (first | refine wpAny_loadPart_at hC ?_ | (refine wpAny_isSubtype_exc hC ?_; rw [hcont]) | refine wpAny_staticBase_exc hC ?_ | refine wpAny_madeBy_exc hC ?_ | simp only [bne_self_eq_false, Bool.false_eq_true, if_false] | wp_step)
  exact hq
end
section
variable {prog : Program} {w : World} {A : Around} {E : Value → Shared → Prop} {R : Result → Shared → Prop} {h : Heap} {g : Array GenState} {d : Drawn} {t : Nat} {os : OsState}
variable {nm q : Str} {C N : Addr} {bs bm bmB : List Value} {hdct : Bool} {sn : List Str} {sub : List Value} {ab : Bool} {col : Option Bool} {dd : Option Addr} {k0 k1 k2 k3 k5 : Option Value} {B newId initId : String}
theorem newK (F : ExcBaseFacts B newId initId bmB) (hT : ∀ X : String, bm.contains (.type X) = bmB.contains (.type X)) {ky : Str} {u : Value}
    (hC : h.get? C = some (excClassObj nm q C N bs bm hdct sn sub ab col dd k0 k1 k2 k3 k5 newId))
    (hq : R (.ok (.ret (.ref (h.objs.size + 1)))) ⟨(h.push { cls := .type "tuple", data := .seq ([] : List Value).toArray }).push
      { cls := .ref C, data := .fields #[.ref h.objs.size, .none, .none, .none, .bool false, .none] }, g, d, t, os⟩) :
    codeAny (model prog w) A (.builtin newId ⟨[.ref C], [(ky, u)]⟩) R ⟨h, g, d, t, os⟩ := by
  have hends := F.ends
  have hcB : (Value.ref C :: bm).contains (.type B) = true := by rw [List.contains_cons, hT, F.hasB, Bool.or_true]
  have hcA : (Value.ref C :: bm).contains (.type "AttributeError") = false := by rw [List.contains_cons, hT, F.noAttr]; rfl
  have hcN : (Value.ref C :: bm).contains (.type "NameError") = false := by rw [List.contains_cons, hT, F.noName]; rfl
  refine codeAny_builtinAt F.entry ?_
  unfold Builtin.«BaseException.__new__»
  refine wpAt_bind ?_
  show wpAt _ _ _ (stack >>= _) _ _ _
  refine wpAt_bind (wpAt_stack fun p below => wpAt_of_wpAny ?_)
  wp_walk
  refine wpAt_of_wpAny ?_
  rw [F.owner]
  repeat (first | with_reducible refine wpAny_madeHere_exc F.canon hC ?_ | with_reducible refine wpAny_loadPart_at hC ?_ | (with_reducible refine wpAny_isSubtype_exc hC ?_; first | rw [hcB] | rw [hcA] | rw [hcN]) | wp_step)
  show R _ _
  rw [Heap.size_push]
  exact hq
theorem type_callK (F : ExcBaseFacts B newId initId bmB) (hT : ∀ X : String, bm.contains (.type X) = bmB.contains (.type X)) {ky : Str} {u : Value} {fI : Addr} {Q : Fin → Shared → Prop}
    (hC : h.get? C = some (excClassObj nm q C N bs bm hdct sn sub ab col dd k0 k1 k2 k3 k5 newId))
    (hi : W.Looks (model prog w) h (typeLookup (.ref C) "__init__") (some (.ref fI))) (hb : ∀ self, W.Looks (model prog w) h (bindSpecial (.ref fI) self) (.ref fI, [self]))
    (hq : codeAny (model prog w) A (.call (.ref fI) ⟨[.ref (h.objs.size + 1)], [(ky, u)]⟩)
      (fun r s' => match r with | .ok (.ret v) => v = .none ∧ Q (.done (.ret (.ref (h.objs.size + 1)))) s' | .ok _ => False | .error e => E e s')
      ⟨(h.push (W.kdv_tup [])).push (excO C h.objs.size), g, d, t, os⟩) :
    wpAny (model prog w) A (Builtin.«type.__call__» ⟨[.ref C], [(ky, u)]⟩) Q E ⟨h, g, d, t, os⟩ := by
  repeat (first | with_reducible refine wpAny_loadPart_at hC ?_ | with_reducible refine wpAny_madeBy_exc hC ?_ | wp_step)
  refine codeAny_call_builtin_code (Code.quiet_builtin _ F.quiet) (check_newK F hT hC ?_)
  refine newK F hT hC ?_
  show wpAny _ _ _ _ _ _
  have k : ∀ b o, h.get? b = some o → ((h.push (W.kdv_tup [])).push (excO C h.objs.size)).get? b = some o := fun b o e => Heap.get?_push_of_some _ (Heap.get?_push_of_some _ e)
  have hC₁ := k _ _ hC
  have hget : ((h.push (W.kdv_tup [])).push (excO C h.objs.size)).get? (h.objs.size + 1) = some (excO C h.objs.size) := by heap_get
  have hcC : (Value.ref C :: bm).contains (.ref C) = true := by simp
  have i1 := hi.keeps k
  have b1 := (hb (.ref (h.objs.size + 1))).keeps k
  unfold isInstance
  repeat (first | with_reducible refine wpAny_loadPart_at hget ?_ | (with_reducible refine wpAny_isSubtype_exc hC₁ ?_; rw [hcC]) | wp_step)
  show wpAny _ _ (typeLookup (.ref C) _) _ _ _
  refine i1.at ?_
  refine wpAny_holding (wpAny_bind (b1.at ?_))
  refine wpAny_bind (wpAny_call (codeAny_mono hq fun r s' z => ?_))
  rcases r with e | (v | _ | _ | _) <;> first | exact z | exact z.elim | skip
  obtain ⟨rfl, z⟩ := z
  first
    | exact wpAny_pure (wpAny_pure z)
    | (wp_walk; exact z)
theorem call_ownK (F : ExcBaseFacts B newId initId bmB) (hT : ∀ X : String, bm.contains (.type X) = bmB.contains (.type X)) {ky : Str} {u : Value} {fI : Addr}
    (hC : h.get? C = some (excClassObj nm q C N bs bm hdct sn sub ab col dd k0 k1 k2 k3 k5 newId))
    (hi : W.Looks (model prog w) h (typeLookup (.ref C) "__init__") (some (.ref fI))) (hb : ∀ self, W.Looks (model prog w) h (bindSpecial (.ref fI) self) (.ref fI, [self]))
    (hq : codeAny (model prog w) (A.under (.builtin "type.__call__" ⟨[.ref C], [(ky, u)]⟩)) (.call (.ref fI) ⟨[.ref (h.objs.size + 1)], [(ky, u)]⟩) (W.InitBack (h.objs.size + 1) R)
      ⟨(h.push (W.kdv_tup [])).push (excO C h.objs.size), g, d, t, os⟩) :
    codeAny (model prog w) A (.call (.ref C) ⟨[], [(ky, u)]⟩) R ⟨h, g, d, t, os⟩ := by
  have f1 := tc_lookup
  have f2 := tc_bind (.ref C)
  have hTy : (⟨h, g, d, t, os⟩ : Shared).TypeIs (.ref C) "type" := ⟨_, hC, rfl⟩
  refine codeAny_of_tree ?_
  show wpAny _ _ (callAny (.ref C) _) _ _ _
  repeat (any_goals (first | assumption | with_reducible refine wpAny_loadPart_at hC ?_ | wp_step))
  refine ⟨rfl, ?_⟩
  refine codeAny_call_builtin_at (Code.quiet_builtin _ (by decide +kernel)) entry_typeCall (wpAny_check_type_call_sub hC (type_callK F hT hC hi hb ?_))
  refine codeAny_mono hq fun r s' z => ?_
  rcases r with e | (v | _ | _ | _) <;> exact z
end
end PySem.HandSPX

namespace Sq
open PySem PySem.Spec PyProof.Rows L2
/-! ## an own exception as a value: C(e), C(value = e) -/
structure OwnX (P : Program) (w : World) (K : PySem.W.Frag) (mg : Str → Option Value) (base : Heap) (k : Nat) (x : Str) (C : Addr) : Prop where
  ex : ∃ (f : Addr) (fd : FuncData), OexC K C ∧ PySem.W.findIn K (.ref C) "__init__" = some (some (.ref f)) ∧ PySem.W.typeIn K (.ref f) = some (.type "function") ∧ FnOk P w K mg base CX0 k f fd ["self", "value"] (spXI C) ∧ mg x = some (.ref C) ∧ L2.Binds K fd ["self", "value"] [] ∧
    ∀ (s : Shared) (u v : Value), BindsTo s fd ⟨[u], [("value", v)]⟩ ((["self", "value"] : List Str).zip [u, v])
def tOex (C : Addr) (te : TE) : TE := fun σ H Q => te σ H fun v H1 => ∀ a d, H1 a = none → H1 d = none → d ≠ a → Q (.ref a) (upd (upd H1 d (exd d [("value", v)])) a (exo a C (some d)))
theorem xi_sp {C a : Addr} {v : V} {H : Hp} {Q : VK} {E : XK} (na : H a = none) (q : ∀ a d, H a = none → H d = none → d ≠ a → Q (.ref a) (upd (upd H d (exd d [("value", v)])) a (exo a C (some d)))) :
    spXI C [.ref a, v] (upd H a (exo a C none)) (fun x H2 => x = .non ∧ Q (.ref a) H2) E := by
  refine ⟨a, v, rfl, upd_same, fun dx nd ne => ⟨rfl, ?_⟩⟩
  rw [upd_ne ne] at nd
  have e : upd (upd (upd H a (exo a C none)) dx (exd dx [("value", v)])) a (exo a C (some dx)) = upd (upd H dx (exd dx [("value", v)])) a (exo a C (some dx)) := by
    funext b
    by_cases h1 : b = a
    · rw [h1, upd_same, upd_same]
    · rw [upd_ne h1, upd_ne h1]
      by_cases h2 : b = dx
      · rw [h2, upd_same, upd_same]
      · rw [upd_ne h2, upd_ne h2, upd_ne h1]
  rw [e]
  exact q a dx na nd ne
section
variable {X : Cx} {k j : Nat} {C : Addr} {x : Str} {p pos : Pos} {e : Expr} {te : TE} {kws : List Keyword} {t : TA}
theorem pe_oex (c : OwnX X.prog X.w X.K X.mg X.base k x C) (hr : Room j X.A) (hk : k + 1 ≤ j) (hg : Gl X x) (ha : PE X e te)
    (hdb : (x == ("__debug__" : Str)) = false := by decide) (he : starEach [e] X.env = (false, eval e X.env) :: starEach [] X.env := by rfl) (hpl : (backTo pos (starEach [] X.env)).any (·.1) = false := by rfl) : PE X (.Call (.Name x p) [e] [] pos) (tOex C te) := by
  obtain ⟨f, fd, T, iC, tI, FO, hm, b, bk⟩ := c.ex
  obtain ⟨nm, q, N, bs, bm, sn, sub, ab, col, dd, k0, k1, k2, k3, k5, hC, hbm⟩ := T.cls
  refine ⟨fun pins s σ H Q I h => wpAny_Call_Name_kw (ld_glob I hg hm ?_ hdb)⟩
  have pa : PA X [e] (tCons (tWk te) tNil) := pa_cons (pe_wk ha) pa_nil he
  refine PySem.W.callWith_K (h₀ := X.base) I.ok.mod.kin T.kC (thn (pa.run pos pins s σ H (fun vs H1 => ∃ v, vs = [v] ∧ ∀ a d, H1 a = none → H1 d = none → d ≠ a → Q (.ref a) (upd (upd H1 d (exd d [("value", v)])) a (exo a C (some d)))) I ⟨_, h, fun v G q => ⟨v, rfl, q⟩⟩) fun us s1 hh => ?_) he hpl
  obtain ⟨vs, H1, I1, r1, v, rfl, q1⟩ := hh
  obtain ⟨u, rfl, ru⟩ := r1.one
  refine ⟨I1.kIn, ?_⟩
  show wpAny _ _ (call (.ref C) [u]) _ _ _
  obtain ⟨hp, g, dr, tk, os⟩ := s1
  have hsz : hp.objs.size ≤ hp.objs.size + 1 := Nat.le_succ _
  have hn : H1 (hp.objs.size + 1) = none := I1.hok.fresh hsz
  have kk : ∀ b o, hp.get? b = some o → ((hp.push (PySem.W.kdv_tup [u])).push (PySem.HandSPX.excO C hp.objs.size)).get? b = some o := fun b o e => Heap.get?_push_of_some _ (Heap.get?_push_of_some _ e)
  have hget : ((hp.push (PySem.W.kdv_tup [u])).push (PySem.HandSPX.excO C hp.objs.size)).get? (hp.objs.size + 1) = some (PySem.HandSPX.excO C hp.objs.size) := by heap_get
  have I2 : Inv X pins σ (upd H1 (hp.objs.size + 1) (exo (hp.objs.size + 1) C none)) ⟨(hp.push (PySem.W.kdv_tup [u])).push (PySem.HandSPX.excO C hp.objs.size), g, dr, tk, os⟩ :=
    I1.laid (t' := tk) (a := hp.objs.size + 1) (o := exo (hp.objs.size + 1) C none) (h' := (hp.push (PySem.W.kdv_tup [u])).push (PySem.HandSPX.excO C hp.objs.size)) kk hsz (exo_ok hget)
  have r2 : Vals [V.ref (hp.objs.size + 1), v] [Value.ref (hp.objs.size + 1), u] := .cons rfl (.cons ru .nil)
  have hq := xi_sp (E := E0) hn q1
  have bb := b _ [Value.ref (hp.objs.size + 1), u] I2.kIn rfl
  refine wpAny_call (PySem.HandSPX.call_own F.excBase_ValueError (fun Y => PySem.HandSPX.refsVE_contains Y bm hbm) (I1.kIn _ _ hC) (PySem.W.looks_findIn I1.kIn iC) (fun self => PySem.W.bind_fn I1.kIn self tI) (lit_len (Nat.le_of_ble_eq_true rfl))
    (codeAny_mono (FO.run _ X.stack _ _ ⟨[Value.ref (hp.objs.size + 1), u], []⟩ [Value.ref (hp.objs.size + 1), u] _ _ E0 ((hr.mono hk).make C [u] []) (I2.env0.make C [u] []) bb r2 hq) fun r s' hq' => ?_))
  cases r with
  | error er => exact False.elim hq'
  | ok fl =>
    cases fl with
    | ret u =>
      obtain ⟨v, H', I3, rv, ev, q3⟩ := I2.after hq'
      subst ev
      exact ⟨rv, ⟨V.ref (hp.objs.size + 1), H', I3, rfl, q3⟩⟩
    | next => exact False.elim hq'
    | brk => exact False.elim hq'
    | cont => exact False.elim hq'
theorem pe_oexK {kpos : Pos} (c : OwnX X.prog X.w X.K X.mg X.base k x C) (hr : Room j X.A) (hk : k + 1 ≤ j) (hg : Gl X x) (ha : PE X e te)
    (hall : (backToKw pos (keywordEach [⟨some "value", e, kpos⟩] X.env)).all (·.1.isSome) = true := by rfl) (hks : (backToKw pos (keywordEach [⟨some "value", e, kpos⟩] X.env)).filterMap (·.1) = (["value"] : List Str) := by rfl) (hdb : (x == ("__debug__" : Str)) = false := by decide)
    (hpl : ((backTo pos (starEach [] X.env)).any (·.1) || (backToKw pos (keywordEach [⟨some "value", e, kpos⟩] X.env)).any (·.1.isNone)) = false := by rfl) : PE X (.Call (.Name x p) [] [⟨some "value", e, kpos⟩] pos) (tOex C te) := by
  obtain ⟨f, fd, T, iC, tI, FO, hm, b, bk⟩ := c.ex
  obtain ⟨nm, q, N, bs, bm, sn, sub, ab, col, dd, k0, k1, k2, k3, k5, hC, hbm⟩ := T.cls
  have pk : PK X [⟨some "value", e, kpos⟩] (tCons (tWk te) tNil) := pk_cons (pe_wk ha) pk_nil
  refine ⟨fun pins s σ H Q I h => wpAny_Call_Name_kw (ld_glob I hg hm (PySem.W.callWith_KW0 (h₀ := X.base) I.ok.mod.kin T.kC hall (thn (pk.run pos pins s σ H (fun vs H1 => ∃ v, vs = [v] ∧ ∀ a d, H1 a = none → H1 d = none → d ≠ a → Q (.ref a) (upd (upd H1 d (exd d [("value", v)])) a (exo a C (some d)))) I ⟨_, h, fun v G q => ⟨v, rfl, q⟩⟩) fun us s1 hh => ?_) hpl) hdb)⟩
  obtain ⟨vs, H1, I1, r1, v, rfl, q1⟩ := hh
  obtain ⟨u, rfl, ru⟩ := r1.one
  refine ⟨I1.kIn, ?_⟩
  rw [hks]
  show wpAny _ _ (call (.ref C) [] [("value", u)]) _ _ _
  obtain ⟨hp, g, dr, tk, os⟩ := s1
  have hsz : hp.objs.size ≤ hp.objs.size + 1 := Nat.le_succ _
  have hn : H1 (hp.objs.size + 1) = none := I1.hok.fresh hsz
  have kk : ∀ b o, hp.get? b = some o → ((hp.push (PySem.W.kdv_tup [])).push (PySem.HandSPX.excO C hp.objs.size)).get? b = some o := fun b o e => Heap.get?_push_of_some _ (Heap.get?_push_of_some _ e)
  have hget : ((hp.push (PySem.W.kdv_tup [])).push (PySem.HandSPX.excO C hp.objs.size)).get? (hp.objs.size + 1) = some (PySem.HandSPX.excO C hp.objs.size) := by heap_get
  have I2 : Inv X pins σ (upd H1 (hp.objs.size + 1) (exo (hp.objs.size + 1) C none)) ⟨(hp.push (PySem.W.kdv_tup [])).push (PySem.HandSPX.excO C hp.objs.size), g, dr, tk, os⟩ :=
    I1.laid (t' := tk) (a := hp.objs.size + 1) (o := exo (hp.objs.size + 1) C none) (h' := (hp.push (PySem.W.kdv_tup [])).push (PySem.HandSPX.excO C hp.objs.size)) kk hsz (exo_ok hget)
  have r2 : Vals [V.ref (hp.objs.size + 1), v] [Value.ref (hp.objs.size + 1), u] := .cons rfl (.cons ru .nil)
  have hq := xi_sp (E := E0) hn q1
  refine wpAny_call (PySem.HandSPX.call_ownK F.excBase_ValueError (fun Y => PySem.HandSPX.refsVE_contains Y bm hbm) (I1.kIn _ _ hC) (PySem.W.looks_findIn I1.kIn iC) (fun self => PySem.W.bind_fn I1.kIn self tI)
    (codeAny_mono (FO.run _ X.stack _ _ ⟨[Value.ref (hp.objs.size + 1)], [("value", u)]⟩ [Value.ref (hp.objs.size + 1), u] _ _ E0 ((hr.mono hk).make C [] [("value", u)]) (I2.env0.make C [] [("value", u)]) (bk _ _ _) r2 hq) fun r s' hq' => ?_))
  cases r with
  | error er => exact False.elim hq'
  | ok fl =>
    cases fl with
    | ret u =>
      obtain ⟨v, H', I3, rv, ev, q3⟩ := I2.after hq'
      subst ev
      exact ⟨rv, ⟨V.ref (hp.objs.size + 1), H', I3, rfl, q3⟩⟩
    | next => exact False.elim hq'
    | brk => exact False.elim hq'
    | cont => exact False.elim hq'
end
theorem kept_own {H : Hp} {a C d : Addr} {v : V} (na : H a = none) (nd : H d = none) (ne : d ≠ a) : Kept (upd (upd H d (exd d [("value", v)])) a (exo a C (some d))) a C [("value", v)] := ⟨d, .inr ⟨upd_same, upd_off ne upd_same⟩⟩
theorem own_mk {P : Program} {w : World} {K : PySem.W.Frag} {h base : Heap} {mg : Str → Option Value} {x : Str} {C f cc cda N : Addr} {nm q qual m file : Str} {bs bm sub : List Value} {sn : List Str} {ab : Bool} {col : Option Bool} {dd cld cdd od an : Option Addr} {k0 k1 k2 k3 k5 : Option Value}
    {cl ccl oc kV doc pm ct : Value} {csl ccs osl : Array (Option Value)} {cvs : Array Value} {tf : Tok} {p0 p1 p2 p3 p4 p5 p6 p7 p8 p9 q0 q1 : Pos} (X : K.In h) (G : h.Ns mainGlobals mg) (hm : mg x = some (.ref C))
    (lC : K.lookup C = some (excClassObj nm q C N bs bm true sn sub ab col dd k0 k1 k2 k3 k5 "ValueError.__new__")) (rC : PySem.HandSPX.refsVE bm = true) (sa : PySem.W.findIn K (.ref C) "__setattr__" = some (some (.builtin "object.__setattr__")))
    (ex : PySem.W.subIn K (.ref C) (.type "BaseException") = some true) (ty : PySem.W.typeIn K (.ref C) = some (.type "type")) (kc : PySem.W.keepIn K (.ref C) = true)
    (ini : PySem.W.findIn K (.ref C) "__init__" = some (some (.ref f))) (tyf : PySem.W.typeIn K (.ref f) = some (.type "function"))
    (l : K.lookup f = some ⟨oc, od, .func (PySem.W.ksFn "__init__" qual (xiArgs q0 q1) (xiBody m p0 p1 p2 p3 p4 p5 p6 p7 p8 p9) xiScope .none kV doc pm an (.ref cda) ct cc), osl⟩)
    (co : PySem.W.codeIn K (.ref cda) qual = true) (cell : K.lookup cc = some ⟨cl, cld, .cell (some (.ref C)), csl⟩) (rec_ : K.lookup cda = some ⟨ccl, cdd, .fields cvs, ccs⟩) (v2 : cvs[2]? = some (.str file tf)) (fl : ((P.main.file : Str) == file) = true)
    (top : (P.main.scope.names.lookup ("super" : Str)).isSome = false) (opq : PySem.W.nsIn K PySem.cStatics "thirdparty.any" = some none) (sup : PySem.W.ks_superIn K C C "__init__" = some (some (.builtin "ValueError.__init__"))) (veb : PySem.W.subIn K (.ref C) (.type "ValueError") = some true)
    (slf : PySem.W.mroIn K C (.ref C) = some true) (val : PySem.W.findIn K (.ref C) "value" = some none) (ms : PySem.W.nsIn K mainGlobals "super" = some none) (he : XiCall qual f cc cda m p0 p1 p2 p3 p4)
    (hb : ∀ us : List Value, us.length = 2 → bindArgs (PySem.W.ksFn "__init__" qual (xiArgs q0 q1) (xiBody m p0 p1 p2 p3 p4 p5 p6 p7 p8 p9) xiScope .none kV doc pm an (.ref cda) ct cc) ⟨us, []⟩ = pure ((["self", "value"] : List Str).zip us))
    (hbk : ∀ u v : Value, bindArgs (PySem.W.ksFn "__init__" qual (xiArgs q0 q1) (xiBody m p0 p1 p2 p3 p4 p5 p6 p7 p8 p9) xiScope .none kV doc pm an (.ref cda) ct cc) ⟨[u], [("value", v)]⟩ = pure ((["self", "value"] : List Str).zip [u, v])) : OwnX P w K mg base 1 x C :=
  ⟨f, _, ⟨⟨nm, q, N, bs, bm, sn, sub, ab, col, dd, k0, k1, k2, k3, k5, lC, rC⟩, sa, ex, ty, kc⟩, ini, tyf,
    ok_xi ⟨⟨nm, q, N, bs, bm, sn, sub, ab, col, dd, k0, k1, k2, k3, k5, lC, rC⟩, sa, ex, ty, kc⟩ ⟨co, ⟨cl, cld, csl, cell⟩, ⟨ccl, cdd, cvs, ccs, tf, rec_, v2⟩, fl, top, opq, sup, veb, slf, val⟩ l (PySem.W.mg_none_of X G ms) he, hm, L2.Binds.all hb, fun _ u v => .of_eq (hbk u v)⟩
/-! ## repr of any plain value -/
@[irreducible] def rReprV (K : PySem.W.Frag) : List V → Hp → VK → Prop := fun xs H Q => ∃ (x : V) (d : PyData), xs = [x] ∧ Dp K H x d ∧ d.showable = true ∧ d.hasDict = false ∧ d.depth ≤ 30 ∧ d.shown.length ≤ sizeLine ∧ Q (.str d.shown) H
theorem call_reprVK {X : Cx} {K : PySem.W.Frag} (hG : X.A.guards = some []) (hu : X.A.units + 64 < cLine) (h : X.K = K := by rfl) : CallR X (.builtin "repr") (rReprV K) := by
  subst h
  intro pins s σ H xs us Q I r h
  unfold rReprV at h
  obtain ⟨x, d, rfl, hd, hs, hn, hdp, hz, q⟩ := h
  obtain ⟨v, rfl, rv⟩ := vals1 r
  have ref : ∀ a : Addr, x = .ref a → wpAny (model X.prog X.w) X.A (call (.builtin "repr") [v]) (EP X pins σ Q) X.xe s := fun a e => by
    subst e
    cases rv
    obtain ⟨as, rd⟩ := Dp.reads I d _ _ hd rfl
    refine repr_of_reads' rd hs (PyData.noDict_hsm hn) hG (by omega) (fun b o e => e) (fun h' t tk hk => ?_) hz
    exact ⟨.str d.shown, H, I.kept hk, ⟨_, rfl⟩, q⟩
  cases hd with
  | non =>
    cases rv
    simp only [PyData.shown] at q
    exact PySem.P.repr_of_none ⟨.str _, H, I.tok _, ⟨_, rfl⟩, q⟩
  | bl b =>
    cases rv
    simp only [PyData.shown] at q
    exact PySem.P.repr_of_bool ⟨.str _, H, I.tok _, ⟨_, rfl⟩, q⟩
  | int i =>
    obtain ⟨t, rfl⟩ := rv
    simp only [PyData.shown] at q
    exact PySem.P.repr_of_int (by simpa [PyData.showable] using hs) ⟨.str _, H, I.tok _, ⟨_, rfl⟩, q⟩
  | str a =>
    obtain ⟨t, rfl⟩ := rv
    simp only [PyData.shown] at q hz
    exact PySem.P.repr_of_str ⟨.str _, H, I.tok _, ⟨_, rfl⟩, q⟩ hz
  | lst h1 h2 => exact ref _ rfl
  | tup h1 h2 => exact ref _ rfl
theorem rReprV_of {K : PySem.W.Frag} {H : Hp} {x : V} {d : PyData} {Q : VK} (hd : Dp K H x d) (h1 : d.showable = true) (h2 : d.hasDict = false) (h3 : d.depth ≤ 30) (h4 : d.shown.length ≤ sizeLine) (q : Q (.str d.shown) H) : rReprV K [x] H Q := by
  unfold rReprV
  exact ⟨x, d, rfl, hd, h1, h2, h3, h4, q⟩
/-! ## text * number -/
def rRepS : R2 := fun x y H Q => ∃ (a : Str) (n : Int), x = .str a ∧ y = .int n ∧ MulOk a n ∧ Q (.str (Txt.mul a n)) H
theorem op_rep_str {X : Cx} : OpR X (binaryOp .Mult) rRepS := by
  intro pins s σ H x y v u Q I r1 r2 h
  obtain ⟨a, n, rfl, rfl, hm, q⟩ := h
  obtain ⟨t, rfl⟩ := r1
  obtain ⟨t', rfl⟩ := r2
  exact SB.mul hm fun t2 k => ⟨.str _, H, I.tok _, ⟨_, rfl⟩, q⟩
/-- a list of ints shown -/
theorem r_reprVI {K : PySem.W.Frag} {H : Hp} {a : Addr} {ns : List Int} {Q : VK} (h1 : SqL K H a (iv ns)) (hl : ns.length ≤ 5000) (hz : ∀ n ∈ ns, n.natAbs.log2 < 1920) (q : Q (.str (dI ns).shown) H) : rReprV K [.ref a] H Q := by
  refine rReprV_of (dp_iv h1) ?_ ?_ ?_ ?_ q
  · simp only [dI, PyData.showable]
    exact show_ints ns hz
  · simp only [dI, PyData.hasDict]
    exact nod_ints ns
  · simp only [dI, PyData.depth, dep_ints]
    decide
  · obtain ⟨e1, e2⟩ := shown_ints_len ns hz
    have e3 := listText_len_le (PyData.shownAll (ns.map .int))
    simp only [dI, PyData.shown]
    rw [sizeLine_eq]
    omega
theorem short_of {d : PyData} (h1 : d.leavesShort 2000 = true) (h2 : d.bulk ≤ 8000) : d.shown.length ≤ sizeLine := by
  have := PyData.shown_le_bulk 2000 (by decide) d h1
  have : (2000 + 2) * d.bulk ≤ (2000 + 2) * 8000 := Nat.mul_le_mul_left _ h2
  rw [sizeLine_eq]
  omega
/-- two texts -/
def dT2 (a b : List Nat) : PyData := .list [.str (SX.S a), .str (SX.S b)]
theorem short_str {a : List Nat} (h : ∀ c ∈ a, c < 16 ^ 8) : (PyData.str (SX.S a)).leavesShort 2000 = true := by
  simp only [PyData.leavesShort, List.all_eq_true, decide_eq_true_eq]
  exact h
theorem r_reprT2 {K : PySem.W.Frag} {H : Hp} {p : Addr} {a b : List Nat} {Q : VK} (h1 : H p = some (.lst [.str (SX.S a), .str (SX.S b)])) (ha : ∀ c ∈ a, c < 16 ^ 8) (hb : ∀ c ∈ b, c < 16 ^ 8) (la : a.length ≤ 3000) (lb : b.length ≤ 3000) (q : Q (.str (dT2 a b).shown) H) : rReprV K [.ref p] H Q := by
  refine rReprV_of (.lst (seqL_of h1) (.cons (.str _) (.cons (.str _) .nil))) ?_ ?_ ?_ ?_ q
  · simp [PyData.showable, PyData.showableAll]
  · simp [PyData.hasDict, PyData.hasDictAll]
  · simp [PyData.depth, PyData.depthAll]
  · refine short_of ?_ ?_
    · simp only [PyData.leavesShort, PyData.leavesShortAll, Bool.and_true, Bool.and_eq_true]
      exact ⟨by simpa [PyData.leavesShort] using short_str ha, by simpa [PyData.leavesShort] using short_str hb⟩
    · simp only [PyData.bulk, PyData.bulkAll]
      have e1 : a.toArray.size = a.length := SX.S_len a
      have e2 : b.toArray.size = b.length := SX.S_len b
      omega
end Sq


set_option Elab.async false
set_option maxRecDepth 100000
set_option maxHeartbeats 4000000
namespace Sq
open PySem PySem.Spec L2
/-! ### values that are shown by repr, their size bounded -/
structure DOk (k b : Nat) (d : PyData) : Prop where
  sh : d.showable = true
  nd : d.hasDict = false
  dp : d.depth ≤ k
  ls : d.leavesShort 2000 = true
  bk : d.bulk ≤ b
theorem DOk.mono {k b k' b' : Nat} {d : PyData} (h : DOk k b d) (hk : k ≤ k') (hb : b ≤ b') : DOk k' b' d := ⟨h.sh, h.nd, Nat.le_trans h.dp hk, h.ls, Nat.le_trans h.bk hb⟩
theorem dok_non : DOk 0 0 .none := ⟨by simp [PyData.showable], by simp [PyData.hasDict], by simp [PyData.depth], by simp [PyData.leavesShort], by simp [PyData.bulk]⟩
theorem dok_bl (b : Bool) : DOk 0 0 (.bool b) := ⟨by simp [PyData.showable], by simp [PyData.hasDict], by simp [PyData.depth], by simp [PyData.leavesShort], by simp [PyData.bulk]⟩
theorem dok_int {i : Int} (h : i.natAbs.log2 < 1920) : DOk 0 0 (.int i) := ⟨by simpa [PyData.showable] using h, by simp [PyData.hasDict], by simp [PyData.depth], by
  have e := int_text_length_le (k := 1920) (by decide) h
  have z : (PyData.shown (.int i)).length ≤ 2000 := by
    show (Str.ofString (toString i)).length ≤ 2000
    rw [PySem.ofString_length]
    omega
  simpa [PyData.leavesShort] using z, by simp [PyData.bulk]⟩
theorem dok_str {x : Str} {b : Nat} (h1 : (PyData.str x).leavesShort 2000 = true) (h2 : x.cps.size ≤ b) : DOk 0 b (.str x) := ⟨by simp [PyData.showable], by simp [PyData.hasDict], by simp [PyData.depth], h1, by simpa [PyData.bulk] using h2⟩
theorem dok_strS {a : List Nat} {b : Nat} (h : ∀ c ∈ a, c < 16 ^ 8) (l : a.length ≤ b) : DOk 0 b (.str (SX.S a)) := dok_str (short_str h) (by simpa [SX.S] using l)
theorem dok_all {k b : Nat} : ∀ {ds : List PyData}, (∀ d ∈ ds, DOk k b d) → PyData.showableAll ds = true ∧ PyData.hasDictAll ds = false ∧ PyData.depthAll ds ≤ k ∧ PyData.leavesShortAll 2000 ds = true ∧ PyData.bulkAll ds ≤ ds.length * (b + 1)
  | [], _ => by simp [PyData.showableAll, PyData.hasDictAll, PyData.depthAll, PyData.leavesShortAll, PyData.bulkAll]
  | d :: r, h => by
    obtain ⟨a1, a2, a3, a4, a5⟩ := dok_all (ds := r) fun x hx => h x (List.mem_cons_of_mem _ hx)
    obtain ⟨b1, b2, b3, b4, b5⟩ := h d (List.mem_cons_self ..)
    refine ⟨by simp [PyData.showableAll, a1, b1], by simp [PyData.hasDictAll, a2, b2], ?_, by simp [PyData.leavesShortAll, a4, b4], ?_⟩
    · simp only [PyData.depthAll]
      omega
    · simp only [PyData.bulkAll, List.length_cons, Nat.add_mul]
      omega
theorem dok_list {k b m : Nat} {ds : List PyData} (h : ∀ d ∈ ds, DOk k b d) (hm : ds.length * (b + 1) ≤ m) : DOk (k + 1) m (.list ds) := by
  obtain ⟨a1, a2, a3, a4, a5⟩ := dok_all h
  exact ⟨by simpa [PyData.showable] using a1, by simpa [PyData.hasDict] using a2, by simpa [PyData.depth] using a3, by simpa [PyData.leavesShort] using a4, Nat.le_trans (by simpa [PyData.bulk] using a5) hm⟩
theorem dok_tup {k b m : Nat} {ds : List PyData} (h : ∀ d ∈ ds, DOk k b d) (hm : ds.length * (b + 1) ≤ m) : DOk (k + 1) m (.tuple ds) := by
  obtain ⟨a1, a2, a3, a4, a5⟩ := dok_all h
  exact ⟨by simpa [PyData.showable] using a1, by simpa [PyData.hasDict] using a2, by simpa [PyData.depth] using a3, by simpa [PyData.leavesShort] using a4, Nat.le_trans (by simpa [PyData.bulk] using a5) hm⟩
theorem dok_dI {ns : List Int} {m : Nat} (h : ∀ n ∈ ns, n.natAbs.log2 < 1920) (hm : ns.length ≤ m) : DOk 1 m (dI ns) := by
  refine dok_list (k := 0) (b := 0) (fun d hd => ?_) (by simpa using hm)
  obtain ⟨n, hn, rfl⟩ := List.mem_map.mp hd
  exact dok_int (h n hn)
theorem rRepr_ok {K : PySem.W.Frag} {H : Hp} {x : V} {d : PyData} {k b : Nat} {Q : VK} (h : DOk k b d) (hd : Dp K H x d) (hk : k ≤ 30) (hb : b ≤ 8000) (q : Q (.str d.shown) H) : rReprV K [x] H Q :=
  rReprV_of hd h.sh h.nd (Nat.le_trans h.dp hk) (short_of h.ls (Nat.le_trans h.bk hb)) q
theorem dpall_app {K : PySem.W.Frag} {H : Hp} {x : V} {d : PyData} : ∀ {xs : List V} {ds : List PyData}, DpAll K H xs ds → Dp K H x d → DpAll K H (xs ++ [x]) (ds ++ [d])
  | [], _, h, hx => by
    cases h
    exact .cons hx .nil
  | _ :: _, _, h, hx => by
    cases h with
    | cons a b => exact .cons a (dpall_app b hx)
theorem dpall_rep {K : PySem.W.Frag} {H : Hp} {x : V} {d : PyData} (hx : Dp K H x d) : ∀ n : Nat, DpAll K H (List.replicate n x) (List.replicate n d)
  | 0 => .nil
  | n + 1 => .cons hx (dpall_rep hx n)
theorem dpall_cat {K : PySem.W.Frag} {H : Hp} : ∀ {xs ys : List V} {ds es : List PyData}, DpAll K H xs ds → DpAll K H ys es → DpAll K H (xs ++ ys) (ds ++ es)
  | [], _, _, _, h, g => by
    cases h
    exact g
  | _ :: _, _, _, _, h, g => by
    cases h with
    | cons a b => exact .cons a (dpall_cat b g)
theorem kit_list {K : PySem.W.Frag} : PySem.W.kitOne K (.type "list") (.type "str") = some false := rfl
theorem kit_tup {K : PySem.W.Frag} : PySem.W.kitOne K (.type "tuple") (.type "str") = some false := rfl
theorem kit_int {K : PySem.W.Frag} : PySem.W.kitOne K (.type "int") (.type "str") = some false := rfl
theorem kit_bl {K : PySem.W.Frag} : PySem.W.kitOne K (.type "bool") (.type "str") = some false := rfl
theorem kit_non {K : PySem.W.Frag} : PySem.W.kitOne K (.type "NoneType") (.type "str") = some false := rfl
end Sq


set_option Elab.async false
set_option maxRecDepth 100000
set_option maxHeartbeats 4000000
namespace Sq
open PySem PySem.Spec PyProof.Rows L2
/-! ## isinstance of a kept exception, with a tuple of classes -/
def rIsXT (K : PySem.W.Frag) : List V → Hp → VK → Prop := fun xs H Q => ∃ (a C : Addr) (fs : List (Str × V)) (tp : Addr) (cs : List V) (ws : List Value) (b : Bool), xs = [.ref a, .ref tp] ∧ Kept H a C fs ∧ ExcC K C ∧ H tp = some (.tup cs) ∧ Paired ClsV cs ws ∧ PySem.W.kitAny K (.ref C) ws = some b ∧ Q (.bl b) H
theorem call_isXT {X : Cx} {K : PySem.W.Frag} (h : X.K = K := by rfl) : CallR X (.builtin "isinstance") (rIsXT K) := by
  subst h
  intro pins s σ H xs us Q I r h
  obtain ⟨a, C, fs, tp, cs, ws, b, rfl, k, EC, hT, hc, e, q⟩ := h
  obtain ⟨oe, od, d, mA, J, _⟩ := kept_at I k
  obtain ⟨u0, u1, rfl, r0, r1⟩ := vals2 r
  obtain rfl : u0 = Value.ref a := r0
  obtain rfl : u1 = Value.ref tp := r1
  obtain ⟨_, its, rv, o, h1, h2, n, h3⟩ := (show ObjOk X.prog X.w H s.heap tp (.tup cs) from I.hok tp _ hT)
  have e3 := ClsV.all hc rv
  subst e3
  obtain ⟨oc, od2, dt, sl⟩ := o
  simp only at h2 h3
  subst h2 h3
  obtain ⟨cd, hcd, _⟩ := PySem.W.any_some EC.hd
  exact PySem.W.kia_tup (PySem.W.kitx_exc (by rw [hcd]; rfl) EC.hg EC.hk EC.hs EC.ha EC.hn EC.ht EC.hm) I.kIn J h1 e (fun z => nomatch z) fun tk => ⟨.bl b, H, I.kept (t' := tk) fun _ _ z => z, rfl, q⟩
/-! ## a def that may raise, called by place and by keywords -/
structure Def2X (P : Program) (w : World) (K : PySem.W.Frag) (mg : Str → Option Value) (base : Heap) (k : Nat) (x : Str) (st : Stmt) (ps : List Str) (sp : Sp) : Prop where
  ex : ∃ (f : Addr) (fd : FuncData), Fun K x x st f fd ∧ mg x = some (.ref f) ∧ Binds K fd ps [] ∧ FnOk P w K mg base (L2.CX P w) k f fd ps sp
section
variable {P : Program} {w : World} {K : PySem.W.Frag} {mg : Str → Option Value} {base : Heap} {x : Str} {st : Stmt} {ps N : List Str} {k : Nat} {sp sp' : Sp}
theorem DefAt.twoX (D : DefAt K mg x st ps) (S : FnScope N ps (defScope st)) (len : ∀ vs H Q E, sp vs H Q E → vs.length = ps.length)
    (hb : ∀ (f : Addr) (cdv : Value) (A : Around) (outer : List Env) (s : Shared) (H : Hp) (vs : List V) (Q : VK) (E : XK), Room k (A.deeper (envOfC x (defScope st) s.heap.objs.size f cdv)) → sp vs H Q E →
      (Takes (cxOf (L2.CX P w) P w K mg base N x (defScope st) f cdv A outer s H E) fun cls d _ G => E cls d G) →
      ∃ t, PSs (cxOf (L2.CX P w) P w K mg base N x (defScope st) f cdv A outer s H E) (defBody st) t ∧ t { nx := fun _ H' => Q .non H', rt := Q } (start N vs) H) : Def2X P w K mg base (k + 1) x st ps sp := by
  obtain ⟨f, fd, F, hm, b⟩ := D.ex
  exact ⟨f, fd, F, hm, b, F.okX S len fun cdv A outer s H vs Q E hr hsp => hb f cdv A outer s H vs Q E hr hsp (takes_of rfl rfl rfl rfl)⟩
theorem Def2X.calX (D : Def2X P w K mg base k x st ps sp) : CalX P w K mg base k x sp := by
  obtain ⟨f, fd, F, hm, b, ok⟩ := D.ex
  exact ⟨f, fd, ps, ok, hm, F.kp, b⟩
theorem Def2X.calm (D : Def2X P w K mg base k x st ps sp) (h : ∀ vs H Q E, sp' vs H Q E → sp vs H Q E0) : Def2 P w K mg base k x st ps sp' := by
  obtain ⟨f, fd, F, hm, b, ok⟩ := D.ex
  exact ⟨f, fd, F, hm, b, fn_calm ok h⟩
end
end Sq


set_option Elab.async false
set_option maxRecDepth 100000
set_option maxHeartbeats 4000000
namespace Sq
open PySem PySem.Spec PyProof.Rows L2
/-! ## a def called by keywords alone that may raise -/
structure CalKX (P : Program) (w : World) (K : PySem.W.Frag) (mg : Str → Option Value) (base : Heap) (k : Nat) (x : Str) (ks : List Str) (sp : Sp) : Prop where
  ex : ∃ (f : Addr) (fd : FuncData) (ps : List Str) (spf : Sp) (g : List Value → List Value → List Value) (gV : List V → List V → List V),
    FnOk P w K mg base (L2.CX P w) k f fd ps spf ∧ mg x = some (.ref f) ∧ PySem.W.keepIn K (.ref f) = true ∧ KBn K fd ps 0 ks g gV ∧ ∀ zs H Q E, sp zs H Q E → zs.length = ks.length ∧ spf (gV [] zs) H Q E
def tCkX (sp : Sp) (E : L2.St → XK) (tk : TA) : TE := fun σ H Q => tk σ H fun zs H1 => sp zs H1 Q (E σ)
section
variable {X : Cx} {W : WX} {k j : Nat} {x : Str} {ks : List Str} {sp : Sp} {p pos : Pos} {kws : List Keyword} {t : TA}
theorem pe_ckx (c : CalKX X.prog X.w X.K X.mg X.base k x ks sp) (hr : Room j X.A) (hk : k ≤ j) (tk : Takes X W) (hg : Gl X x) (hkw : PK X kws t)
    (hall : (backToKw pos (keywordEach kws X.env)).all (·.1.isSome) = true := by rfl) (hks : (backToKw pos (keywordEach kws X.env)).filterMap (·.1) = ks := by rfl) (hdb : (x == ("__debug__" : Str)) = false := by decide)
    (hpl : ((backTo pos (starEach [] X.env)).any (·.1) || (backToKw pos (keywordEach kws X.env)).any (·.1.isNone)) = false := by rfl) : PE X (.Call (.Name x p) [] kws pos) (tCkX sp (WE W) t) := by
  obtain ⟨f, fd, ps, spf, g, gV, F, hm, kp, hb, hs⟩ := c.ex
  refine ⟨fun pins s σ H Q I h => wpAny_Call_Name_kw (ld_glob I hg hm ?_ hdb)⟩
  refine PySem.W.callWith_KW0 (first := []) (h₀ := X.base) I.ok.mod.kin kp hall (thn (hkw.run pos pins s σ H _ I h) fun ws s1 hx => ?_) hpl
  obtain ⟨zs, H1, I1, rz, q⟩ := hx
  obtain ⟨lz, q3⟩ := hs _ _ _ _ q
  refine ⟨I1.kIn, ?_⟩
  rw [hks]
  refine wpAny_call (codeAny_mono (F.run X.A X.stack s1 H1 ⟨[], ks.zip ws⟩ (g [] ws) (gV [] zs) Q (WE W σ) (hr.mono hk) I1.env0 (hb.to s1 [] ws I1.kIn rfl (rz.length.symm.trans lz)) (hb.rel .nil rz) q3) fun r s3 hq => ?_)
  cases r with
  | error er => exact passAt tk σ pins H1 s1 er s3 I1 hq
  | ok fl =>
    cases fl with
    | ret u => exact I1.after hq
    | next => exact False.elim hq
    | brk => exact False.elim hq
    | cont => exact False.elim hq
end
section
variable {P : Program} {w : World} {K : PySem.W.Frag} {mg : Str → Option Value} {base : Heap} {x : Str} {st : Stmt} {ps ks : List Str} {k : Nat} {sp sp' : Sp}
theorem Def2X.calKX (D : Def2X P w K mg base k x st ps sp) (g : {α : Type} → List α → List α) (hg : ∀ {vs : List V} {us : List Value}, Vals vs us → Vals (g vs) (g us))
    (h : ∀ (kV doc pm : Value) (an : Option Addr) (cdv ct : Value) (ws : List Value), ws.length = ks.length →
      bindArgs (PySem.W.fnOf x x (defArgs st) (defBody st) (defScope st) .none kV doc pm an cdv ct) ⟨[], ks.zip ws⟩ = pure (ps.zip (g ws))) (hs : ∀ zs H Q E, sp' zs H Q E → zs.length = ks.length ∧ sp (g zs) H Q E) : CalKX P w K mg base k x ks sp' := by
  obtain ⟨f, fd, F, hm, b, ok⟩ := D.ex
  exact ⟨f, fd, ps, sp, _, _, ok, hm, F.kp, kbn_plain F g hg h, hs⟩
end
end Sq


set_option Elab.async false
set_option maxRecDepth 100000
set_option maxHeartbeats 2000000
/-! for in a generator's body; list(g(..)) -/
namespace Sq
open PySem PySem.Spec PyProof.Rows L2 GenW
section
variable {prog : Program} {w : World} {A : Around} {R : GenEnd} {Y : Protocol} {n : Nat} {s₀ : Shared} {c : Code} {fs : List Frame} {s : Shared} {env : Env}
  {K : Flow → Sem PySem.Fin} {H : Value → Sem PySem.Fin} {gd : Bool → Bool} {lv : List Value → List Value}
theorem seg_For {target iter : Expr} {body orelse : List Stmt} {pos : Pos}
    (h : wpAny (model prog w) (A.over c fs) (eval iter env) (fun x s₁ => wpAny (model prog w) (A.over c fs) (pyIter x) (fun it s₂ =>
      ∀ p, Seg (model prog w) A R Y n s₀ (.forLoop target it body orelse env) ((model prog w).den (.forLoop target it body orelse env))
        (.ret (fun r => ((match r with | .ok f => (.pure f : Sem Flow) | .error e => .raise e).onRaise (cameBack env)).wrap K H gd lv) none (gd false) (lv []) c p [] :: fs) s₂)
      (fun x s' => Seg (model prog w) A R Y n s₀ c (H x) fs s') s₁) (fun x s' => Seg (model prog w) A R Y n s₀ c (H x) fs s') s)
    (hs : ∀ x, foldedSetIterable iter env x = pure x := by intro _; rfl) :
    Seg (model prog w) A R Y n s₀ c ((exec (.For target iter body orelse pos) env).wrap K H gd lv) fs s := by
  rw [exec_For]
  refine seg_bind_wrap (wpAny_standAt (seg_bind_wrap (wpAny_mono h (fun x s₁ h₁ => ?_) fun _ _ z => z)))
  refine seg_bind_wrap (wpAny_of_eq (hs x) (seg_bind_wrap (wpAny_standAt (seg_bind_wrap (wpAny_holding (wpAny_mono h₁ (fun it s₂ h₂ => ?_) fun _ _ z => z))))))
  exact seg_call h₂
theorem seg_forLoop {target : Expr} {it : Value} {body : List Stmt}
    (h : wpAny (model prog w) (A.over (.forLoop target it body [] env) fs) (pyNext it) (fun r s₁ => match r with
      | none => Seg (model prog w) A R Y n s₀ (.block [] env) (.pure (.done .next)) fs s₁
      | some v => wpAny (model prog w) (A.over (.forLoop target it body [] env) fs) (letOwnedTupleGo target it v) (fun _ s₁' =>
          wpAny (model prog w) (A.over (.forLoop target it body [] env) fs) (assign target env v) (fun _ s₂ =>
            Seg (model prog w) A R Y n s₀ (.forLoop target it body [] env) ((execs body env).wrap (fun f => match f with
            | .next | .cont => .pure (.again (.forLoop target it body [] env))
            | .brk => .pure (.done .next)
            | .ret v => .pure (.done (.ret v))) (fun e => (do noteFrame e env; theTreesLotGoes e : Sem Unit).wrap (fun _ => .raise e) .raise id id) id id) fs s₂)
          (fun x s' => Seg (model prog w) A R Y n s₀ (.forLoop target it body [] env) ((do noteFrame x env; theTreesLotGoes x : Sem Unit).wrap (fun _ => .raise x) .raise id id) fs s') s₁')
          (fun x s' => Seg (model prog w) A R Y n s₀ (.forLoop target it body [] env) ((do noteFrame x env; theTreesLotGoes x : Sem Unit).wrap (fun _ => .raise x) .raise id id) fs s') s₁)
      (fun x s' => Seg (model prog w) A R Y n s₀ (.forLoop target it body [] env) ((do noteFrame x env; theTreesLotGoes x : Sem Unit).wrap (fun _ => .raise x) .raise id id) fs s') s) :
    Seg (model prog w) A R Y n s₀ (.forLoop target it body [] env) ((model prog w).den (.forLoop target it body [] env)) fs s := by
  show Seg _ A R Y n s₀ _ ((forTurn target it body [] env).onRaise (fun x => do noteFrame x env; theTreesLotGoes x)) fs s
  rw [Sem.onRaise_eq_wrap]
  have eN : ∀ (x : Value) (s' : Shared), Seg (model prog w) A R Y n s₀ (.forLoop target it body [] env) ((do noteFrame x env; theTreesLotGoes x : Sem Unit).wrap (fun _ => .raise x) .raise id id) fs s' →
      Seg (model prog w) A R Y n s₀ (.forLoop target it body [] env) ((do noteFrame x env; theTreesLotGoes x : Sem Unit).bind fun _ => .raise x) fs s' := fun x s' hx => by
    rw [Sem.bind_eq_wrap]
    exact hx
  unfold forTurn
  refine seg_bind_wrap (wpAny_standAt (seg_bind_wrap (wpAny_onRaise (wpAny_mono h (fun r s₁ h₁ => ?_) fun x s' hx => wpAny_standAt (eN x s' hx)))))
  cases r with
  | none => exact seg_again rfl h₁
  | some v =>
    refine seg_bind_wrap (wpAny_mono h₁ (fun _ s₁' h₁' => ?_) fun x s' hx => eN x s' hx)
    refine seg_bind_wrap (wpAny_mono h₁' (fun _ s₂ h₂ => ?_) fun x s' hx => eN x s' hx)
    rw [Sem.bind_eq_wrap', Sem.wrap_wrap]
    rw [Sem.wrap_congr (execs body env) _ _ (K' := fun f => match f with
            | .next | .cont => .pure (.again (.forLoop target it body [] env))
            | .brk => .pure (.done .next)
            | .ret v => .pure (.done (.ret v))) (H' := (fun e => (do noteFrame e env; theTreesLotGoes e : Sem Unit).wrap (fun _ => .raise e) .raise id id))
        (fun f => by cases f <;> rfl)
        (fun e => by first | exact Sem.bind_eq_wrap _ _ | (show (do noteFrame e env; theTreesLotGoes e : Sem Unit).bind (fun _ => .raise e) = _; rw [Sem.bind_eq_wrap]))]
    exact h₂
end
section
variable {X : Cx}
def tGFor (wi : TI) (g : TG) (tb : TGn) : TGn := fun D ys σ H => wi σ H fun J H1 => ∃ W : Nat → Nat → List V → L2.St → Hp → Prop, (∃ m, W 0 m ys σ H1) ∧ ∀ i m ys σ H, W i m ys σ H →
  (J.stop i H ∧ D.nx ys σ H) ∨ (J.go i H ∧ ∃ N : List V → L2.St → Hp → Prop, (∀ ys' σ' H', N ys' σ' H' → ∃ m', m' < m ∧ W (i + 1) m' ys' σ' H') ∧ ∀ x H', J.yld i H x H' → g x σ H' fun σ2 H2 => tb { D with nx := N, ct := N, bk := D.nx } ys σ2 H2)
theorem gs_for {tg iter : Expr} {body : List Stmt} {wi : TI} {g : TG} {tb : TGn} {pos : Pos} (hp : PassesOwn (model X.prog X.w) X.A X.env X.xe) (hc : X.calm = true) (hi : PI X tg iter wi) (hg : PG X tg g) (hb : GSs X body tb)
    (hs : ∀ x, foldedSetIterable iter X.env x = pure x := by intro _; rfl) : GS X (.For tg iter body [] pos) (tGFor wi g tb) := by
  refine ⟨fun A S ip R n ys s₀ c fs K J gd lv s σ H D gc hn k hI ht => ?_⟩
  obtain ⟨acc, cc, r, I⟩ := hI
  refine seg_For ?_ hs
  rw [gc.over]
  refine wpAny_mono (hi.run _ s σ H _ I ht) (fun v s1 h1 => wpAny_mono h1 (fun itv s2 h2 p => ?_) fun x s' hx => k.exc n s₀ x s' hx) fun x s' hx => k.exc n s₀ x s' hx
  obtain ⟨it, fp, tn, JI, H2, e, I2, T, st2, f2, W, ⟨m0, w0⟩, turn⟩ := h2
  subst e
  have gl := fun (kk : Result → Sem PySem.Fin) => gc_loop (k := kk) (c' := .forLoop tg (.ref it) body [] X.env) (l := lv []) (kp := []) (p := p) gc rfl rfl
  have fpS : ∀ b ∈ fp, b ≠ S := fun b hb z => (f2 b hb).2.2.2.2.2 (S, lstObj acc cc) (List.mem_append_right _ List.mem_cons_self) z.symm
  have stat : ∀ {acc' : Array Value} {c' : Nat} {H' : Hp}, (∀ b ∈ fp, H' b = none) → ∀ b ∈ fp, FpOk X ((S, lstObj acc' c') :: ip) H' b := fun {acc' c' H'} hn b hb => by
    obtain ⟨_, g1, g2, g3, g4, g5⟩ := f2 b hb
    refine ⟨hn b hb, g1, g2, g3, g4, fun q hq => ?_⟩
    rcases List.mem_append.mp hq with hq | hq
    · exact g5 q (List.mem_append_left _ hq)
    · rcases List.mem_cons.mp hq with hq | hq
      · rw [hq]
        exact (fpS b hb).symm
      · exact g5 q (List.mem_append_right _ (List.mem_cons_of_mem _ hq))
  have loop : ∀ (m i n : Nat) (ys : List V) (s₀ s : Shared) (σ : L2.St) (H : Hp), n + ys.length = sizeLine → W i m ys σ H → GI X S ip ys σ H s → tn i s.heap → (∀ b ∈ fp, H b = none) →
      Seg (model X.prog X.w) A R (GY X S) n s₀ (.forLoop tg (.ref it) body [] X.env) ((model X.prog X.w).den (.forLoop tg (.ref it) body [] X.env))
        (.ret (fun r => ((match r with | .ok f => (.pure f : Sem Flow) | .error e => .raise e).onRaise (cameBack X.env)).wrap K J gd lv) none (gd false) (lv []) c p [] :: fs) s := by
    intro m
    induction m using Nat.strongRecOn with
    | ind m ih =>
      intro i n ys s₀ s σ H hn w hI st fr
      have ee : ∀ (n : Nat) (s₀ : Shared) (x : Value) (s' : Shared), X.xe x s' → Seg (model X.prog X.w) A R (GY X S) n s₀ (.forLoop tg (.ref it) body [] X.env)
          ((do noteFrame x X.env; theTreesLotGoes x : Sem Unit).wrap (fun _ => .raise x) .raise id id)
          (.ret (fun r => ((match r with | .ok f => (.pure f : Sem Flow) | .error e => .raise e).onRaise (cameBack X.env)).wrap K J gd lv) none (gd false) (lv []) c p [] :: fs) s' := fun n s₀ x s' hx => by
        refine seg_wrap ?_
        rw [(gl _).over]
        refine wpAny_bind (wpAny_mono (hp x s' hx) (fun _ s'' hcb => wpAny_theTreesLotGoes ?_) fun y s'' hcb => ?_)
        · exact seg_leaf (.error x) (seg_cameBack gc k hcb)
        · exact seg_leaf (.error y) (seg_cameBack gc k hcb)
      refine seg_forLoop ?_
      rw [(gl _).over]
      obtain ⟨acc, cc, r, I⟩ := hI
      rcases turn i m ys σ H w with ⟨stop, qn⟩ | ⟨go, N, hN, step⟩
      · refine wpAny_mono (T.done X rfl rfl rfl hc i _ s σ H X.xe I (stat fr) st stop) (fun r s' hr => ?_) fun x s' hx => ee n s₀ x s' hx
        obtain ⟨hr, I4⟩ := hr
        subst hr
        exact seg_leaf (.ok .next) (k.ok n ys s₀ s' .next hn ⟨σ, H, ⟨acc, cc, r, I4⟩, qn⟩)
      · refine wpAny_mono (T.item X rfl rfl rfl hc i _ s σ H X.xe I (stat fr) st go) (fun r s4 hr => ?_) fun x s' hx => ee n s₀ x s' hx
        obtain ⟨u, hr, h4⟩ := hr
        subst hr
        refine wpAny_mono h4 (fun _ s5 h5 => ?_) fun x s' hx => ee n s₀ x s' hx
        obtain ⟨x, H5, I5, r5, y5, st5, fr5⟩ := h5
        have I5' := I5.pinned (stat fr5) (T.obj _ _ st5)
        refine wpAny_mono (hg.run _ s5 σ H5 x u _ I5' r5 (step x H5 y5)) (fun _ s6 h6 => ?_) fun x s' hx => ee n s₀ x s' hx
        obtain ⟨σ6, H6, I6, q6⟩ := h6
        have gb : GC X S (ip ++ pinsAt fp s5.heap) A (.forLoop tg (.ref it) body [] X.env) (.ret (fun r => ((match r with | .ok f => (.pure f : Sem Flow) | .error e => .raise e).onRaise (cameBack X.env)).wrap K J gd lv) none (gd false) (lv []) c p [] :: fs) id :=
          { gl _ with ip := fun q hq => (List.mem_append.mp hq).elim (gc.ip q) fun z => fpS _ (of_pinsAt z).1 }
        have again : ∀ {ys' : List V} {s7 : Shared} {σ7 : L2.St} {H7 : Hp}, GI X S (ip ++ pinsAt fp s5.heap) ys' σ7 H7 s7 → GI X S ip ys' σ7 H7 s7 ∧ tn (i + 1) s7.heap ∧ ∀ b ∈ fp, H7 b = none := fun {ys' s7 σ7 H7} h7 => by
          obtain ⟨acc7, cc7, r7, I7⟩ := h7
          have pin : ∀ b ∈ fp, ∀ o, s5.heap.get? b = some o → s7.heap.get? b = some o ∧ H7 b = none := fun b hb o e => by
            have z := I7.pin (b, o) (List.mem_append_right _ (List.mem_cons_of_mem _ (List.mem_append_right _ (mem_pinsAt hb e))))
            exact ⟨z.1, z.2.1⟩
          refine ⟨⟨acc7, cc7, r7, I7.pins_of fun q hq => ?_⟩, T.keep _ _ _ st5 fun b hb o e => (pin b hb o e).1, fun b hb => ?_⟩
          · rcases List.mem_cons.mp hq with z | z
            · exact I7.pin q (List.mem_append_right _ (by rw [z]; exact List.mem_cons_self))
            · exact I7.pin q (List.mem_append_right _ (List.mem_cons_of_mem _ (List.mem_append_left _ z)))
          · obtain ⟨o, e, d⟩ := T.obj _ _ st5 b hb
            exact (pin b hb o e).2
        refine hb.run A S (ip ++ pinsAt fp s5.heap) R n ys s₀ _ _ _ _ id id s6 σ6 H6 { D with nx := N, ct := N, bk := D.nx } gb hn ⟨fun n' ys' s₀' s7 f hn' hs7 => ?_, fun n' s₀' x s3 hx => ee n' s₀' x s3 hx⟩ ⟨acc, cc, r, I6⟩ q6
        cases f with
        | next =>
          obtain ⟨σ7, H7, I7, n7⟩ := hs7
          obtain ⟨m', hm, w7⟩ := hN ys' σ7 H7 n7
          obtain ⟨a1, a2, a3⟩ := again I7
          exact seg_again rfl (ih m' hm (i + 1) n' ys' s₀' s7 σ7 H7 hn' w7 a1 a2 a3)
        | cont =>
          obtain ⟨σ7, H7, I7, n7⟩ := hs7
          obtain ⟨m', hm, w7⟩ := hN ys' σ7 H7 n7
          obtain ⟨a1, a2, a3⟩ := again I7
          exact seg_again rfl (ih m' hm (i + 1) n' ys' s₀' s7 σ7 H7 hn' w7 a1 a2 a3)
        | brk =>
          obtain ⟨σ7, H7, I7, n7⟩ := hs7
          exact seg_leaf (.ok .next) (k.ok n' ys' s₀' s7 .next hn' ⟨σ7, H7, (again I7).1, n7⟩)
        | ret v =>
          obtain ⟨x7, σ7, H7, I7, r7, n7⟩ := hs7
          exact seg_leaf (.ok (.ret v)) (k.ok n' ys' s₀' s7 (.ret v) hn' ⟨x7, σ7, H7, (again I7).1, r7, n7⟩)
  exact loop m0 0 n ys s₀ s2 σ H2 hn w0 ⟨acc, cc, r, I2⟩ st2 fun b hb => (f2 b hb).1
/-- a comprehension's loop over a list, for any body -/
theorem it_list {K : PySem.W.Frag} {a : Addr} {xs : List V} {H0 : Hp} {Bd : V → Hp → (Hp → Prop) → Prop} {Qd : Hp → Prop} (Pv : Nat → Hp → Prop) (h0 : Pv 0 H0) (hl : ∀ i H, i ≤ xs.length → Pv i H → SqL K H a xs)
    (hs : ∀ i x H, xs[i]? = some x → Pv i H → Bd x H (Pv (i + 1))) (hd : ∀ H, Pv xs.length H → Qd H) :
    ∃ W : Nat → Nat → Hp → Prop, (∃ m, W 0 m H0) ∧ ∀ i m H, W i m H →
      ((Itl K a).stop i H ∧ Qd H) ∨ ((Itl K a).go i H ∧ ∃ Nx : Hp → Prop, (∀ H', Nx H' → ∃ m', m' < m ∧ W (i + 1) m' H') ∧ ∀ x H', (Itl K a).yld i H x H' → Bd x H' Nx) := by
  refine ⟨fun i m H => m = xs.length - i ∧ i ≤ xs.length ∧ Pv i H, ⟨xs.length, by simp, Nat.zero_le _, h0⟩, ?_⟩
  rintro i m H ⟨rfl, hi, p⟩
  have q := hl i H hi p
  by_cases hlt : i < xs.length
  · refine .inr ⟨⟨xs, xs[i], q, by simp [hlt]⟩, Pv (i + 1), fun H' p' => ⟨xs.length - (i + 1), by omega, rfl, hlt, p'⟩, fun x H' y => ?_⟩
    obtain ⟨e, y⟩ := y
    subst e
    exact hs i x _ (y xs q) p
  · have e : i = xs.length := by omega
    subst e
    exact .inl ⟨⟨xs, q, Nat.le_refl _⟩, hd H p⟩
theorem gfor_list {K : PySem.W.Frag} {a : Addr} {xs : List V} {g : TG} {tb : TGn} {D : GEnds} {ys : List V} {σ : L2.St} {H : Hp} (Pv : Nat → List V → L2.St → Hp → Prop) (h0 : Pv 0 ys σ H) (hl : ∀ i ys σ H, i ≤ xs.length → Pv i ys σ H → SqL K H a xs)
    (hs : ∀ i x ys σ H, xs[i]? = some x → Pv i ys σ H → g x σ H fun σ2 H2 => tb { D with nx := Pv (i + 1), ct := Pv (i + 1), bk := D.nx } ys σ2 H2) (hd : ∀ ys σ H, Pv xs.length ys σ H → D.nx ys σ H) :
    ∃ W : Nat → Nat → List V → L2.St → Hp → Prop, (∃ m, W 0 m ys σ H) ∧ ∀ i m ys σ H, W i m ys σ H →
      ((Itl K a).stop i H ∧ D.nx ys σ H) ∨ ((Itl K a).go i H ∧ ∃ N : List V → L2.St → Hp → Prop, (∀ ys' σ' H', N ys' σ' H' → ∃ m', m' < m ∧ W (i + 1) m' ys' σ' H') ∧ ∀ x H', (Itl K a).yld i H x H' → g x σ H' fun σ2 H2 => tb { D with nx := N, ct := N, bk := D.nx } ys σ2 H2) := by
  refine ⟨fun i m ys σ H => m = xs.length - i ∧ i ≤ xs.length ∧ Pv i ys σ H, ⟨xs.length, by simp, Nat.zero_le _, h0⟩, ?_⟩
  rintro i m ys σ H ⟨rfl, hi, p⟩
  have q := hl i ys σ H hi p
  by_cases hlt : i < xs.length
  · refine .inr ⟨⟨xs, xs[i], q, by simp [hlt]⟩, Pv (i + 1), fun ys' σ' H' p' => ⟨xs.length - (i + 1), by omega, rfl, hlt, p'⟩, fun x H' y => ?_⟩
    obtain ⟨e, y⟩ := y
    subst e
    exact hs i x ys σ _ (y xs q) p
  · have e : i = xs.length := by omega
    subst e
    exact .inl ⟨⟨xs, q, Nat.le_refl _⟩, hd ys σ H p⟩
end
/-- a generator def that may be called by its name -/
structure CalGn (P : Program) (w : World) (K : PySem.W.Frag) (mg : Str → Option Value) (base : Heap) (k : Nat) (x : Str) (ps : List Str) (sp : SpG) : Prop where
  ex : ∃ (f : Addr) (fd : FuncData), GFn P w K mg base k f fd ps sp ∧ mg x = some (.ref f) ∧ PySem.W.keepIn K (.ref f) = true ∧ Binds K fd ps []
section
variable {P : Program} {w : World} {K : PySem.W.Frag} {mg : Str → Option Value} {base : Heap}
theorem DefAt.gen {x : Str} {st : Stmt} {ps N : List Str} {k : Nat} {sp : SpG} (D : DefAt K mg x st ps) (S : GScope N ps (defScope st)) (len : ∀ vs H Q E, sp vs H Q E → vs.length = ps.length)
    (hb : ∀ (f : Addr) (cdv : Value) (A : Around) (outer : List Env) (s : Shared) (H : Hp) (vs : List V) (Q : List V → Hp → Prop) (E : XK) (pn : List (Addr × Obj)), Room k (A.deeper (envOfC x (defScope st) s.heap.objs.size f cdv)) →
      Takes (gcxOf P w K mg base N x (defScope st) f cdv A outer s H E pn) (fun cls d _ H' => E cls d H') → PassesOwn (model P w) (gcxOf P w K mg base N x (defScope st) f cdv A outer s H E pn).A (gcxOf P w K mg base N x (defScope st) f cdv A outer s H E pn).env (gcxOf P w K mg base N x (defScope st) f cdv A outer s H E pn).xe → sp vs H Q E →
      ∃ t, GSs (gcxOf P w K mg base N x (defScope st) f cdv A outer s H E pn) (defBody st) t ∧ t { nx := fun ys _ H' => Q ys H', rt := fun ys v H' => v = .non ∧ Q ys H' } [] (start N vs) H) : CalGn P w K mg base (k + 1) x ps sp := by
  obtain ⟨f, fd, ⟨⟨oc, od, kV, doc, pm, an, cdv, ct, osl, rfl, lk, hcd⟩, kp⟩, hm, b⟩ := D.ex
  exact ⟨f, _, gfn_of lk hcd S len fun A outer s H vs Q E pn hr hsp => hb f cdv A outer s H vs Q E pn hr takes_gcx owns_gcx hsp, hm, kp, b⟩
end
section
variable {X : Cx} {k j : Nat} {x : Str} {ps : List Str} {sp : SpG} {p p2 pos pos' : Pos} {e : Expr} {es : List Expr} {t : TA}
theorem noStop0 {K : PySem.W.Frag} : NoStop K E0 := fun _ _ _ h => False.elim h
theorem passesX0 {P : Program} {w : World} : Passes (CX P w) X E0 := fun pins σ H s e s' I h => by
  obtain ⟨_, _, _, _, _, _, _, _, _, _, _, _, z⟩ := h
  exact False.elim z
/-- list(g(e, ..)) -/
theorem pe_lg {nm : Str} (c : CalGn X.prog X.w X.K X.mg X.base k x ps sp) (hr : Room j X.A) (hk : k + 3 ≤ j) (hg : Gl X x) (ha : PA X (e :: es) t) (hgl : Gl X nm) (hmg : X.mg nm = none) (hv : bootBuiltins nm = some (.type "list")) (hnm : nm ≠ "__name__" := by decide)
    (hdn : (nm == ("__debug__" : Str)) = false := by decide) (hdb : (x == ("__debug__" : Str)) = false := by decide) (he : starEach (e :: es) X.env = (false, eval e X.env) :: starEach es X.env := by rfl) (hpl : (backTo pos (starEach es X.env)).any (·.1) = false := by rfl)
    (he2 : starEach [.Call (.Name x p) (e :: es) [] pos] X.env = (false, eval (.Call (.Name x p) (e :: es) [] pos) X.env) :: starEach [] X.env := by rfl) :
    PE X (.Call (.Name nm p2) [.Call (.Name x p) (e :: es) [] pos] [] pos') (tListG (tCallG sp [] E0 t)) := by
  obtain ⟨f, fd, F, hm, kp, b⟩ := c.ex
  exact pe_listG (pgen_call F (hr.mono (by omega)) hg hm kp b .nil ha hdb he hpl) passesX0 noStop0 (hr.mono hk) hgl hmg hv hnm hdn he2
end
end Sq


set_option Elab.async false
set_option maxRecDepth 100000
set_option maxHeartbeats 4000000
namespace Sq
open PySem PySem.Spec PyProof.Rows L2
/-! ## methods with a star parameter: def m(self, *v) -/
/-- what is left over is a new tuple -/
def spStar (sp : Sp) : Sp := fun vs H Q E => ∃ (x : V) (rest : List V), vs = x :: rest ∧ rest.length ≤ sizeLine ∧ ∀ p, H p = none → sp [x, .ref p] (upd H p (.tup rest)) Q E
structure MetR (P : Program) (w : World) (K : PySem.W.Frag) (mg : Str → Option Value) (base : Heap) (k : Nat) (C : Addr) (m : Str) (sp : Sp) : Prop where
  ex : ∃ f : Addr, Cls K C ∧ Meth K C m f ∧ FnR P w K mg base CX0 k f sp
section
variable {X : Cx} {k j : Nat} {C : Addr} {m : Str} {sp : Sp} {pos apos : Pos} {e o : Expr} {es : List Expr} {ta : TE} {t : TA}
theorem pe_mR {pl : Sem Bool} (c : MetR X.prog X.w X.K X.mg X.base k C m sp) (hr : Room j X.A) (hk : k ≤ j) (he : PE X o ta) (ha : PA X (e :: es) t)
    (ht : eval (.Call (.Attribute o m apos) (e :: es) [] pos) X.env = (do
      let ov ← eval o X.env
      standAt apos.atName
      let (f, first) ← holding [ov] (getMethod ov m pl)
      callWith pos f first (backTo pos (starEach (e :: es) X.env)) (backToKw pos (keywordEach [] X.env))) := by rfl)
    (hst : starEach (e :: es) X.env = (false, eval e X.env) :: starEach es X.env := by rfl) (hpl : (backTo pos (starEach es X.env)).any (·.1) = false := by rfl) : PE X (.Call (.Attribute o m apos) (e :: es) [] pos) (tMethR C m sp E0 ta t) := by
  obtain ⟨f, c1, c2, F⟩ := c.ex
  exact L2.pe_methR (pl := pl) he c1 c2 F (hr.mono hk) pass0 ha hst hpl ht
theorem pe_mR0 {pl : Sem Bool} (c : MetR X.prog X.w X.K X.mg X.base k C m sp) (hr : Room j X.A) (hk : k ≤ j) (he : PE X o ta)
    (ht : eval (.Call (.Attribute o m apos) [] [] pos) X.env = (do
      let ov ← eval o X.env
      standAt apos.atName
      let (f, first) ← holding [ov] (getMethod ov m pl)
      callWith pos f first (backTo pos (starEach [] X.env)) (backToKw pos (keywordEach [] X.env))) := by rfl) : PE X (.Call (.Attribute o m apos) [] [] pos) (tMethR C m sp E0 ta tNil) := by
  obtain ⟨f, c1, c2, F⟩ := c.ex
  refine ⟨fun pins s σ H Q I h => PySem.W.methodCall_KW (pl := pl) (thn (he.run pins s σ H _ I h) fun u s1 ⟨x, H1, I1, rx, a, dx, fs, ex, ea, l, q⟩ => ?_) ht⟩
  subst ex
  obtain rfl : u = Value.ref a := rx
  exact getmeth_ok I1 ea c1 c2 l (PySem.W.callWith_K0 (first := [.ref a]) I1.kIn c2.kp (wpAny_call (run_fnR (us := [.ref a]) (vs := [.ref a]) F (hr.mono hk) pass0 I1 (.cons rfl .nil) q)))
end
/-- a method with a star parameter of the text -/
structure MetAtR (K : PySem.W.Frag) (C : Addr) (m qual : Str) (st : Stmt) (p1 pv : Str) : Prop where
  ex : ∃ (f : Addr) (oc : Value) (od : Option Addr) (kV doc pm : Value) (an : Option Addr) (cdv ct : Value) (osl : Array (Option Value)), K.lookup f = some ⟨oc, od, .func (PySem.W.fnOf m qual (defArgs st) (defBody st) (defScope st) .none kV doc pm an cdv ct), osl⟩ ∧ PySem.W.codeIn K cdv qual = true ∧ Meth K C m f ∧
    ∀ us rest : List Value, us.length = [p1].length → bindArgs (PySem.W.fnOf m qual (defArgs st) (defBody st) (defScope st) .none kV doc pm an cdv ct) ⟨us ++ rest, []⟩ = (newTuple rest >>= fun t => pure ([p1].zip us ++ [(pv, t)]))
theorem MetAtR.mk1 {K : PySem.W.Frag} {h : Heap} {mg : Str → Option Value} {x : Str} {C : Addr} {m qual : Str} {st : Stmt} {p1 pv : Str} {f : Addr} {od an : Option Addr} {sl : Array (Option Value)} {oc kV dc pm cd ct : Value} (_ : K.In h) (_ : mg x = some (.ref C))
    (a : PySem.W.findIn K (.ref C) m = some (some (.ref f))) (l : K.lookup f = some ⟨oc, od, .func (PySem.W.fnOf m qual (defArgs st) (defBody st) (defScope st) .none kV dc pm an cd ct), sl⟩) (c : PySem.W.codeIn K cd qual = true) (k : PySem.W.keepIn K (.ref f) = true) (i : PySem.W.isFn K (.ref f) = true)
    (h0 : ∀ (kV doc pm : Value) (an : Option Addr) (cdv ct a : Value), bindArgs (PySem.W.fnOf m qual (defArgs st) (defBody st) (defScope st) .none kV doc pm an cdv ct) ⟨[a], []⟩ = (newTuple [] >>= fun t => pure [(p1, a), (pv, t)]))
    (h1 : ∀ (kV doc pm : Value) (an : Option Addr) (cdv ct a r : Value) (rs : List Value), bindArgs (PySem.W.fnOf m qual (defArgs st) (defBody st) (defScope st) .none kV doc pm an cdv ct) ⟨a :: r :: rs, []⟩ = (newTuple (r :: rs) >>= fun t => pure [(p1, a), (pv, t)])) : MetAtR K C m qual st p1 pv :=
  ⟨f, _, _, _, _, _, _, _, _, _, l, c, ⟨a, i, k⟩, StX.bind_star1 (B := fun us => bindArgs _ ⟨us, []⟩) (h0 _ _ _ _ _ _) (h1 _ _ _ _ _ _)⟩
theorem MetAtR.met {P : Program} {w : World} {K : PySem.W.Frag} {mg : Str → Option Value} {base : Heap} {C : Addr} {m qual : Str} {st : Stmt} {p1 pv : Str} {N : List Str} {k : Nat} {sp : Sp} (D : MetAtR K C m qual st p1 pv) (cl : Cls K C) (S : FnScope N ([p1] ++ [pv]) (defScope st))
    (hb : ∀ (f : Addr) (cdv : Value) (A : Around) (outer : List Env) (s : Shared) (H : Hp) (vs : List V) (Q : VK) (E : XK), Room k (A.deeper (envOfC qual (defScope st) s.heap.objs.size f cdv)) → sp vs H Q E →
      ∃ t, PSs (cxOf CX0 P w K mg base N qual (defScope st) f cdv A outer s H E).nox (defBody st) t ∧ t { nx := fun _ H' => Q .non H', rt := Q } (start N vs) H) : MetR P w K mg base (k + 1) C m (spStar sp) := by
  obtain ⟨f, oc, od, kV, doc, pm, an, cdv, ct, osl, lk, hcd, hm, hbd⟩ := D.ex
  refine ⟨f, cl, hm, (StX.fn_star lk hcd S StX.cxUp_none hbd (sp := sp) fun A outer s H vs Q E hr hsp => ?_).imp fun vs H Q E h => ?_⟩
  · obtain ⟨t, h, q⟩ := hb f cdv A outer s H vs Q E hr hsp
    exact ⟨t, h.nox, q⟩
  · obtain ⟨x, rest, rfl, hl, q⟩ := h
    exact ⟨[x], rest, rfl, rfl, hl, q⟩
/-- list(t) of a tuple -/
def rListT (K : PySem.W.Frag) : List V → Hp → VK → Prop := fun xs H Q => ∃ p ys, xs = [.ref p] ∧ SqT K H p ys ∧ ∀ l, H l = none → Q (.ref l) (upd H l (.lst ys))
theorem list_ofT {X : Cx} {K : PySem.W.Frag} (h : X.K = K := by rfl) : CallR X (.type "list") (rListT K) := by
  subst h
  intro pins s σ H xs us Q I r q
  obtain ⟨p, ys, e, hs, q⟩ := q
  exact call_list_of pins s σ H xs us Q I r ⟨p, ys, e, .inr hs, q⟩
/-! ## list(o.m()), m a generator method -/
structure MetG (P : Program) (w : World) (K : PySem.W.Frag) (mg : Str → Option Value) (base : Heap) (k : Nat) (C : Addr) (m : Str) (sp : SpG) : Prop where
  ex : ∃ (f : Addr) (fd : FuncData) (ps : List Str), Cls K C ∧ Meth K C m f ∧ GFn P w K mg base k f fd ps sp ∧ L2.Binds K fd ps []
def tMethG (C : Addr) (m : Str) (sp : SpG) (E : XK) (ta : TE) : TGen := fun σ H cont => ta σ H fun x H1 => ∃ a dx fs, x = .ref a ∧ H1 a = some (.ins C dx fs) ∧ fs.lookup m = none ∧ sp [x] H1 cont E
section
variable {X : Cx} {k j : Nat} {C : Addr} {m : Str} {sp : SpG} {pos apos p2 pos' : Pos} {o : Expr} {ta : TE}
theorem pgen_meth0 {pl : Sem Bool} (c : MetG X.prog X.w X.K X.mg X.base k C m sp) (hr : Room k X.A) (he : PE X o ta)
    (ht : eval (.Call (.Attribute o m apos) [] [] pos) X.env = (do
      let ov ← eval o X.env
      standAt apos.atName
      let (f, first) ← holding [ov] (getMethod ov m pl)
      callWith pos f first (backTo pos (starEach [] X.env)) (backToKw pos (keywordEach [] X.env))) := by rfl) : PGen X k (.Call (.Attribute o m apos) [] [] pos) (tMethG C m sp E0 ta) E0 := by
  obtain ⟨f, fd, ps, c1, c2, F, b⟩ := c.ex
  refine ⟨fun pins s σ H cont I h => PySem.W.methodCall_KW (pl := pl) (thn (he.run pins s σ H _ I h) fun u s1 ⟨x, H1, I1, rx, a, dx, fs, ex, ea, l, q⟩ => ?_) ht⟩
  subst ex
  obtain rfl : u = Value.ref a := rx
  exact getmeth_ok I1 ea c1 c2 l (PySem.W.callWith_K0 (first := [.ref a]) I1.kIn c2.kp (run_gfn (us := [.ref a]) (vs := [.ref a]) F hr b .nil I1 (.cons rfl .nil) q))
theorem pe_lgm {nm : Str} {pl : Sem Bool} (c : MetG X.prog X.w X.K X.mg X.base k C m sp) (hr : Room j X.A) (hk : k + 3 ≤ j) (he : PE X o ta) (hgl : Gl X nm) (hmg : X.mg nm = none) (hv : bootBuiltins nm = some (.type "list")) (hnm : nm ≠ "__name__" := by decide) (hdn : (nm == ("__debug__" : Str)) = false := by decide)
    (ht : eval (.Call (.Attribute o m apos) [] [] pos) X.env = (do
      let ov ← eval o X.env
      standAt apos.atName
      let (f, first) ← holding [ov] (getMethod ov m pl)
      callWith pos f first (backTo pos (starEach [] X.env)) (backToKw pos (keywordEach [] X.env))) := by rfl)
    (he2 : starEach [.Call (.Attribute o m apos) [] [] pos] X.env = (false, eval (.Call (.Attribute o m apos) [] [] pos) X.env) :: starEach [] X.env := by rfl) :
    PE X (.Call (.Name nm p2) [.Call (.Attribute o m apos) [] [] pos] [] pos') (tListG (tMethG C m sp E0 ta)) :=
  pe_listG (pgen_meth0 (pl := pl) c (hr.mono (by omega)) he ht) passesX0 noStop0 (hr.mono hk) hgl hmg hv hnm hdn he2
end
/-- a generator method of the text -/
theorem MetAt.gen {P : Program} {w : World} {K : PySem.W.Frag} {mg : Str → Option Value} {base : Heap} {C : Addr} {m x : Str} {st : Stmt} {ps N : List Str} {k : Nat} {sp : SpG} (D : MetAt K C m x st ps) (cl : Cls K C) (S : GScope N ps (defScope st)) (len : ∀ vs H Q E, sp vs H Q E → vs.length = ps.length)
    (hb : ∀ (f : Addr) (cdv : Value) (A : Around) (outer : List Env) (s : Shared) (H : Hp) (vs : List V) (Q : List V → Hp → Prop) (E : XK) (pn : List (Addr × Obj)), Room k (A.deeper (envOfC x (defScope st) s.heap.objs.size f cdv)) →
      Takes (gcxOf P w K mg base N x (defScope st) f cdv A outer s H E pn) (fun cls d _ H' => E cls d H') → PassesOwn (model P w) (gcxOf P w K mg base N x (defScope st) f cdv A outer s H E pn).A (gcxOf P w K mg base N x (defScope st) f cdv A outer s H E pn).env (gcxOf P w K mg base N x (defScope st) f cdv A outer s H E pn).xe → sp vs H Q E →
      ∃ t, GSs (gcxOf P w K mg base N x (defScope st) f cdv A outer s H E pn) (defBody st) t ∧ t { nx := fun ys _ H' => Q ys H', rt := fun ys v H' => v = .non ∧ Q ys H' } [] (start N vs) H) : MetG P w K mg base (k + 1) C m sp := by
  obtain ⟨f, fd, ⟨⟨oc, od, kV, doc, pm, an, cdv, ct, osl, rfl, lk, hcd⟩, kp⟩, hm, b⟩ := D.ex
  exact ⟨f, _, ps, cl, hm, gfn_of lk hcd S len fun A outer s H vs Q E pn hr hsp => hb f cdv A outer s H vs Q E pn hr takes_gcx owns_gcx hsp, b⟩
end Sq


set_option Elab.async false
set_option maxRecDepth 100000
set_option maxHeartbeats 4000000
/-! a run has one end: two promises of one run hold together -/
namespace Sq
open PySem
theorem runs_det {M : Model} {Γ : Ctx} {p : Pos} {t : Sem PySem.Fin} {fs : List Frame} {s s' : Shared} {e : End} (h : Runs M Γ p t fs s e s') : ∀ {e2 : End} {s2 : Shared}, Runs M Γ p t fs s e2 s2 → e = e2 ∧ s' = s2 := by
  induction h with
  | done => intro e2 s2 q; cases q; exact ⟨rfl, rfl⟩
  | raise => intro e2 s2 q; cases q; exact ⟨rfl, rfl⟩
  | again _ _ ih => intro e2 s2 q; cases q with | again _ q => exact ih q
  | rule _ ih => intro e2 s2 q; cases q with | rule q => exact ih q
  | «at» _ ih => intro e2 s2 q; cases q with | «at» q => exact ih q
  | load ho _ ih =>
    intro e2 s2 q
    cases q with | load ho2 q =>
      rw [ho] at ho2
      cases ho2
      exact ih q
  | update _ _ ih => intro e2 s2 q; cases q with | update _ q => exact ih q
  | loadIfAlive _ ih => intro e2 s2 q; cases q with | loadIfAlive q => exact ih q
  | point _ ih => intro e2 s2 q; cases q with | point q => exact ih q
  | alloc _ ih => intro e2 s2 q; cases q with | alloc q => exact ih q
  | fresh _ ih => intro e2 s2 q; cases q with | fresh q => exact ih q
  | ask _ ih => intro e2 s2 q; cases q with | ask q => exact ih q
  | choose _ _ ih => intro e2 s2 q; cases q with | choose _ q => exact ih q
  | os _ ih => intro e2 s2 q; cases q with | os q => exact ih q
  | handled _ ih => intro e2 s2 q; cases q with | handled q => exact ih q
  | genState hg _ ih =>
    intro e2 s2 q
    cases q with | genState hg2 q =>
      rw [hg] at hg2
      cases hg2
      exact ih q
  | stack _ ih => intro e2 s2 q; cases q with | stack q => exact ih q
  | thread _ ih => intro e2 s2 q; cases q with | thread q => exact ih q
  | newGen _ ih => intro e2 s2 q; cases q with | newGen q => exact ih q
  | call _ _ ih1 ih2 =>
    intro e2 s2 q
    cases q with
    | call q1 q2 =>
      obtain ⟨z, rfl⟩ := ih1 q1
      cases z
      exact ih2 q2
    | callSusp q1 =>
      obtain ⟨z, _⟩ := ih1 q1
      cases z
  | callSusp _ ih1 =>
    intro e2 s2 q
    cases q with
    | call q1 q2 =>
      obtain ⟨z, _⟩ := ih1 q1
      cases z
    | callSusp q1 =>
      obtain ⟨z, rfl⟩ := ih1 q1
      cases z
      exact ⟨rfl, rfl⟩
  | yield => intro e2 s2 q; cases q; exact ⟨rfl, rfl⟩
  | resumeFresh hg _ _ _ ih1 ih2 =>
    intro e2 s2 q
    cases q with
    | resumeFresh hg2 q1 _ q2 =>
      rw [hg] at hg2
      cases hg2
      obtain ⟨rfl, rfl⟩ := ih1 q1
      exact ih2 q2
    | resumeSuspended hg2 => rw [hg] at hg2; cases hg2
    | resumeJustStarted hg2 nv => exact absurd rfl nv
    | resumeRunning hg2 => rw [hg] at hg2; cases hg2
    | resumeFinished hg2 => rw [hg] at hg2; cases hg2
  | resumeSuspended hg _ _ _ ih1 ih2 =>
    intro e2 s2 q
    cases q with
    | resumeFresh hg2 => rw [hg] at hg2; cases hg2
    | resumeSuspended hg2 q1 _ q2 =>
      rw [hg] at hg2
      cases hg2
      obtain ⟨rfl, rfl⟩ := ih1 q1
      exact ih2 q2
    | resumeJustStarted hg2 => rw [hg] at hg2; cases hg2
    | resumeThrowFresh hg2 => rw [hg] at hg2; cases hg2
    | resumeRunning hg2 => rw [hg] at hg2; cases hg2
    | resumeFinished hg2 => rw [hg] at hg2; cases hg2
  | resumeJustStarted hg nv _ ih =>
    intro e2 s2 q
    cases q with
    | resumeFresh hg2 => exact absurd rfl nv
    | resumeSuspended hg2 => rw [hg] at hg2; cases hg2
    | resumeJustStarted hg2 _ q => exact ih q
    | resumeRunning hg2 => rw [hg] at hg2; cases hg2
    | resumeFinished hg2 => rw [hg] at hg2; cases hg2
  | resumeThrowFresh hg _ ih =>
    intro e2 s2 q
    cases q with
    | resumeSuspended hg2 => rw [hg] at hg2; cases hg2
    | resumeThrowFresh hg2 q => exact ih q
    | resumeRunning hg2 => rw [hg] at hg2; cases hg2
    | resumeFinished hg2 => rw [hg] at hg2; cases hg2
  | resumeRunning hg _ ih =>
    intro e2 s2 q
    cases q with
    | resumeFresh hg2 => rw [hg] at hg2; cases hg2
    | resumeSuspended hg2 => rw [hg] at hg2; cases hg2
    | resumeJustStarted hg2 => rw [hg] at hg2; cases hg2
    | resumeThrowFresh hg2 => rw [hg] at hg2; cases hg2
    | resumeRunning _ q => exact ih q
    | resumeFinished hg2 => rw [hg] at hg2; cases hg2
  | resumeFinished hg _ ih =>
    intro e2 s2 q
    cases q with
    | resumeFresh hg2 => rw [hg] at hg2; cases hg2
    | resumeSuspended hg2 => rw [hg] at hg2; cases hg2
    | resumeJustStarted hg2 => rw [hg] at hg2; cases hg2
    | resumeThrowFresh hg2 => rw [hg] at hg2; cases hg2
    | resumeRunning hg2 => rw [hg] at hg2; cases hg2
    | resumeFinished _ q => exact ih q
  | segRet _ _ ih1 ih2 =>
    intro e2 s2 q
    cases q with
    | segRet q1 q2 =>
      obtain ⟨z, rfl⟩ := ih1 q1
      cases z
      exact ih2 q2
    | segSuspOut _ q1 => obtain ⟨z, _⟩ := ih1 q1; cases z
    | segSuspGen _ q1 => obtain ⟨z, _⟩ := ih1 q1; cases z
  | segGen _ _ ih1 ih2 =>
    intro e2 s2 q
    cases q with
    | segGen q1 q2 =>
      obtain ⟨z, rfl⟩ := ih1 q1
      cases z
      exact ih2 q2
    | segSuspOut _ q1 => obtain ⟨z, _⟩ := ih1 q1; cases z
    | segSuspGen _ q1 => obtain ⟨z, _⟩ := ih1 q1; cases z
  | segSuspOut hs _ ih1 =>
    intro e2 s2 q
    cases q with
    | segRet q1 => obtain ⟨z, _⟩ := ih1 q1; cases z
    | segGen q1 => obtain ⟨z, _⟩ := ih1 q1; cases z
    | segSuspOut _ q1 =>
      obtain ⟨z, rfl⟩ := ih1 q1
      cases z
      exact ⟨rfl, rfl⟩
    | segSuspGen hs2 => rw [hs] at hs2; cases hs2
  | segSuspGen hs _ _ _ ih1 ih2 =>
    intro e2 s2 q
    cases q with
    | segRet q1 => obtain ⟨z, _⟩ := ih1 q1; cases z
    | segGen q1 => obtain ⟨z, _⟩ := ih1 q1; cases z
    | segSuspOut hs2 => rw [hs] at hs2; cases hs2
    | segSuspGen hs2 q1 _ q2 =>
      rw [hs] at hs2
      cases hs2
      obtain ⟨z, rfl⟩ := ih1 q1
      cases z
      exact ih2 q2
theorem returns_det {M : Model} {Γ : Ctx} {p : Pos} {s s1 s2 : Shared} {r1 r2 : Result} (h1 : Returns M Γ p s r1 s1) (h2 : Returns M Γ p s r2 s2) : r1 = r2 ∧ s1 = s2 := by
  obtain ⟨z, e⟩ := runs_det h1 h2
  cases z
  exact ⟨rfl, e⟩
theorem wakes_det {M : Model} {Γ : Ctx} {p : Pos} {g : Nat} {r : Resume} {s s1 s2 : Shared} {r1 r2 : GenResult} (h1 : Wakes M Γ p g r s r1 s1) (h2 : Wakes M Γ p g r s r2 s2) : r1 = r2 ∧ s1 = s2 := by
  unfold Wakes at h1 h2
  cases hg : s.gens[g]? with
  | none =>
    rw [hg] at h1
    exact h1.elim
  | some st =>
    rw [hg] at h1 h2
    cases st with
    | fresh c =>
      cases r with
      | throw x =>
        obtain ⟨rfl, rfl⟩ := h1
        obtain ⟨rfl, rfl⟩ := h2
        exact ⟨rfl, rfl⟩
      | send v =>
        cases v <;> first
          | (obtain ⟨e1, t1, a1, _, rfl, rfl⟩ := h1
             obtain ⟨e2, t2, a2, _, rfl, rfl⟩ := h2
             obtain ⟨rfl, rfl⟩ := runs_det a1 a2
             exact ⟨rfl, rfl⟩)
          | (obtain ⟨rfl, rfl⟩ := h1
             obtain ⟨rfl, rfl⟩ := h2
             exact ⟨rfl, rfl⟩)
    | suspended k l c p fs cl =>
      obtain ⟨e1, t1, a1, _, rfl, rfl⟩ := h1
      obtain ⟨e2, t2, a2, _, rfl, rfl⟩ := h2
      obtain ⟨rfl, rfl⟩ := runs_det a1 a2
      exact ⟨rfl, rfl⟩
    | running =>
      obtain ⟨rfl, rfl⟩ := h1
      obtain ⟨rfl, rfl⟩ := h2
      exact ⟨rfl, rfl⟩
    | finished =>
      obtain ⟨rfl, rfl⟩ := h1
      obtain ⟨rfl, rfl⟩ := h2
      exact ⟨rfl, rfl⟩
theorem wp_both {α : Type} (M : Model) (Γ : Ctx) (t : Sem α) : ∀ (Q Q' : α → Pos → Shared → Prop) (E E' : Value → Pos → Shared → Prop) (p : Pos) (s : Shared), Sem.wp M Γ t Q E p s → Sem.wp M Γ t Q' E' p s →
    Sem.wp M Γ t (fun a q z => Q a q z ∧ Q' a q z) (fun a q z => E a q z ∧ E' a q z) p s := by
  induction t with
  | pure a => intro Q Q' E E' p s h h'; exact ⟨h, h'⟩
  | raise e => intro Q Q' E E' p s h h'; exact ⟨h, h'⟩
  | unsupported _ => intro Q Q' E E' p s h h'; exact h
  | finish _ => intro Q Q' E E' p s h h'; exact h
  | rule _ k ih => intro Q Q' E E' p s h h'; exact ih () _ _ _ _ p s h h'
  | «at» p' k ih => intro Q Q' E E' p s h h'; exact ih () _ _ _ _ p' s h h'
  | load a _ k ih =>
    intro Q Q' E E' p s h h'
    obtain ⟨o, ho, h⟩ := h
    obtain ⟨o', ho', h'⟩ := h'
    rw [ho] at ho'
    cases ho'
    exact ⟨o, ho, ih o _ _ _ _ p s h h'⟩
  | update a _ f k ih => intro Q Q' E E' p s h h'; exact ⟨h.1, ih () _ _ _ _ p _ h.2 h'.2⟩
  | loadIfAlive a k ih => intro Q Q' E E' p s h h'; exact ih _ _ _ _ _ p s h h'
  | point _ k ih => intro Q Q' E E' p s h h'; exact ih () _ _ _ _ p s h h'
  | register _ _ => intro Q Q' E E' p s h h'; exact h
  | alloc o k ih => intro Q Q' E E' p s h h'; exact ih _ _ _ _ _ p _ h h'
  | fresh k ih => intro Q Q' E E' p s h h'; exact ih _ _ _ _ _ p _ h h'
  | ask k ih => intro Q Q' E E' p s h h'; exact ih _ _ _ _ _ p s h h'
  | choose src m k ih => intro Q Q' E E' p s h h'; exact ⟨h.1, ih _ _ _ _ _ p _ h.2 h'.2⟩
  | os q _ k ih => intro Q Q' E E' p s h h'; exact ih _ _ _ _ _ p _ h h'
  | call c hd _ _ k ih =>
    intro Q Q' E E' p s h h'
    obtain ⟨r, s', hr, h⟩ := h
    obtain ⟨r', s'', hr', h'⟩ := h'
    obtain ⟨rfl, rfl⟩ := returns_det hr hr'
    exact ⟨r, s', hr, ih r _ _ _ _ p s' h h'⟩
  | handled own k ih => intro Q Q' E E' p s h h'; exact ih _ _ _ _ _ p s h h'
  | genState g k ih =>
    intro Q Q' E E' p s h h'
    obtain ⟨st, hs, h⟩ := h
    obtain ⟨st', hs', h'⟩ := h'
    rw [hs] at hs'
    cases hs'
    exact ⟨st, hs, ih _ _ _ _ _ p s h h'⟩
  | newGen c k ih => intro Q Q' E E' p s h h'; exact ih _ _ _ _ _ p _ h h'
  | resume g r _ k ih =>
    intro Q Q' E E' p s h h'
    obtain ⟨res, s', hw, h⟩ := h
    obtain ⟨res', s'', hw', h'⟩ := h'
    obtain ⟨rfl, rfl⟩ := wakes_det hw hw'
    exact ⟨res, s', hw, ih res _ _ _ _ p s' h h'⟩
  | yield _ _ _ _ => intro Q Q' E E' p s h h'; exact h
  | stack k ih => intro Q Q' E E' p s h h'; exact ih _ _ _ _ _ p s h h'
  | fork _ _ => intro Q Q' E E' p s h h'; exact h
  | thread k ih => intro Q Q' E E' p s h h'; exact ih _ _ _ _ _ p s h h'
  | await _ _ _ _ _ => intro Q Q' E E' p s h h'; exact h
theorem wpAny_both {α : Type} {M : Model} {A : Around} {t : Sem α} {Q Q' : α → Shared → Prop} {E E' : Value → Shared → Prop} {s : Shared} (h : wpAny M A t Q E s) (h' : wpAny M A t Q' E' s) :
    wpAny M A t (fun a z => Q a z ∧ Q' a z) (fun a z => E a z ∧ E' a z) s := fun Γ p hΓ => wp_both M Γ t _ _ _ _ p s (h Γ p hΓ) (h' Γ p hΓ)
end Sq


set_option Elab.async false
set_option maxRecDepth 100000
set_option maxHeartbeats 2000000
/-! the walk's judgements with something of the state kept (F), for what the abstract state does not tell: the very object that a name holds -/
namespace Sq
open PySem PySem.Spec PyProof.Rows L2
/-- what may happen to a state of which F speaks: the names of the frame stay -/
structure Kp (L : Addr) (s z : Shared) : Prop where
  tk : s.toks ≤ z.toks
  ns : ∀ m, s.heap.Ns L m → z.heap.Ns L m
theorem Kp.refl {L : Addr} {s : Shared} : Kp L s s := ⟨Nat.le_refl _, fun _ h => h⟩
theorem Kp.trans {L : Addr} {a b c : Shared} (h : Kp L a b) (k : Kp L b c) : Kp L a c := ⟨Nat.le_trans h.tk k.tk, fun m q => k.ns m (h.ns m q)⟩
theorem Kp.tok {L : Addr} {s : Shared} {t : Nat} (h : s.toks ≤ t) : Kp L s { s with toks := t } := ⟨h, fun _ q => q⟩
theorem Kp.at {L : Addr} {s z : Shared} (tk : s.toks ≤ z.toks) (k : ∀ o, s.heap.get? L = some o → ∃ sl, z.heap.get? L = some { o with slots := sl }) : Kp L s z := ⟨tk, fun m q => by
  obtain ⟨o, es, ep, e, r⟩ := q
  obtain ⟨sl, e2⟩ := k o e
  exact ⟨_, es, ep, e2, r⟩⟩
theorem Kp.push {L : Addr} {s : Shared} {o : Obj} {t : Nat} (h : s.toks ≤ t) : Kp L s { s with heap := s.heap.push o, toks := t } := Kp.at h fun u e => ⟨u.slots, Heap.get?_push_of_some _ e⟩
/-- F lives through such steps -/
structure FOk (X : Cx) (F : Shared → Prop) : Prop where
  go : ∀ s z, F s → Kp X.env.locals s z → F z
section
variable {X : Cx} {F : Shared → Prop}
theorem FOk.tok (hF : FOk X F) {s : Shared} {t : Nat} (f : F s) (h : s.toks ≤ t) : F { s with toks := t } := hF.go _ _ f (Kp.tok h)
end
structure KE (X : Cx) (F : Shared → Prop) (e : Expr) (t : TE) : Prop where
  run : ∀ (pins : List (Addr × Obj)) (s : Shared) (σ : L2.St) (H : Hp) (Q : VK), Inv X pins σ H s → F s → t σ H Q → wpAny (model X.prog X.w) X.A (eval e X.env) (fun u z => EP X pins σ Q u z ∧ F z) X.xe s
structure KT (X : Cx) (F : Shared → Prop) (e : Expr) (t : TT) : Prop where
  run : ∀ (pins : List (Addr × Obj)) (s : Shared) (σ : L2.St) (H : Hp) (Q : Bool → Hp → Prop), Inv X pins σ H s → F s → t σ H Q → wpAny (model X.prog X.w) X.A (isTrue e X.env (eval e X.env)) (fun b z => TP X pins σ Q b z ∧ F z) X.xe s
structure KW (X : Cx) (F : Shared → Prop) (e : Expr) (t : TT) : Prop where
  run : ∀ (wh : Sem Value) (pins : List (Addr × Obj)) (s : Shared) (σ : L2.St) (H : Hp) (Q : Bool → Hp → Prop), Inv X pins σ H s → F s → t σ H Q → wpAny (model X.prog X.w) X.A (isTrue e X.env wh) (fun b z => TP X pins σ Q b z ∧ F z) X.xe s
structure KA (X : Cx) (F : Shared → Prop) (es : List Expr) (t : TA) : Prop where
  run : ∀ (pos : Pos) (pins : List (Addr × Obj)) (s : Shared) (σ : L2.St) (H : Hp) (Q : List V → Hp → Prop), Inv X pins σ H s → F s → t σ H Q → wpAny (model X.prog X.w) X.A (spliced (backTo pos (starEach es X.env))) (fun us z => AP X pins σ Q us z ∧ F z) X.xe s
structure KK (X : Cx) (F : Shared → Prop) (kws : List Keyword) (t : TA) : Prop where
  run : ∀ (pos : Pos) (pins : List (Addr × Obj)) (s : Shared) (σ : L2.St) (H : Hp) (Q : List V → Hp → Prop), Inv X pins σ H s → F s → t σ H Q → wpAny (model X.prog X.w) X.A (evalAll ((backToKw pos (keywordEach kws X.env)).map (·.2))) (fun us z => AP X pins σ Q us z ∧ F z) X.xe s
structure KO (X : Cx) (F : Shared → Prop) (e : Option Expr) (t : TO) : Prop where
  run : ∀ (pins : List (Addr × Obj)) (s : Shared) (σ : L2.St) (H : Hp) (Q : Option Int → Hp → Prop), Inv X pins σ H s → F s → t σ H Q →
    wpAny (model X.prog X.w) X.A (evalPart e X.env) (fun u z => (∃ o H', Inv X pins σ H' z ∧ IsPart u o ∧ Q o H') ∧ F z) X.xe s
structure KS (X : Cx) (F : Shared → Prop) (st : Stmt) (t : TS) : Prop where
  run : ∀ (pins : List (Addr × Obj)) (s : Shared) (σ : L2.St) (H : Hp) (D : Ends), Inv X pins σ H s → F s → t D σ H → wpAny (model X.prog X.w) X.A (exec st X.env) (fun f z => SP X pins D f z ∧ F z) X.xe s
structure KSs (X : Cx) (F : Shared → Prop) (st : List Stmt) (t : TS) : Prop where
  run : ∀ (pins : List (Addr × Obj)) (s : Shared) (σ : L2.St) (H : Hp) (D : Ends), Inv X pins σ H s → F s → t D σ H → wpAny (model X.prog X.w) X.A (execs st X.env) (fun f z => SP X pins D f z ∧ F z) X.xe s
structure KG (X : Cx) (F : Shared → Prop) (tg : Expr) (t : TG) : Prop where
  run : ∀ (pins : List (Addr × Obj)) (s : Shared) (σ : L2.St) (H : Hp) (v : V) (u : Value) (Q : L2.St → Hp → Prop), Inv X pins σ H s → F s → RelV v u → t v σ H Q →
    wpAny (model X.prog X.w) X.A (assign tg X.env u) (fun _ z => (∃ σ' H', Inv X pins σ' H' z ∧ Q σ' H') ∧ F z) X.xe s
structure KGs (X : Cx) (F : Shared → Prop) (ts : List Expr) (t : TGs) : Prop where
  run : ∀ (pins : List (Addr × Obj)) (s : Shared) (σ : L2.St) (H : Hp) (vs : List V) (us : List Value) (Q : L2.St → Hp → Prop), Inv X pins σ H s → F s → Vals vs us → t vs σ H Q →
    wpAny (model X.prog X.w) X.A (assignInOrder ((assignEach ts X.env).map (·.2)) us) (fun _ z => (∃ σ' H', Inv X pins σ' H' z ∧ Q σ' H') ∧ F z) X.xe s
structure KI (X : Cx) (F : Shared → Prop) (tg iter : Expr) (wi : TI) : Prop where
  run : ∀ (pins : List (Addr × Obj)) (s : Shared) (σ : L2.St) (H : Hp) (R : It → Hp → Prop), Inv X pins σ H s → F s → wi σ H R →
    wpAny (model X.prog X.w) X.A (eval iter X.env) (fun v z => wpAny (model X.prog X.w) X.A (pyIter v) (fun y z2 => PIE X pins σ tg R y z2 ∧ F z2) X.xe z) X.xe s
/-! ## names and written values -/
section
variable {X : Cx} {F : Shared → Prop} {pos p p2 : Pos}
theorem ke_var {i : Nat} {x : Str} (hN : X.N[i]? = some x) (hv : Vis X.env.scope x) (hd : (x == ("__debug__" : Str)) = false := by decide) (hcd : (x == ("__classdict__" : Str)) = false := by decide) : KE X F (.Name x pos) (tVar i) :=
  ⟨fun pins s σ H Q I f h => by
    obtain ⟨v, e, q⟩ := h
    exact raw_name hN hv I e (fun u r => ⟨⟨v, H, I, r, q⟩, f⟩) hd hcd⟩
theorem kv (i : Nat) {x : Str} (hN : X.N[i]? = some x := by rfl) (hv : Vis X.env.scope x := by first | exact Or.inl rfl | exact Or.inr (Or.inl rfl) | exact Or.inr (Or.inr rfl)) (hd : (x == ("__debug__" : Str)) = false := by decide) (hcd : (x == ("__classdict__" : Str)) = false := by decide) : KE X F (.Name x pos) (tVar i) := ke_var hN hv hd hcd
theorem ke_int {i j} (hF : FOk X F) : KE X F (.Constant (.int i) j pos) (tC (.int i)) := ⟨fun _ s _ H _ I f q => wpAny_Constant_int ⟨⟨.int i, H, I.tok _, ⟨_, rfl⟩, q⟩, hF.tok f (Nat.le_succ _)⟩⟩
theorem ke_str {x j} (hF : FOk X F) : KE X F (.Constant (.str x) j pos) (tC (.str x)) := ⟨fun _ s _ H _ I f q => Calls.Constant_str ⟨⟨.str x, H, I.tok _, ⟨_, rfl⟩, q⟩, hF.tok f (Nat.le_succ _)⟩⟩
theorem ke_bl {b j} : KE X F (.Constant (.bool b) j pos) (tC (.bl b)) := ⟨fun _ _ _ H _ I f q => Constant_bool ⟨⟨.bl b, H, I, rfl, q⟩, f⟩⟩
theorem ke_non {j} : KE X F (.Constant .none j pos) (tC .non) := ⟨fun _ _ _ H _ I f q => Constant_none ⟨⟨.non, H, I, rfl, q⟩, f⟩⟩
end
/-! ## operations, by values -/
def FOp (X : Cx) (F : Shared → Prop) (f : Value → Value → Sem Value) (r : R2) : Prop :=
  ∀ (pins : List (Addr × Obj)) (s : Shared) (σ : L2.St) (H : Hp) (x y : V) (v u : Value) (Q : VK), Inv X pins σ H s → F s → RelV x v → RelV y u → r x y H Q →
    wpAny (model X.prog X.w) X.A (f v u) (fun a z => EP X pins σ Q a z ∧ F z) X.xe s
def FUn (X : Cx) (F : Shared → Prop) (f : Value → Sem Value) (r : V → Hp → VK → Prop) : Prop :=
  ∀ (pins : List (Addr × Obj)) (s : Shared) (σ : L2.St) (H : Hp) (x : V) (v : Value) (Q : VK), Inv X pins σ H s → F s → RelV x v → r x H Q → wpAny (model X.prog X.w) X.A (f v) (fun a z => EP X pins σ Q a z ∧ F z) X.xe s
def FCall (X : Cx) (F : Shared → Prop) (f : Value) (r : List V → Hp → VK → Prop) : Prop :=
  ∀ (pins : List (Addr × Obj)) (s : Shared) (σ : L2.St) (H : Hp) (xs : List V) (us : List Value) (Q : VK), Inv X pins σ H s → F s → Vals xs us → r xs H Q → wpAny (model X.prog X.w) X.A (call f us) (fun a z => EP X pins σ Q a z ∧ F z) X.xe s
def FIx (X : Cx) (F : Shared → Prop) (r : R2) : Prop :=
  ∀ (e i : Expr) (pins : List (Addr × Obj)) (s : Shared) (σ : L2.St) (H : Hp) (x y : V) (v u : Value) (Q : VK), Inv X pins σ H s → F s → RelV x v → RelV y u → r x y H Q →
    subscripted i false v u = operate [v, u] (getItem v u) → wpAny (model X.prog X.w) X.A (subscriptTail e i v u) (fun a z => EP X pins σ Q a z ∧ F z) X.xe s
def FMt (X : Cx) (F : Shared → Prop) (id : String) (r : V → List V → Hp → VK → Prop) : Prop :=
  ∀ (pins : List (Addr × Obj)) (s : Shared) (σ : L2.St) (H : Hp) (x : V) (xs : List V) (v : Value) (us : List Value) (Q : VK), Inv X pins σ H s → F s → RelV x v → Vals xs us → r x xs H Q →
    wpAny (model X.prog X.w) X.A (call (.builtin id) (v :: us)) (fun a z => EP X pins σ Q a z ∧ F z) X.xe s
def FSl (X : Cx) (F : Shared → Prop) (r : V → Option Int → Option Int → Hp → VK → Prop) : Prop :=
  ∀ (pins : List (Addr × Obj)) (s : Shared) (σ : L2.St) (H : Hp) (x : V) (v vl vu : Value) (lo hi : Option Int) (sl : Addr) (Q : VK), Inv X pins σ H s → F s → RelV x v → s.heap.IsSliceOf sl vl vu .none → IsPart vl lo → IsPart vu hi → r x lo hi H Q →
    ∃ T id, typeLookup (.type T) "__getitem__" = pure (some (.builtin id)) ∧ s.TypeIs v T ∧ wpAny (model X.prog X.w) X.A (getItem v (.ref sl)) (fun a z => EP X pins σ Q a z ∧ F z) X.xe s
def FSet (X : Cx) (F : Shared → Prop) (t : TSet) : Prop :=
  ∀ (pins : List (Addr × Obj)) (s : Shared) (σ : L2.St) (H : Hp) (o i v : V) (ov iv u : Value) (Q : Hp → Prop), Inv X pins σ H s → F s → RelV o ov → RelV i iv → RelV v u → t o i v H Q →
    wpAny (model X.prog X.w) X.A (setItem ov iv u) (fun _ z => (∃ H', Inv X pins σ H' z ∧ Q H') ∧ F z) X.xe s
section
variable {X : Cx} {F : Shared → Prop} {a b c e : Expr} {es : List Expr} {ta tb te : TE} {t : TA} {pos p p2 apos cpos : Pos}
theorem ke_two (ha : KE X F a ta) (hb : KE X F b tb) {pins : List (Addr × Obj)} {s : Shared} {σ : L2.St} {H : Hp} {R : V → V → Hp → Prop} (I : Inv X pins σ H s) (f : F s) (h : ta σ H fun x H1 => tb σ H1 fun y H2 => R x y H2)
    {β : Type} {Z : β → Shared → Prop} {g : Value → Value → Sem β} (hg : ∀ v u z x y H2, Inv X pins σ H2 z → F z → RelV x v → RelV y u → R x y H2 → wpAny (model X.prog X.w) X.A (g v u) Z X.xe z) :
    wpAny (model X.prog X.w) X.A (eval a X.env) (fun v z1 => wpAny (model X.prog X.w) X.A (eval b X.env) (fun u z2 => wpAny (model X.prog X.w) X.A (g v u) Z X.xe z2) X.xe z1) X.xe s := by
  refine thn (ha.run pins s σ H _ I f h) ?_
  rintro v z1 ⟨⟨x, H1, I1, r1, q1⟩, f1⟩
  refine thn (hb.run pins z1 σ H1 _ I1 f1 q1) ?_
  rintro u z2 ⟨⟨y, H2, I2, r2, q2⟩, f2⟩
  exact hg v u z2 x y H2 I2 f2 r1 r2 q2
theorem ke_op {op : Operator} {r : R2} (ho : FOp X F (binaryOp op) r) (ha : KE X F a ta) (hb : KE X F b tb) : KE X F (.BinOp a op b pos) (tOp r ta tb) :=
  ⟨fun pins s σ H Q I f h => wpAny_BinOp (ke_two ha hb I f h fun v u z x y H2 I2 f2 rx ry q => ho pins z σ H2 x y v u Q I2 f2 rx ry q)⟩
theorem ke_un {op : UnaryOp} {r : V → Hp → VK → Prop} (ho : FUn X F (unaryOp op) r) (ha : KE X F a ta) : KE X F (.UnaryOp op a pos) (tUn r ta) :=
  ⟨fun pins s σ H Q I f h => UnaryOp_ (thn (ha.run pins s σ H _ I f h) (by
    rintro v z ⟨⟨x, H1, I1, r1, q1⟩, f1⟩
    exact ho pins z σ H1 x v Q I1 f1 r1 q1))⟩
theorem ke_cmp {op : CmpOp} {r : R2} (ho : FOp X F (compareOp op) r) (ha : KE X F a ta) (hb : KE X F b tb) (hm : behindInMarks op b = false) : KE X F (.Compare a [op] [b] pos) (tOp r ta tb) :=
  ⟨fun pins s σ H Q I f h => wpAny_Compare1 (ke_two ha hb I f h fun v u z x y H2 I2 f2 rx ry q => ho pins z σ H2 x y v u Q I2 f2 rx ry q) hm⟩
theorem kt_cmp {op : CmpOp} {r : R2} (ho : FOp X F (compareOp op) r) (ha : KE X F a ta) (hb : KE X F b tb) (hm : behindInMarks op b = false) : KT X F (.Compare a [op] [b] pos) (tTest (tOp r ta tb)) :=
  ⟨fun pins s σ H Q I f h => wpAny_isTrue_Compare1 (ke_two ha hb I f h fun v u z x y H2 I2 f2 rx ry q => thn (ho pins z σ H2 x y v u _ I2 f2 rx ry q) (by
    rintro c z3 ⟨⟨y3, H3, I3, r3, k, rfl, q3⟩, f3⟩
    cases r3
    exact wpAny_truthy_bool ⟨⟨H3, I3, q3⟩, f3⟩)) hm⟩
theorem kt_val (h : KE X F e te) (he : ∀ wh, isTrue e X.env wh = (do let v ← wh; standAt e.pos; holding [v] (truthy v)) := by intro _; rfl) : KT X F e (tB te) :=
  ⟨fun pins s σ H Q I f hw => isTrue_plain (thn (h.run pins s σ H _ I f hw) (by
    rintro v z ⟨⟨x, H1, I1, r1, d, rfl, q1⟩, f1⟩
    cases r1
    exact wpAny_truthy_bool ⟨⟨H1, I1, q1⟩, f1⟩)) (he _)⟩
variable {tA tB' : TT} {rest : List Expr}
theorem KW.kt (h : KW X F e tA) : KT X F e tA := ⟨h.run _⟩
theorem kw_and1 (ha : KT X F a tA) : KW X F (.BoolOp .And [a] pos) tA := ⟨fun wh pins s σ H Q I f h => isTrue_and (thn (ha.run pins s σ H Q I f h) fun k z q => by
  cases k with
  | true => exact isTrue_and_nil q
  | false => exact q)⟩
theorem kw_or1 (ha : KT X F a tA) : KW X F (.BoolOp .Or [a] pos) tA := ⟨fun wh pins s σ H Q I f h => isTrue_or (thn (ha.run pins s σ H Q I f h) fun k z q => by
  cases k with
  | true => exact q
  | false => exact isTrue_or_nil q)⟩
theorem kw_and (ha : KT X F a tA) (hb : KW X F (.BoolOp .And (b :: rest) pos) tB') : KW X F (.BoolOp .And (a :: b :: rest) pos) (tAnd tA tB') := ⟨fun wh pins s σ H Q I f h => isTrue_and (thn (ha.run pins s σ H _ I f h) (by
  rintro k z ⟨⟨H1, I1, q1⟩, f1⟩
  cases k with
  | true => exact hb.run wh pins z σ H1 Q I1 f1 q1
  | false => exact ⟨⟨H1, I1, q1⟩, f1⟩))⟩
theorem kw_or (ha : KT X F a tA) (hb : KW X F (.BoolOp .Or (b :: rest) pos) tB') : KW X F (.BoolOp .Or (a :: b :: rest) pos) (tOr tA tB') := ⟨fun wh pins s σ H Q I f h => isTrue_or (thn (ha.run pins s σ H _ I f h) (by
  rintro k z ⟨⟨H1, I1, q1⟩, f1⟩
  cases k with
  | true => exact ⟨⟨H1, I1, q1⟩, f1⟩
  | false => exact hb.run wh pins z σ H1 Q I1 f1 q1))⟩
theorem kt_not (ha : KT X F a tA) : KT X F (.UnaryOp .Not a pos) (tNot tA) := ⟨fun pins s σ H Q I f h => isTrue_not (ha.run pins s σ H (fun k H1 => Q (!k) H1) I f h)⟩
theorem ke_ifExp (hc : KT X F c tA) (ha : KE X F a ta) (hb : KE X F b tb) : KE X F (.IfExp c a b pos) (tIf tA ta tb) := ⟨fun pins s σ H Q I f h => wpAny_IfExp (thn (hc.run pins s σ H _ I f h) (by
  rintro k z ⟨⟨H1, I1, q1⟩, f1⟩
  cases k with
  | true => exact ha.run pins z σ H1 Q I1 f1 q1
  | false => exact hb.run pins z σ H1 Q I1 f1 q1))⟩
theorem ke_one {op} (h : KE X F a ta) : KE X F (.BoolOp op [a] pos) ta := ⟨fun pins s σ H Q I f hw => BoolOp_one (h.run pins s σ H Q I f hw)⟩
theorem ke_and (ha : KE X F a ta) (hb : KE X F (.BoolOp .And (b :: rest) pos) tb) : KE X F (.BoolOp .And (a :: b :: rest) pos) (tAndV ta tb) := ⟨fun pins s σ H Q I f h => BoolOp_and (thn (ha.run pins s σ H _ I f h) (by
  rintro v z ⟨⟨x, H1, I1, r1, k, rfl, q1⟩, f1⟩
  cases r1
  refine wpAny_truthy_bool ?_
  cases k with
  | true => exact hb.run pins z σ H1 Q I1 f1 q1
  | false => exact ⟨⟨.bl false, H1, I1, rfl, q1⟩, f1⟩))⟩
theorem ke_or (ha : KE X F a ta) (hb : KE X F (.BoolOp .Or (b :: rest) pos) tb) : KE X F (.BoolOp .Or (a :: b :: rest) pos) (tOrV ta tb) := ⟨fun pins s σ H Q I f h => BoolOp_or (thn (ha.run pins s σ H _ I f h) (by
  rintro v z ⟨⟨x, H1, I1, r1, k, rfl, q1⟩, f1⟩
  cases r1
  refine wpAny_truthy_bool ?_
  cases k with
  | true => exact ⟨⟨.bl true, H1, I1, rfl, q1⟩, f1⟩
  | false => exact hb.run pins z σ H1 Q I1 f1 q1))⟩
theorem ke_ix {r : R2} (hr : FIx X F r) (ha : KE X F a ta) (hb : KE X F b tb) (hs : PlainIx b) : KE X F (.Subscript a b pos) (tOp r ta tb) :=
  ⟨fun pins s σ H Q I f h => Subscript_ (ke_two ha hb I f h fun v u z x y H2 I2 f2 rx ry q => hr a b pins z σ H2 x y v u Q I2 f2 rx ry q (hs _ _))⟩
theorem ko_none : KO X F none tNoPart := ⟨fun pins s σ H Q I f h => by
  rw [evalPart_none]
  exact wpAny_pure ⟨⟨none, H, I, .none, h⟩, f⟩⟩
theorem ko_some (h : KE X F e te) : KO X F (some e) (tPart te) := ⟨fun pins s σ H Q I f hw => by
  rw [evalPart_some]
  refine thn (h.run pins s σ H _ I f hw) ?_
  rintro u z ⟨⟨x, H1, I1, r1, i, rfl, q⟩, f1⟩
  obtain ⟨t, rfl⟩ := r1
  exact ⟨⟨some i, H1, I1, .int i t, q⟩, f1⟩⟩
theorem ke_slice {lo hi : Option Expr} {tl th : TO} {r : V → Option Int → Option Int → Hp → VK → Prop} (hF : FOk X F) (hr : FSl X F r) (he : KE X F e te) (hl : KO X F lo tl) (hu : KO X F hi th) : KE X F (.Subscript e (.Slice lo hi none p2) pos) (tSl r te tl th) := by
  refine ⟨fun pins s σ H Q I f h => Subscript_ (thn (he.run pins s σ H _ I f h) ?_)⟩
  rintro v s1 ⟨⟨x, H1, I1, r1, q1⟩, f1⟩
  refine wpAny_Slice (thn (hl.run pins s1 σ H1 _ I1 f1 q1) ?_)
  rintro vl s2 ⟨⟨l, H2, I2, pl, q2⟩, f2⟩
  refine thn (hu.run pins s2 σ H2 _ I2 f2 q2) ?_
  rintro vu s3 ⟨⟨u, H3, I3, pu, q3⟩, f3⟩
  rw [evalPart_none]
  refine wpAny_pure ?_
  have I4 : Inv X pins σ H3 { s3 with heap := s3.heap.push { cls := .type "slice", data := .fields #[vl, vu, .none] } } := I3.kept (t' := s3.toks) fun y ob z => Heap.get?_push_of_some _ z
  have f4 : F { s3 with heap := s3.heap.push { cls := .type "slice", data := .fields #[vl, vu, .none] } } := hF.go _ _ f3 (Kp.push (Nat.le_refl _))
  obtain ⟨T, id, hT, ht, hg⟩ := hr pins _ σ H3 x v vl vu l u s3.heap.objs.size Q I4 f4 r1 (Heap.IsSliceOf.new ..) pl pu q3
  exact tail_any (ops := [.ref s3.heap.objs.size, v]) ht hT hg (by with_unfolding_all rfl)
/-! ## argument lists, displays -/
theorem ka_nil : KA X F [] tNil := ⟨fun _ _ _ _ H Q I f h => Calls.spliced_nil ⟨⟨[], H, I, .nil, h⟩, f⟩⟩
theorem ka_cons (ha : KE X F e te) (hr : KA X F es t) (hs : starEach (e :: es) X.env = (false, eval e X.env) :: starEach es X.env := by rfl) : KA X F (e :: es) (tCons te t) := by
  refine ⟨fun pos pins s σ H Q I f h => ?_⟩
  rw [hs]
  refine Calls.spliced_cons (thn (ha.run pins s σ H _ I f h) ?_)
  rintro u s1 ⟨⟨x, H1, I1, r1, q1⟩, f1⟩
  refine thn (hr.run pos pins s1 σ H1 _ I1 f1 q1) ?_
  rintro us s2 ⟨⟨xs, H2, I2, r2, q2⟩, f2⟩
  exact ⟨⟨x :: xs, H2, I2, .cons r1 r2, q2⟩, f2⟩
theorem kk_nil : KK X F [] tNil := ⟨fun _ _ _ _ H Q I f h => wpAny_evalAll_nil ⟨⟨[], H, I, .nil, h⟩, f⟩⟩
theorem ke_lst (hF : FOk X F) (h : KA X F es t) : KE X F (.List es pos) (tLst t) := by
  refine ⟨fun pins s σ H Q I f hq => wpAny_List_spliced (thn (h.run pos pins s σ H _ I f hq) ?_)⟩
  rintro us s1 ⟨⟨xs, H1, I1, r, z, q⟩, f1⟩
  refine ⟨by rw [← r.length]; exact z, ?_⟩
  have new : H1 s1.heap.objs.size = none := I1.hok.fresh (Nat.le_refl _)
  refine ⟨⟨.ref s1.heap.objs.size, _, I1.laid (o := .lst xs) (t' := s1.toks) (fun y u q => Heap.get?_push_of_some _ q) (Nat.le_refl _) ⟨z, us, 0, r, Heap.get?_push_size _ rfl⟩, rfl, q _ new⟩, hF.go _ _ f1 (Kp.push (Nat.le_refl _))⟩
theorem ke_tup {x1} (hF : FOk X F) (h : KA X F es t) : KE X F (.Tuple es x1 pos) (tTup t) := by
  refine ⟨fun pins s σ H Q I f hq => wpAny_Tuple_spliced (thn (h.run pos pins s σ H _ I f hq) ?_)⟩
  rintro us s1 ⟨⟨xs, H1, I1, r, z, q⟩, f1⟩
  refine ⟨by rw [← r.length]; exact z, ?_⟩
  have new : H1 s1.heap.objs.size = none := I1.hok.fresh (Nat.le_refl _)
  refine ⟨⟨.ref s1.heap.objs.size, _, I1.laid (o := .tup xs) (t' := s1.toks) (fun y u q => Heap.get?_push_of_some _ q) (Nat.le_refl _) ⟨z, us, r, ⟨_, Heap.get?_push_size _ rfl, rfl, _, rfl⟩⟩, rfl, q _ new⟩, hF.go _ _ f1 (Kp.push (Nat.le_refl _))⟩
end
/-! ## statements -/
section
variable {X : Cx} {F : Shared → Prop} {st : Stmt} {rest : List Stmt} {t u : TS} {e : Expr} {te : TE} {pos : Pos}
theorem kss_nil : KSs X F [] tNext := ⟨fun _ _ σ H _ I f h => wpAny_execs_nil ⟨⟨σ, H, I, h⟩, f⟩⟩
theorem kss_cons (h1 : KS X F st t) (h2 : KSs X F rest u) : KSs X F (st :: rest) (tSeq t u) := by
  refine ⟨fun pins s σ H D I f h => wpAny_execs_cons (thn (h1.run pins s σ H { D with nx := u D } I f h) ?_)⟩
  rintro fl s1 ⟨q, f1⟩
  cases fl with
  | next =>
    obtain ⟨σ', H', I', q⟩ := q
    exact h2.run pins s1 σ' H' D I' f1 q
  | ret v => exact ⟨q, f1⟩
  | brk => exact ⟨q, f1⟩
  | cont => exact ⟨q, f1⟩
theorem kss_one (h1 : KS X F st t) : KSs X F [st] t := by
  refine ⟨fun pins s σ H D I f h => wpAny_execs_cons (thn (h1.run pins s σ H D I f h) ?_)⟩
  rintro fl s1 ⟨q, f1⟩
  cases fl with
  | next => exact wpAny_execs_nil ⟨q, f1⟩
  | ret v => exact ⟨q, f1⟩
  | brk => exact ⟨q, f1⟩
  | cont => exact ⟨q, f1⟩
theorem ks_break : KS X F (.Break pos) tBreak := ⟨fun _ _ σ H _ I f h => wpAny_Break ⟨⟨σ, H, I, h⟩, f⟩⟩
theorem ks_expr (he : KE X F e te) (hs : swapsWith e none pos.line X.env = pure false := by rfl) : KS X F (.Expr e pos) (tDrop te) :=
  ⟨fun pins s σ H D I f h => wpAny_Expr_any (thn (he.run pins s σ H _ I f h) (by
    rintro v s1 ⟨⟨x, H1, I1, r1, q1⟩, f1⟩
    exact ⟨⟨σ, H1, I1, q1⟩, f1⟩)) I.quiet hs⟩
theorem ks_ret (he : KE X F e te) : KS X F (.Return (some e) pos) (tRet te) :=
  ⟨fun pins s σ H D I f h => wpAny_Return_some (thn (he.run pins s σ H _ I f h) (by
    rintro v s1 ⟨⟨x, H1, I1, r1, q1⟩, f1⟩
    exact ⟨⟨x, σ, H1, I1, r1, q1⟩, f1⟩))⟩
theorem ks_if {c : Expr} {a b : List Stmt} {tc : TT} (hc : KT X F c tc) (ha : KSs X F a t) (hb : KSs X F b u) : KS X F (.If c a b pos) (tIfS tc t u) :=
  ⟨fun pins s σ H D I f h => wpAny_If (thn (hc.run pins s σ H _ I f h) (by
    rintro k s1 ⟨⟨H1, I1, q1⟩, f1⟩
    cases k with
    | true => exact ha.run pins s1 σ H1 D I1 f1 q1
    | false => exact hb.run pins s1 σ H1 D I1 f1 q1))⟩
theorem ks_never : KS X F st tNever := ⟨fun _ _ _ _ _ _ _ h => h.elim⟩
/-- F does not speak of the name x -/
def FSt (X : Cx) (F : Shared → Prop) (x : Str) : Prop := ∀ (s : Shared) (h : Heap) (u : Value) (t : Nat) (m : Str → Option Value), F s → s.toks ≤ t → s.heap.Ns X.env.locals m → h.Ns X.env.locals (fun y => if y = x then some u else m y) → F { s with heap := h, toks := t }
theorem fstore {pins : List (Addr × Obj)} {σ : L2.St} {H : Hp} {s : Shared} {i : Nat} {x : Str} {v : V} {u : Value} {Q : Shared → Prop} (I : Inv X pins σ H s) (f : F s) (hx : FSt X F x) (hN : X.N.Nodup) (hi : X.N[i]? = some x) (hl : X.env.scope.names.lookup x = some .local) (r : RelV v u)
    (h : ∀ z, Inv X pins (σ.set i (some v)) H z → F z → Q z) : wpAny (model X.prog X.w) X.A (storeName X.env x u) (fun _ z => Q z) X.xe s := by
  obtain ⟨m, hn, _⟩ := I.loc
  have w1 := store_ok (M := model X.prog X.w) (A := X.A) (E := X.xe) (Q := fun _ z => Inv X pins (σ.set i (some v)) H z) I hN hi (.inl hl) r (fun z q => q) (.inr hl)
  have w2 := wpAny_storeName_local (M := model X.prog X.w) (A := X.A) (E := X.xe) (s := s) (env := X.env) (v := u) (Q := fun _ z => F z) hl hn (fun h' n' _ => hx s h' u _ m f (Nat.le_succ _) hn n') (by rw [I.ok.kind]; rfl)
  exact wpAny_mono (wpAny_both w1 w2) (fun _ z q => h z q.1 q.2) fun _ _ q => q.1
theorem ks_set {i : Nat} {x : Str} {pos' : Pos} (hx : FSt X F x) (hN : X.N.Nodup) (hi : X.N[i]? = some x) (hl : X.env.scope.names.lookup x = some .local) (he : KE X F e te) (hs : swapsWith e (some (.Name x pos')) pos.line X.env = pure false := by rfl) : KS X F (.Assign [.Name x pos'] e pos) (tAsg te (gName i)) :=
  ⟨fun pins s σ H D I f h => wpAny_Assign_Name (thn (he.run pins s σ H _ I f h) (by
    rintro v s1 ⟨⟨y, H1, I1, r1, q1⟩, f1⟩
    exact fstore I1 f1 hx hN hi hl r1 fun z I2 f2 => ⟨⟨_, H1, I2, q1⟩, f2⟩)) hs⟩
theorem ks_asg {tg : Expr} {g : TG} (he : KE X F e te) (hg : KG X F tg g) (hs : swapsWithSole [tg] e pos.line X.env = pure false := by rfl) (hw : swappedStores [tg] e X.env = pure none := by rfl)
    (h1 : (assignEach [tg] X.env).map (·.2) = [assign tg X.env] := by rfl) : KS X F (.Assign [tg] e pos) (tAsg te g) := by
  refine ⟨fun pins s σ H D I f h => wpAny_Assign_stores (thn (he.run pins s σ H _ I f h) ?_) hs hw⟩
  rintro v s1 ⟨⟨x, H1, I1, r1, q1⟩, f1⟩
  rw [h1]
  exact thn (hg.run pins s1 σ H1 x v _ I1 f1 r1 q1) fun _ s2 q => q
theorem kg_name {i : Nat} {x : Str} (hx : FSt X F x) (hN : X.N.Nodup) (hi : X.N[i]? = some x) (hl : X.env.scope.names.lookup x = some .local) : KG X F (.Name x pos) (gName i) :=
  ⟨fun pins s σ H v u Q I f r h => wpAny_assign_Name (fstore I f hx hN hi hl r fun z I2 f2 => ⟨⟨_, H, I2, h⟩, f2⟩)⟩
theorem kgs_nil : KGs X F [] gNil := ⟨fun pins s σ H vs us Q I f r h => by
  obtain ⟨rfl, h⟩ := h
  cases r
  exact assignInOrder_nil ⟨⟨σ, H, I, h⟩, f⟩⟩
theorem kgs_cons {es : List Expr} {g : TG} {gs : TGs} (h1 : KG X F e g) (h2 : KGs X F es gs) (hs : (assignEach (e :: es) X.env).map (·.2) = assign e X.env :: (assignEach es X.env).map (·.2) := by rfl) : KGs X F (e :: es) (gCons g gs) :=
  ⟨fun pins s σ H vs us Q I f r h => by
    obtain ⟨v, vr, rfl, h⟩ := h
    cases r with
    | cons r rr =>
      rw [hs]
      refine assignInOrder_cons (thn (h1.run pins s σ H _ _ _ I f r h) ?_)
      rintro _ s1 ⟨⟨σ1, H1, I1, q1⟩, f1⟩
      exact h2.run pins s1 σ1 H1 _ _ Q I1 f1 rr q1⟩
end
end Sq


set_option Elab.async false
set_option maxRecDepth 100000
set_option maxHeartbeats 2000000
/-! what runs by values alone leaves the frame's names as they are: it is run as if another frame, a spare dict younger than ours, were the frame at hand, and ours a caller's -/
namespace Sq
open PySem PySem.Spec PyProof.Rows L2
/-- the objects below B -/
def cutH (h : Heap) (B : Addr) : Heap := { h with objs := h.objs.extract 0 B }
theorem cutH_get {h : Heap} {B b : Addr} {o : Obj} : (cutH h B).get? b = some o ↔ b < B ∧ h.get? b = some o := by
  rw [Heap.get?_some_iff, Heap.get?_some_iff]
  unfold cutH
  simp only [Array.getElem?_extract, Nat.zero_add]
  constructor
  · rintro ⟨h1, h2⟩
    split at h1
    · rename_i z
      exact ⟨Nat.lt_of_lt_of_le z (Nat.le_trans (Nat.sub_le _ _) (Nat.min_le_left _ _)), h1, h2⟩
    · cases h1
  · rintro ⟨h0, h1, h2⟩
    have hs := (Array.getElem?_eq_some_iff.mp h1).1
    rw [if_pos (by rw [Nat.sub_zero]; exact Nat.lt_min.mpr ⟨h0, hs⟩)]
    exact ⟨h1, h2⟩
theorem cutH_size {h : Heap} {B : Addr} : (cutH h B).objs.size ≤ B := by
  unfold cutH
  simp only [Array.size_extract]
  omega
theorem cutH_size2 {h : Heap} {B : Addr} {n : Nat} (h1 : n ≤ h.objs.size) (h2 : n ≤ B) : n ≤ (cutH h B).objs.size := by
  unfold cutH
  simp only [Array.size_extract]
  omega
theorem funs_cut {h base : Heap} {B : Addr} : ∀ {l : List Env}, h.FunFrames base l → (∀ b ∈ frs l, b < B) → (cutH h B).FunFrames base l
  | [], _, _ => trivial
  | env :: r, ⟨hk, ⟨L, o, hf, hn, ho, hd⟩, hr⟩, hl => by
    have hL : L ∈ frs (env :: r) := by unfold frs; rw [List.filterMap_cons, hf]; exact List.mem_cons_self
    exact ⟨hk, ⟨L, o, hf, hn, cutH_get.mpr ⟨hl L hL, ho⟩, hd⟩, funs_cut hr fun b hb => hl b (by unfold frs; rw [List.filterMap_cons, hf]; exact List.mem_cons_of_mem _ hb)⟩
/-- the context of another frame at hand, B -/
abbrev hatX (X : Cx) (s : Shared) (H : Hp) (B : Addr) : Cx :=
  { X with N := [], s_0 := { s with heap := cutH s.heap B }, H_0 := fun b => if b < B then H b else none, env := { X.env with locals := B, cells := [], scope := { X.env.scope with names := [] } }, outer := X.stack, ex := [], fn := fun _ => false, pn := [] }
/-- a spare dict, pinned -/
structure Spare (X : Cx) (B : Addr) : Prop where
  up : X.env.locals < B
  pin : ∃ ob es ep, (B, ob) ∈ X.pn ∧ ob.data = .dict es ep ∧ StrKeys es
section
variable {X : Cx} {pins : List (Addr × Obj)} {σ : L2.St} {H : Hp} {s : Shared} {B : Addr}
theorem hat_low (I : Inv X pins σ H s) (S : Spare X B) : ∀ b ∈ frs X.stack, b < B := fun b hb => by
  rcases List.mem_cons.mp (I.stkSub b hb) with e | hb
  · rw [e]
    exact S.up
  · obtain ⟨_, o, ho, _⟩ := I.ok.funs.mem hb
    exact Nat.lt_trans (Nat.lt_of_lt_of_le (Heap.lt_size ho) I.ok.above) S.up
theorem hat_inv (I : Inv X pins σ H s) (S : Spare X B) : Inv (hatX X s H B) [] [] H s := by
  obtain ⟨ob, es, ep, hp, hd, hk⟩ := S.pin
  obtain ⟨p1, p2, p3, p4, p5⟩ := I.pin (B, ob) (List.mem_append_left _ hp)
  have low := hat_low I S
  have bl : ∀ b o, X.base.get? b = some o → b < B := fun b o e => Nat.lt_trans (Nat.lt_of_lt_of_le (Heap.lt_size (I.ok.bs b o e).1) I.ok.above) S.up
  have sz : X.base.objs.size ≤ X.env.locals := Nat.le_trans I.ok.bsz I.ok.above
  refine ⟨?_, rfl, I.bare, ?_, ?_, fun x c e => (by cases e), p2, fun x c e => (by cases e), fun p hp => (by cases hp), I.hok, rfl⟩
  · refine { mod := I.ok.mod, kind := I.ok.kind, glob := I.ok.glob, blt := I.ok.blt, above := cutH_size, inj := fun x y c e _ => (by cases e), has := fun x e => ?_, cab := fun x c e _ => (by cases e), hd := I.ok.hd, frames := I.ok.frames, stk := .inl rfl, exf := fun b hb => (by cases hb), bs := fun b o e => ?_, bsz := ?_, noex := fun b o _ hb => (by cases hb), exfs := fun b hb => (by cases hb), funs := funs_cut I.stack low, frf := fun b hb => ?_ }
    · rcases e with e | e <;> cases e
    · obtain ⟨q1, q2⟩ := I.bs b o e
      refine ⟨cutH_get.mpr ⟨bl b o e, q1⟩, ?_⟩
      show (if b < B then H b else none) = none
      rw [if_pos (bl b o e)]
      exact q2
    · exact cutH_size2 (Nat.le_trans sz (Nat.le_of_lt I.lt)) (Nat.le_trans sz (Nat.le_of_lt S.up))
    · show (if b < B then H b else none) = none
      rw [if_pos (low b hb)]
      exact I.stkFree b hb
  · have h0 : ∀ {b : Addr} {o : Obj}, (cutH s.heap B).get? b = some o → s.heap.get? b = some o ∧ (if b < B then H b else none) = H b := fun {b o} e => by
      obtain ⟨q1, q2⟩ := cutH_get.mp e
      exact ⟨q2, if_pos q1⟩
    have h1 : ∀ {b : Addr} {u : HO}, (if b < B then H b else none) = some u → H b = some u := fun {b u} e => by
      split at e
      · exact e
      · cases e
    exact ⟨fun b o e _ _ _ => (h0 e).1, fun b o e _ _ _ => ⟨o.slots, (h0 e).1⟩, fun b o e n _ => by rw [← (h0 e).2]; exact n, fun b o e _ => ⟨o, (h0 e).1⟩, fun b xs e => h1 e, fun b o u e => h1 e, fun b ps e => ⟨#[], by rw [h1 e]; simp⟩⟩
  · exact ⟨_, ⟨ob, es, ep, p1, hd, hk, fun _ => rfl⟩, fun i x v e => by cases e⟩
/-- behind such a run -/
theorem hat_ns {pn' : List (Addr × Obj)} {σ' : L2.St} {H' : Hp} {z : Shared} (I : Inv X pins σ H s) (S : Spare X B) (J : Inv (hatX X s H B) pn' σ' H' z) : ∀ m, s.heap.Ns X.env.locals m → z.heap.Ns X.env.locals m := fun m hn => by
  obtain ⟨o, es, ep, ho, r⟩ := hn
  obtain ⟨sl, e⟩ := J.base.any (b := X.env.locals) (ob := o) (cutH_get.mpr ⟨S.up, ho⟩) (by
    show (if X.env.locals < B then H X.env.locals else none) = none
    rw [if_pos S.up]
    exact I.free) (fun z => by cases z)
  exact ⟨_, es, ep, e, r⟩
/-- two promises of one run, the one with the spare frame -/
theorem lift_both {α : Type} {F : Shared → Prop} {t : Sem α} {P P' : α → Shared → Prop} {E E' : Value → Shared → Prop} (hF : FOk X F) (S : Spare X B) (I : Inv X pins σ H s) (f : F s) (h1 : wpAny (model X.prog X.w) X.A t P E s)
    (h2 : wpAny (model X.prog X.w) X.A t P' E' s) (hj : ∀ a z, P' a z → ∃ pn' σ' H', Inv (hatX X s H B) pn' σ' H' z) : wpAny (model X.prog X.w) X.A t (fun a z => P a z ∧ F z) E s := by
  refine wpAny_mono (wpAny_both h1 (wpAny_toks h2)) (fun a z q => ?_) fun e z q => q.1
  obtain ⟨q1, tk, q2⟩ := q
  obtain ⟨pn', σ', H', J⟩ := hj a z q2
  exact ⟨q1, hF.go _ _ f ⟨tk, hat_ns I S J⟩⟩
variable {F : Shared → Prop}
theorem FOp.of {g : Value → Value → Sem Value} {r : R2} (hF : FOk X F) (S : Spare X B) (h1 : OpR X g r) (h2 : ∀ s H, OpR (hatX X s H B) g r) : FOp X F g r :=
  fun pins s σ H x y v u Q I f rx ry q => lift_both hF S I f (h1 pins s σ H x y v u Q I rx ry q) (h2 s H [] s [] H x y v u Q (hat_inv I S) rx ry q) fun a z ⟨v', H', J, _⟩ => ⟨_, _, H', J⟩
theorem FUn.of {g : Value → Sem Value} {r : V → Hp → VK → Prop} (hF : FOk X F) (S : Spare X B) (h1 : UnR X g r) (h2 : ∀ s H, UnR (hatX X s H B) g r) : FUn X F g r :=
  fun pins s σ H x v Q I f rx q => lift_both hF S I f (h1 pins s σ H x v Q I rx q) (h2 s H [] s [] H x v Q (hat_inv I S) rx q) fun a z ⟨v', H', J, _⟩ => ⟨_, _, H', J⟩
theorem FCall.of {g : Value} {r : List V → Hp → VK → Prop} (hF : FOk X F) (S : Spare X B) (h1 : CallR X g r) (h2 : ∀ s H, CallR (hatX X s H B) g r) : FCall X F g r :=
  fun pins s σ H xs us Q I f rx q => lift_both hF S I f (h1 pins s σ H xs us Q I rx q) (h2 s H [] s [] H xs us Q (hat_inv I S) rx q) fun a z ⟨v', H', J, _⟩ => ⟨_, _, H', J⟩
theorem FIx.of {r : R2} (hF : FOk X F) (S : Spare X B) (h1 : IxR X r) (h2 : ∀ s H, IxR (hatX X s H B) r) : FIx X F r :=
  fun e i pins s σ H x y v u Q I f rx ry q hs => lift_both hF S I f (h1 e i pins s σ H x y v u Q I rx ry q hs) (h2 s H e i [] s [] H x y v u Q (hat_inv I S) rx ry q hs) fun a z ⟨v', H', J, _⟩ => ⟨_, _, H', J⟩
theorem FMt.of {id : String} {r : V → List V → Hp → VK → Prop} (hF : FOk X F) (S : Spare X B) (h1 : MtR X id r) (h2 : ∀ s H, MtR (hatX X s H B) id r) : FMt X F id r :=
  fun pins s σ H x xs v us Q I f rx rxs q => lift_both hF S I f (h1 pins s σ H x xs v us Q I rx rxs q) (h2 s H [] s [] H x xs v us Q (hat_inv I S) rx rxs q) fun a z ⟨v', H', J, _⟩ => ⟨_, _, H', J⟩
theorem FSl.of {r : V → Option Int → Option Int → Hp → VK → Prop} (hF : FOk X F) (S : Spare X B) (h1 : SlR X r) (h2 : ∀ s H, SlR (hatX X s H B) r) : FSl X F r :=
  fun pins s σ H x v vl vu lo hi sl Q I f rx hs pl pu q => by
    obtain ⟨T, id, a1, a2, w1⟩ := h1 pins s σ H x v vl vu lo hi sl Q I rx hs pl pu q
    obtain ⟨_, _, _, _, w2⟩ := h2 s H [] s [] H x v vl vu lo hi sl Q (hat_inv I S) rx hs pl pu q
    exact ⟨T, id, a1, a2, lift_both hF S I f w1 w2 fun a z ⟨v', H', J, _⟩ => ⟨_, _, H', J⟩⟩
theorem FSet.of {t : TSet} (hF : FOk X F) (S : Spare X B) (h1 : PSet X t) (h2 : ∀ s H, PSet (hatX X s H B) t) : FSet X F t :=
  fun pins s σ H o i v ov iv u Q I f ro ri rv q => lift_both hF S I f (h1 pins s σ H o i v ov iv u Q I ro ri rv q) (h2 s H [] s [] H o i v ov iv u Q (hat_inv I S) ro ri rv q) fun a z ⟨H', J, _⟩ => ⟨_, _, H', J⟩
end
end Sq


set_option Elab.async false
set_option maxRecDepth 100000
set_option maxHeartbeats 2000000
/-! calls, targets and loops that keep F -/
namespace Sq
open PySem PySem.Spec PyProof.Rows L2
section
variable {X : Cx} {F : Shared → Prop} {B : Addr} {k j : Nat} {x m : Str} {C : Addr} {sp : Sp} {p p2 pos apos cpos : Pos} {e o : Expr} {es : List Expr} {te ta : TE} {t : TA}
theorem Spare.B_lt (S : Spare X B) {pins : List (Addr × Obj)} {σ : L2.St} {H : Hp} {s : Shared} (I : Inv X pins σ H s) : B < s.heap.objs.size := by
  obtain ⟨ob, _, _, hp, _⟩ := S.pin
  exact Heap.lt_size (I.pin (B, ob) (List.mem_append_left _ hp)).1
/-! ## calls -/
/-- behind a call the caller's frame is as it was -/
theorem ns_after {pins : List (Addr × Obj)} {σ : L2.St} {H H' : Hp} {s z : Shared} (I : Inv X pins σ H s) (u : Un (frs X.stack) [] H H' s.heap z.heap) : ∀ m, s.heap.Ns X.env.locals m → z.heap.Ns X.env.locals m := fun m hn => by
  obtain ⟨o, es, ep, ho, r⟩ := hn
  obtain ⟨sl, e⟩ := u.any ho I.free (fun z => by cases z)
  exact ⟨_, es, ep, e, r⟩
theorem run_fnK {CX : CXT} {f : Addr} {fd : FuncData} {ps : List Str} {dvs : List V} {ds : List Value} {E : XK} {pins : List (Addr × Obj)} {σ : L2.St} {H : Hp} {s : Shared} {Q : VK} {us : List Value} {vs : List V} (hF : FOk X F) (G : FnOk X.prog X.w X.K X.mg X.base CX k f fd ps sp) (hr : Room k X.A)
    (hb : Binds X.K fd ps ds) (hd : Vals dvs ds) (hx : Passes CX X E) (I : Inv X pins σ H s) (f0 : F s) (r : Vals vs us) (h : sp (vs ++ dvs) H Q E) : wpAny (model X.prog X.w) X.A (call (.ref f) us) (fun a z => EP X pins σ Q a z ∧ F z) X.xe s := by
  have r2 := r.append hd
  have hl : (us ++ ds).length = ps.length := by rw [← r2.length]; exact G.len _ _ _ _ h
  refine wpAny_mono (wpAny_toks (wpAny_call (Q := fun v z => CE X.stack X.prog X.w H s Q v z) (E := X.xe) ?_)) ?_ fun e z q => q.2
  rotate_left
  · rintro a z ⟨tk, q⟩
    refine ⟨I.after q, ?_⟩
    obtain ⟨_, _, _, _, un, _⟩ := q
    exact hF.go _ _ f0 ⟨tk, ns_after I un⟩
  · exact codeAny_mono (G.run X.A X.stack s H ⟨us, []⟩ (us ++ ds) (vs ++ dvs) Q E hr I.env0 (hb s us I.kIn hl) r2 h) fun r z hq => by
      cases r with
      | error e => exact hx pins σ H s e z I hq
      | ok fl => cases fl <;> exact hq
theorem ke_c {dvs : List V} (hF : FOk X F) (c : Cal X.prog X.w X.K X.mg X.base k x sp dvs) (hr : Room j X.A) (hk : k ≤ j) (hg : Gl X x) (ha : KA X F (e :: es) t)
    (hdb : (x == ("__debug__" : Str)) = false := by decide) (he : starEach (e :: es) X.env = (false, eval e X.env) :: starEach es X.env := by rfl) (hpl : (backTo pos (starEach es X.env)).any (·.1) = false := by rfl) :
    KE X F (.Call (.Name x p) (e :: es) [] pos) (tCall sp dvs E0 t) := by
  obtain ⟨f, fd, ps, ds, G, hm, kp, bd, vd⟩ := c.ex
  refine ⟨fun pins s σ H Q I f0 h => wpAny_Call_Name_kw (ld_glob I hg hm (PySem.W.callWith_K (h₀ := X.base) I.ok.mod.kin kp (thn (ha.run pos pins s σ H _ I f0 h) ?_) he hpl) hdb)⟩
  rintro us s1 ⟨⟨vs, H1, I1, r, q⟩, f1⟩
  exact ⟨I1.kIn, run_fnK hF G (hr.mono hk) bd vd pass0 I1 f1 r q⟩
theorem ke_callB {id : String} {r : List V → Hp → VK → Prop} (hc : FCall X F (.builtin id) r) (hg : Gl X x) (hm : X.mg x = none) (hv : bootBuiltins x = some (.builtin id)) (ha : KA X F (e :: es) t) (hn : x ≠ "__name__" := by decide) (hdb : (x == ("__debug__" : Str)) = false := by decide)
    (he : starEach (e :: es) X.env = (false, eval e X.env) :: starEach es X.env := by rfl) (hpl : (backTo pos (starEach es X.env)).any (·.1) = false := by rfl) : KE X F (.Call (.Name x p) (e :: es) [] pos) (tCB r t) :=
  ⟨fun pins s σ H Q I f h => wpAny_Call_Name_kw (ld_blt I hg hm hv (PyProof.Rows.callWith_builtin1 (thn (ha.run pos pins s σ H _ I f h) (by
    rintro us s1 ⟨⟨vs, H1, I1, r1, q1⟩, f1⟩
    exact hc pins s1 σ H1 vs us Q I1 f1 r1 q1)) he hpl) hn hdb)⟩
theorem ke_callTy {T : String} {r : List V → Hp → VK → Prop} (hc : FCall X F (.type T) r) (hg : Gl X x) (hm : X.mg x = none) (hv : bootBuiltins x = some (.type T)) (ha : KA X F (e :: es) t) (hn : x ≠ "__name__" := by decide) (hdb : (x == ("__debug__" : Str)) = false := by decide)
    (he : starEach (e :: es) X.env = (false, eval e X.env) :: starEach es X.env := by rfl) (hpl : (backTo pos (starEach es X.env)).any (·.1) = false := by rfl) : KE X F (.Call (.Name x p) (e :: es) [] pos) (tCB r t) :=
  ⟨fun pins s σ H Q I f h => wpAny_Call_Name_kw (ld_blt I hg hm hv (PyProof.Rows.callWith_type1 (thn (ha.run pos pins s σ H _ I f h) (by
    rintro us s1 ⟨⟨vs, H1, I1, r1, q1⟩, f1⟩
    exact hc pins s1 σ H1 vs us Q I1 f1 r1 q1)) he hpl) hn hdb)⟩
theorem ke_mk (hF : FOk X F) (S : Spare X B) (c : Mak X.prog X.w X.K X.mg X.base k x C sp) (hr : Room j X.A) (hk : k + 1 ≤ j) (hg : Gl X x) (ha : KA X F (e :: es) t)
    (hdb : (x == ("__debug__" : Str)) = false := by decide) (he : starEach (e :: es) X.env = (false, eval e X.env) :: starEach es X.env := by rfl) (hpl : (backTo pos (starEach es X.env)).any (·.1) = false := by rfl) :
    KE X F (.Call (.Name x p) (e :: es) [] pos) (tMake C sp [] E0 t) := by
  obtain ⟨f, fd, ps, M, G, hm, b⟩ := c.ex
  refine ⟨fun pins s σ H Q I f0 h => wpAny_Call_Name_kw (ld_glob I hg hm (PySem.W.callWith_K (h₀ := X.base) I.ok.mod.kin M.kp (thn (ha.run pos pins s σ H _ I f0 h) ?_) he hpl) hdb)⟩
  rintro us s1 ⟨⟨vs, H1, I1, r, q⟩, f1⟩
  refine ⟨I1.kIn, lift_both hF S I1 f1 (run_make M G (hr.mono hk) b .nil pass0 I1 r q) (run_make (X := hatX X s1 H1 B) M G (hr.mono hk) b .nil pass0 (hat_inv I1 S) r q) ?_⟩
  rintro a z ⟨v', H', J, _⟩
  exact ⟨_, _, H', J⟩
theorem kk_cons {kws : List Keyword} {nm : Option Str} {kpos : Pos} (ha : KE X F e te) (hr : KK X F kws t) : KK X F (⟨nm, e, kpos⟩ :: kws) (tCons te t) := by
  refine ⟨fun pos pins s σ H Q I f h => ?_⟩
  show wpAny _ _ (evalAll ((do
    let v ← eval e X.env
    standAt pos
    pure v) :: (backToKw pos (keywordEach kws X.env)).map (·.2))) _ _ s
  refine wpAny_evalAll_cons (wpAny_bind (thn (ha.run pins s σ H _ I f h) ?_))
  rintro u s1 ⟨⟨y, H1, I1, r1, q1⟩, f1⟩
  refine wpAny_bind (wpAny_standAt (wpAny_pure ?_))
  refine thn (hr.run pos pins s1 σ H1 _ I1 f1 q1) ?_
  rintro us s2 ⟨⟨ys, H2, I2, r2, q2⟩, f2⟩
  exact ⟨⟨y :: ys, H2, I2, .cons r1 r2, q2⟩, f2⟩
theorem ke_mkk {ks : List Str} {kws : List Keyword} (hF : FOk X F) (S : Spare X B) (c : MakK X.prog X.w X.K X.mg X.base k x C ks sp) (hr : Room j X.A) (hk : k + 1 ≤ j) (hg : Gl X x) (ha : KK X F kws t)
    (hall : (backToKw pos (keywordEach kws X.env)).all (·.1.isSome) = true := by rfl) (hks : (backToKw pos (keywordEach kws X.env)).filterMap (·.1) = ks := by rfl) (hdb : (x == ("__debug__" : Str)) = false := by decide)
    (hpl : ((backTo pos (starEach [] X.env)).any (·.1) || (backToKw pos (keywordEach kws X.env)).any (·.1.isNone)) = false := by rfl) : KE X F (.Call (.Name x p) [] kws pos) (tMakK C sp t) := by
  obtain ⟨f, fd, ps, spf, g, gV, M, G, hm, hb, hs⟩ := c.ex
  refine ⟨fun pins s σ H Q I f0 h => wpAny_Call_Name_kw (ld_glob I hg hm (PySem.W.callWith_KW0 (h₀ := X.base) I.ok.mod.kin M.kp hall (thn (ha.run pos pins s σ H _ I f0 h) ?_) hpl) hdb)⟩
  rintro ws s2 ⟨⟨zs, H2, I2, rz, q2⟩, f2⟩
  refine ⟨I2.kIn, ?_⟩
  rw [hks]
  have lz : zs.length = ks.length := (hs _ _ _ _ _ (q2 (s2.heap.objs.size + 1) s2.heap.objs.size (I2.hok.fresh (Nat.le_succ _)) (I2.hok.fresh (Nat.le_refl _)) (Nat.ne_of_lt (Nat.lt_succ_self _)))).1
  have w1 := run_makeK (us := []) (vs := []) M G (hr.mono hk) hb pass0 I2 .nil rz rfl lz fun y dy n1 n2 n3 => (hs _ _ _ _ _ (q2 y dy n1 n2 n3)).2
  have w2 := run_makeK (X := hatX X s2 H2 B) (us := []) (vs := []) M G (hr.mono hk) hb pass0 (hat_inv I2 S) .nil rz rfl lz fun y dy n1 n2 n3 => (hs _ _ _ _ _ (q2 y dy n1 n2 n3)).2
  refine lift_both hF S I2 f2 w1 w2 ?_
  rintro a z ⟨v', H', J, _⟩
  exact ⟨_, _, H', J⟩
theorem ke_bm {K : PySem.W.Frag} {T id : String} {name : Str} {r : V → List V → Hp → VK → Prop} {to : TE} (pa : PlainAttrs T) (slot : Slot T name id) (hty : typeOf (.builtin id) = pure (.type "method_descriptor")) (hm : FMt X F id r) (ho : KE X F o to) (ha : KA X F (e :: es) t)
    (hK : X.K = K := by rfl) (hbase : attributeBase o name X.env (eval o X.env) = eval o X.env := by rfl)
    (hfew : ((backTo cpos (starEach (e :: es) X.env)).all (fun y => !y.1) && (backToKw cpos (keywordEach [] X.env)).all (fun y => y.1.isSome)
      && decide ((e :: es).length + ([] : List Keyword).length + (if ([] : List Keyword).isEmpty then 0 else 1) < 30)) = true := by rfl)
    (hline : (apos.endLine == cpos.line) = true := by rfl) (hs : starEach (e :: es) X.env = (false, eval e X.env) :: starEach es X.env := by rfl) (hplain : (backTo cpos (starEach es X.env)).any (·.1) = false := by rfl) :
    KE X F (.Call (.Attribute o name apos) (e :: es) [] cpos) (tBM K T r to t) := by
  subst hK
  refine ⟨fun pins s σ H Q I f h => wpAny_Call_method_late hbase hfew hline rfl (thn (ho.run pins s σ H _ I f h) ?_)⟩
  rintro v s1 ⟨⟨y, H1, I1, r1, ty, q1⟩, f1⟩
  obtain ⟨h1, h2⟩ := tyV_is I1 r1 ty
  refine ⟨T, id, pa, slot, hty, h1, h2, ?_⟩
  have hA := ha.run cpos pins s1 σ H1 _ I1 f1 q1
  rw [hs] at hA ⊢
  refine Calls.callWith_builtin (by show (false || (backTo cpos (starEach es X.env)).any (·.1)) = false; rw [hplain] <;> rfl) (Calls.evalArgs_plain (thn hA ?_))
  rintro us s2 ⟨⟨vs, H2, I2, r2, q2⟩, f2⟩
  exact hm pins s2 σ H2 y vs v us Q I2 f2 r1 r2 q2
theorem ke_mR {pl : Sem Bool} (hF : FOk X F) (S : Spare X B) (c : MetR X.prog X.w X.K X.mg X.base k C m sp) (hr : Room j X.A) (hk : k ≤ j) (he : KE X F o ta) (ha : KA X F (e :: es) t)
    (ht : eval (.Call (.Attribute o m apos) (e :: es) [] pos) X.env = (do
      let ov ← eval o X.env
      standAt apos.atName
      let (g, first) ← holding [ov] (getMethod ov m pl)
      callWith pos g first (backTo pos (starEach (e :: es) X.env)) (backToKw pos (keywordEach [] X.env))) := by rfl)
    (hst : starEach (e :: es) X.env = (false, eval e X.env) :: starEach es X.env := by rfl) (hpl : (backTo pos (starEach es X.env)).any (·.1) = false := by rfl) : KE X F (.Call (.Attribute o m apos) (e :: es) [] pos) (tMethR C m sp E0 ta t) := by
  obtain ⟨f, c1, c2, G⟩ := c.ex
  refine ⟨fun pins s σ H Q I f0 h => PySem.W.methodCall_KW (pl := pl) (thn (he.run pins s σ H _ I f0 h) ?_) ht⟩
  rintro u s1 ⟨⟨y, H1, I1, ry, a, dx, fs, rfl, ea, l, q⟩, f1⟩
  obtain rfl : u = Value.ref a := ry
  refine getmeth_ok I1 ea c1 c2 l (PySem.W.callWith_K (first := [.ref a]) (h₀ := X.base) I.ok.mod.kin c2.kp (thn (ha.run pos pins s1 σ H1 _ I1 f1 q) ?_) hst hpl)
  rintro us s2 ⟨⟨vs, H2, I2, r, q2⟩, f2⟩
  refine ⟨I2.kIn, lift_both hF S I2 f2 (wpAny_call (run_fnR (us := .ref a :: us) (vs := .ref a :: vs) G (hr.mono hk) pass0 I2 (.cons rfl r) q2))
    (wpAny_call (run_fnR (X := hatX X s2 H2 B) (us := .ref a :: us) (vs := .ref a :: vs) G (hr.mono hk) pass0 (hat_inv I2 S) (.cons rfl r) q2)) ?_⟩
  rintro a z ⟨v', H', J, _⟩
  exact ⟨_, _, H', J⟩
/-! ## targets -/
variable {tg : Expr} {tgs : TGs} {n : Nat} {K : PySem.W.Frag}
theorem kg_lst {kk : Nat} (hF : FOk X F) (hc : X.calm = true) (h : KGs X F es tgs) (hn : (assignEach es X.env).length = n := by rfl) (hst : (assignEach es X.env).findIdx? (·.1) = none := by rfl) (hK : X.K = K := by rfl) : KG X F (.Tuple es kk pos) (gUnl K n tgs) := by
  subst hK
  refine ⟨fun pins s σ H v u Q I f r hw => ?_⟩
  obtain ⟨a, xs, rfl, hq, hl, hw⟩ := hw
  cases r
  obtain ⟨its, rv, pl, hz⟩ := I.list hq
  rw [PyProof.Rows.assign_Tuple]
  refine wpAny_bind (wpAny_standAt ?_)
  unfold unpack
  rw [show (assignEach es X.env).length = its.toArray.size from hn.trans (hl.symm.trans (rv.length.trans (by rw [List.size_toArray]))), hst]
  refine wpAny_bind (wpAny_holding (PySem.W.kun_itemsOf (I.ok.hd hc) pl.isList fun h' hx => ?_))
  have kk : ∀ y u, s.heap.get? y = some u → h'.get? y = some u := fun y u q => hx y u (Nat.ne_of_lt (Heap.lt_size q)) q
  have I1 : Inv X pins σ H { s with heap := h' } := I.kept (t' := s.toks) kk
  exact h.run pins _ σ H xs _ Q I1 (hF.go _ _ f (Kp.at (Nat.le_refl _) fun u q => ⟨u.slots, kk _ _ q⟩)) (by simpa using rv) hw
theorem kg_tup {kk : Nat} (hF : FOk X F) (hc : X.calm = true) (h : KGs X F es tgs) (hn : (assignEach es X.env).length = n := by rfl) (hst : (assignEach es X.env).findIdx? (·.1) = none := by rfl) (hK : X.K = K := by rfl) : KG X F (.Tuple es kk pos) (gTup K n tgs) := by
  subst hK
  refine ⟨fun pins s σ H v u Q I f r hw => ?_⟩
  obtain ⟨a, xs, rfl, hq, hl, hw⟩ := hw
  cases r
  obtain ⟨its, rv, ht, hz⟩ := I.tuple hq
  refine assign_Tuple_tuple (I.ok.hd hc) ht (by simp [hn, ← hl, rv.length]) hst fun h' hx => ?_
  have kk : ∀ y u, s.heap.get? y = some u → h'.get? y = some u := fun y u q => hx y u (Nat.ne_of_lt (Heap.lt_size q)) q
  have I1 : Inv X pins σ H { s with heap := h' } := I.kept (t' := s.toks) kk
  exact h.run pins _ σ H xs _ Q I1 (hF.go _ _ f (Kp.at (Nat.le_refl _) fun u q => ⟨u.slots, kk _ _ q⟩)) (by simpa using rv) hw
theorem kg_sub {i : Expr} {to ti : TE} {g : TSet} (ho : KE X F o to) (hi : KE X F i ti) (hs : FSet X F g)
    (ha : ∀ v, assign (.Subscript o i pos) X.env v = (do
      let ov ← holding [v] (eval o X.env)
      let iv ← holding [v, ov] (eval i X.env)
      standAt pos
      holding [v, ov, iv] (setItem ov iv v)
      release [v, ov, iv] []) := by intro _; rfl) : KG X F (.Subscript o i pos) (gSub to ti g) := by
  refine ⟨fun pins s σ H v u Q I f r h => ?_⟩
  rw [ha]
  refine wpAny_bind (wpAny_holding (thn (ho.run pins s σ H _ I f h) ?_))
  rintro ov s1 ⟨⟨y, H1, I1, r1, q1⟩, f1⟩
  refine wpAny_bind (wpAny_holding (thn (hi.run pins s1 σ H1 _ I1 f1 q1) ?_))
  rintro iv s2 ⟨⟨z, H2, I2, r2, q2⟩, f2⟩
  refine wpAny_bind (wpAny_standAt (wpAny_bind (wpAny_holding (thn (hs pins s2 σ H2 y z v ov iv u _ I2 f2 r1 r2 r q2) ?_))))
  rintro _ s3 ⟨⟨H3, I3, q3⟩, f3⟩
  exact wpAny_release ⟨⟨σ, H3, I3, q3⟩, f3⟩
end
/-! ## what a loop walks -/
/-- an iterator's turns that keep F, in one context -/
structure TurnK (X : Cx) (F : Shared → Prop) (tg : Expr) (J : It) (fp : List Addr) (it : Addr) (tn : Nat → Heap → Prop) : Prop where
  item : ∀ (i : Nat) (pins : List (Addr × Obj)) (s : Shared) (σ : L2.St) (H : Hp), Inv X pins σ H s → F s → (∀ b ∈ fp, FpOk X pins H b) → tn i s.heap → J.go i H →
    wpAny (model X.prog X.w) X.A (pyNext (.ref it)) (fun r z1 => ∃ u, r = some u ∧ wpAny (model X.prog X.w) X.A (letOwnedTupleGo tg (.ref it) u) (fun _ z2 => (∃ x H', Inv X pins σ H' z2 ∧ RelV x u ∧ J.yld i H x H' ∧ tn (i + 1) z2.heap ∧ ∀ b ∈ fp, H' b = none) ∧ F z2) X.xe z1) X.xe s
  done : ∀ (i : Nat) (pins : List (Addr × Obj)) (s : Shared) (σ : L2.St) (H : Hp), Inv X pins σ H s → F s → (∀ b ∈ fp, FpOk X pins H b) → tn i s.heap → J.stop i H →
    wpAny (model X.prog X.w) X.A (pyNext (.ref it)) (fun r z => (r = none ∧ Inv X pins σ H z) ∧ F z) X.xe s
def KIE (X : Cx) (F : Shared → Prop) (pins : List (Addr × Obj)) (σ : L2.St) (tg : Expr) (R : It → Hp → Prop) (itv : Value) (z : Shared) : Prop :=
  (∃ (it : Addr) (fp : List Addr) (tn : Nat → Heap → Prop) (J : It) (H' : Hp), itv = .ref it ∧ Inv X pins σ H' z ∧ Turn X.prog X.w X.K tg J fp it tn ∧ TurnK X F tg J fp it tn ∧ tn 0 z.heap ∧ (∀ b ∈ fp, FpOk X pins H' b) ∧ R J H') ∧ F z
structure KIt (X : Cx) (F : Shared → Prop) (tg iter : Expr) (wi : TI) : Prop where
  run : ∀ (pins : List (Addr × Obj)) (s : Shared) (σ : L2.St) (H : Hp) (R : It → Hp → Prop), Inv X pins σ H s → F s → wi σ H R →
    wpAny (model X.prog X.w) X.A (eval iter X.env) (fun v z => wpAny (model X.prog X.w) X.A (pyIter v) (KIE X F pins σ tg R) X.xe z) X.xe s
section
variable {X : Cx} {F : Shared → Prop} {B : Addr} {tg e : Expr} {te : TE} {t : TA} {p pos : Pos} {K : PySem.W.Frag}
/-- the iterator's objects, in the other context -/
theorem hat_fp {pins : List (Addr × Obj)} {σ : L2.St} {H : Hp} {s : Shared} (I : Inv X pins σ H s) (S : Spare X B) {b : Addr} (h : H b = none) (hb : B < b) : FpOk (hatX X s H B) [] H b :=
  ⟨h, Nat.ne_of_gt hb, fun q => absurd (hat_low I S b q) (Nat.not_lt_of_le (Nat.le_of_lt hb)), .inr (Nat.le_trans cutH_size (Nat.le_of_lt hb)), fun _ _ q => (by cases q), fun _ q => (by cases q)⟩
/-- by the spare dict -/
theorem TurnK.of {J : It} {fp : List Addr} {it : Addr} {tn : Nat → Heap → Prop} (hF : FOk X F) (S : Spare X B) (hc : X.calm = true) (T : Turn X.prog X.w X.K tg J fp it tn) (hb : ∀ b ∈ fp, B < b) : TurnK X F tg J fp it tn where
  item := fun i pins s σ H I f hp st go => by
    have d1 := T.item X rfl rfl rfl hc i pins s σ H X.xe I hp st go
    have d2 := T.item (hatX X s H B) rfl rfl rfl hc i [] s [] H X.xe (hat_inv I S) (fun b q => hat_fp I S (hp b q).1 (hb b q)) st go
    refine wpAny_mono (wpAny_both d1 (wpAny_toks d2)) ?_ fun _ _ q => q.1
    rintro r z1 ⟨⟨u, rfl, h4⟩, tk4, u', eu, h4'⟩
    cases eu
    refine ⟨u, rfl, wpAny_mono (wpAny_both h4 (wpAny_toks h4')) ?_ fun _ _ q => q.1⟩
    rintro _ z2 ⟨q, tk5, _, _, J5, _⟩
    exact ⟨q, hF.go _ _ f ⟨Nat.le_trans tk4 tk5, hat_ns I S J5⟩⟩
  done := fun i pins s σ H I f hp st go => lift_both hF S I f (T.done X rfl rfl rfl hc i pins s σ H X.xe I hp st go) (T.done (hatX X s H B) rfl rfl rfl hc i [] s [] H X.xe (hat_inv I S) (fun b q => hat_fp I S (hp b q).1 (hb b q)) st go) fun a z q => ⟨_, _, _, q.2⟩
theorem turnK_list {a it : Addr} (hF : FOk X F) (hc : X.calm = true) : TurnK X F tg (Itl X.K a) [it] it (fun i h => h.IsListIter it a i) where
  item := fun i pins s σ H I f hp st go => by
    obtain ⟨xs, x, hq, hx⟩ := go
    obtain ⟨its, rv, pl, _⟩ := I.list hq
    obtain ⟨u, hu, ru⟩ := rv.get hx
    obtain ⟨c0, c1, c2, c3, c4, c5⟩ := hp it (by simp)
    refine wpAny_pyNext_list_item st pl.isList (x := u) (by simpa using hu) fun h' st' sb => ?_
    have kp : ∀ y v, y ≠ it → s.heap.get? y = some v → h'.get? y = some v := fun y v hy z => (sb.2 y hy).trans z
    have I1 : Inv X pins σ H { s with heap := h' } := I.turned (t' := s.toks) kp c0 c1 c3 c4 c5
    have f1 : F { s with heap := h' } := hF.go _ _ f (Kp.at (Nat.le_refl _) fun v z => ⟨v.slots, kp _ _ (Ne.symm c1) z⟩)
    obtain ⟨o, e, c, d⟩ := id st'
    exact ⟨u, rfl, go_of (s := { s with heap := h' }) e c d (by decide) ⟨⟨x, H, I1, ru, ⟨rfl, fun ys hy => by rw [I.list_inj hy hq]; exact hx⟩, st', fun b hb => (hp b hb).1⟩, f1⟩⟩
  done := fun i pins s σ H I f hp st go => by
    obtain ⟨xs, hq, hx⟩ := go
    obtain ⟨its, rv, pl, _⟩ := I.list hq
    obtain ⟨c0, c1, c2, c3, c4, c5⟩ := hp it (by simp)
    have hl := rv.length
    exact wpAny_pyNext_list_end (I.ok.hd hc) st pl.isList (by simp; omega) fun h' eb => ⟨⟨rfl, I.turned (t' := s.toks) (fun y v hy z => eb y v hy z) c0 c1 c3 c4 c5⟩, hF.go _ _ f (Kp.at (Nat.le_refl _) fun v z => ⟨v.slots, eb _ _ (Ne.symm c1) z⟩)⟩
theorem turnK_range {it : Addr} {lo : Int} {n : Nat} (hF : FOk X F) (hc : X.calm = true) : TurnK X F tg (Itr lo n) [it] it (fun i h => IsRangeIter h it (lo + (i : Nat) * 1) ((n : Int) - (i : Nat)) 1) where
  item := fun i pins s σ H I f hp st go => by
    obtain ⟨c0, c1, c2, c3, c4, c5⟩ := hp it (by simp)
    refine wpAny_with_toks (Nat.le_refl _) ((Walks.range (prog := X.prog) (w := X.w) (I.ok.hd hc) it lo 1 n).item i s _ _ go st fun v h' tk hv st' kk => ?_)
    obtain ⟨t, rfl⟩ := hv
    intro htk
    have htk2 : s.toks ≤ tk := htk
    have kp : ∀ y v, y ≠ it → s.heap.get? y = some v → h'.get? y = some v := fun y v hy z => kk y v (by simpa using hy) z
    have I1 : Inv X pins σ H { s with heap := h', toks := tk } := I.turned kp c0 c1 c3 c4 c5
    have f1 : F { s with heap := h', toks := tk } := hF.go _ _ f (Kp.at htk2 fun v z => ⟨v.slots, kp _ _ (Ne.symm c1) z⟩)
    refine ⟨_, rfl, go_of (s := { s with heap := h', toks := tk }) (n := "range_iterator") st' rfl rfl (by decide) ⟨⟨.int (lo + i), H, I1, ⟨t, ?_⟩, ⟨rfl, rfl⟩, st', fun b hb => (hp b hb).1⟩, f1⟩⟩
    rw [Int.mul_one]
  done := fun i pins s σ H I f hp st go => by
    obtain ⟨c0, c1, c2, c3, c4, c5⟩ := hp it (by simp)
    exact wpAny_pyNext_range_end (I.ok.hd hc) st (by have : n ≤ i := go; omega) fun h' eb => ⟨⟨rfl, I.turned (t' := s.toks) (fun y v hy z => eb y v hy z) c0 c1 c3 c4 c5⟩, hF.go _ _ f (Kp.at (Nat.le_refl _) fun v z => ⟨v.slots, eb _ _ (Ne.symm c1) z⟩)⟩
theorem ki_list (hF : FOk X F) (hc : X.calm = true) (he : KE X F e te) (hK : X.K = K := by rfl) : KIt X F tg e (iList K te) := by
  subst hK
  refine ⟨fun pins s σ H R I f h => thn (he.run pins s σ H _ I f h) ?_⟩
  rintro v z ⟨⟨y, H1, I1, r1, a, rfl, ⟨xs, hq⟩, q⟩, f1⟩
  cases r1
  obtain ⟨its, rv, pl, hz⟩ := I1.list hq
  refine wpAny_pyIter_list pl.isList ⟨⟨z.heap.objs.size, [z.heap.objs.size], _, _, H1, rfl, I1.kept (t' := z.toks) fun b u q => Heap.get?_push_of_some _ q, turn_list a _, turnK_list hF hc, ⟨_, Heap.get?_push_size _ rfl, rfl, rfl⟩, fun b hb => ?_, q⟩, hF.go _ _ f1 (Kp.push (Nat.le_refl _))⟩
  obtain rfl : b = z.heap.objs.size := by simpa using hb
  exact I1.fpOk (Nat.le_refl _) (I1.hok.fresh (Nat.le_refl _))
theorem ki_range1 {a : Expr} (hF : FOk X F) (hc : X.calm = true) (hg : Gl X "range") (hm : X.mg "range" = none) (ha : KA X F [a] t) (hs : starEach [a] X.env = [(false, eval a X.env)] := by rfl) : KIt X F tg (.Call (.Name "range" p) [a] [] pos) (iRng1 t) := by
  refine ⟨fun pins s σ H R I f h => Call_ (ld_blt I hg hm boot_range (PyProof.Rows.callWith_type1 (thn (ha.run pos pins s σ H _ I f h) ?_) hs rfl))⟩
  rintro us s1 ⟨⟨vs, H1, I1, r1, j, rfl, q1, q2, q⟩, f1⟩
  cases r1 with
  | cons r rr =>
    cases rr
    obtain ⟨t, rfl⟩ := r
    refine call_range_1 (wpAny_pyIter_range (IsRange.new ..) (small_one (by omega) (by omega) q1 q2) ?_)
    have I2 := I1.kept (h' := s1.heap.push { cls := .type "range", data := .fields #[.int 0 s1.toks, .int j t, .int 1 (s1.toks + 1)] }) (t' := s1.toks + 1 + 1) fun b u q => Heap.get?_push_of_some _ q
    have f2 : F { s1 with heap := s1.heap.push { cls := .type "range", data := .fields #[.int 0 s1.toks, .int j t, .int 1 (s1.toks + 1)] }, toks := s1.toks + 1 + 1 } := hF.go _ _ f1 (Kp.push (by omega))
    generalize s1.heap.push { cls := .type "range", data := .fields #[.int 0 s1.toks, .int j t, .int 1 (s1.toks + 1)] } = h2 at I2 f2
    refine ⟨⟨h2.objs.size, [h2.objs.size], _, _, H1, rfl, I2.kept (t' := s1.toks + 1 + 1) fun b u q => Heap.get?_push_of_some _ q, turn_range _ 0 j.toNat, turnK_range hF hc, ?_, fun b hb => ?_, q⟩, hF.go _ _ f2 (Kp.push (Nat.le_refl _))⟩
    · have e2 : ((j.toNat : Nat) : Int) - ((0 : Nat) : Int) = Builtin.Range.rangeSize 0 j 1 := by rw [rangeSize_one]; split <;> omega
      show IsRangeIter _ _ (0 + ((0 : Nat) : Int) * 1) (((j.toNat : Nat) : Int) - ((0 : Nat) : Int)) 1
      rw [e2]
      exact Heap.get?_push_size _ rfl
    · obtain rfl : b = h2.objs.size := by simpa using hb
      exact I2.fpOk (Nat.le_refl _) (I2.hok.fresh (Nat.le_refl _))
theorem ks_for {iter : Expr} {body : List Stmt} {wi : TI} {g : TG} {tb : TS} (hp : PassesOwn (model X.prog X.w) X.A X.env X.xe) (hi : KIt X F tg iter wi) (hg : KG X F tg g) (hb : KSs X F body tb)
    (hs : ∀ x, foldedSetIterable iter X.env x = pure x := by intro _; rfl) : KS X F (.For tg iter body [] pos) (tFor wi g tb) := by
  refine ⟨fun pins s σ H D I f h => wpAny_For (thn (hi.run pins s σ H _ I f h) fun v s1 h1 => thn h1 fun itv s2 h2 => ?_) hs⟩
  obtain ⟨⟨it, fp, tn, J, H2, rfl, I2, T, TK, st2, fpo, W, ⟨m0, w0⟩, turn⟩, f2⟩ := h2
  have stat : ∀ {H' : Hp}, (∀ b ∈ fp, H' b = none) → ∀ b ∈ fp, FpOk X pins H' b := fun hn b hb => ⟨hn b hb, (fpo b hb).2⟩
  refine codeAny_forLoop_any (fun n z => ∃ i τ H', Inv X pins τ H' z ∧ tn i z.heap ∧ (∀ b ∈ fp, H' b = none) ∧ W i n τ H' ∧ F z) ?_ m0 ⟨0, σ, H2, I2, st2, fun b hb => (fpo b hb).1, w0, f2⟩
  rintro n s3 ⟨i, τ, H3, I3, st3, fr3, w3, f3⟩
  rcases turn i n τ H3 w3 with ⟨stop, qn⟩ | ⟨go, N, hN, step⟩
  · refine wpAny_passesOwn hp (thn (TK.done i pins s3 τ H3 I3 f3 (stat fr3) st3 stop) ?_)
    rintro r s4 ⟨⟨rfl, I4⟩, f4⟩
    exact wpAny_execs_nil ⟨⟨τ, H3, I4, qn⟩, f4⟩
  · refine wpAny_passesOwn hp (thn (TK.item i pins s3 τ H3 I3 f3 (stat fr3) st3 go) ?_)
    rintro r s4 ⟨u, rfl, h4⟩
    refine wpAny_passesOwn hp (thn h4 ?_)
    rintro _ s5 ⟨⟨y, H5, I5, r5, y5, st5, fr5⟩, f5⟩
    have I5' := I5.pinned (stat fr5) (T.obj _ _ st5)
    refine wpAny_passesOwn hp (thn (hg.run _ s5 τ H5 y u _ I5' f5 r5 (step y H5 y5)) ?_)
    rintro _ s6 ⟨⟨τ6, H6, I6, q6⟩, f6⟩
    refine wpAny_passesOwn hp (thn (hb.run _ s6 τ6 H6 _ I6 f6 q6) ?_)
    rintro fl s7 ⟨q7, f7⟩
    have again : ∀ {τ7 : L2.St} {H7 : Hp}, Inv X (pins ++ pinsAt fp s5.heap) τ7 H7 s7 → N τ7 H7 → ∃ m, m < n ∧ ∃ i τ' H', Inv X pins τ' H' s7 ∧ tn i s7.heap ∧ (∀ b ∈ fp, H' b = none) ∧ W i m τ' H' ∧ F s7 := by
      intro τ7 H7 I7 n7
      obtain ⟨m', hm, w7⟩ := hN τ7 H7 n7
      have pin7 : ∀ b ∈ fp, ∀ u, s5.heap.get? b = some u → s7.heap.get? b = some u ∧ H7 b = none := fun b hb u q => by
        have z := I7.pin (b, u) (List.mem_append_right _ (List.mem_append_right _ (mem_pinsAt hb q)))
        exact ⟨z.1, z.2.1⟩
      refine ⟨m', hm, i + 1, τ7, H7, I7.unpinned, T.keep _ _ _ st5 fun b hb u q => (pin7 b hb u q).1, fun b hb => ?_, w7, f7⟩
      obtain ⟨u, q, _⟩ := T.obj _ _ st5 b hb
      exact (pin7 b hb u q).2
    cases fl with
    | next =>
      obtain ⟨_, _, I7, n7⟩ := q7
      exact again I7 n7
    | cont =>
      obtain ⟨_, _, I7, n7⟩ := q7
      exact again I7 n7
    | brk =>
      obtain ⟨τ7, H7, I7, q7⟩ := q7
      exact ⟨⟨τ7, H7, I7.unpinned, q7⟩, f7⟩
    | ret v =>
      obtain ⟨x7, τ7, H7, I7, r7, q7⟩ := q7
      exact ⟨⟨x7, τ7, H7, I7.unpinned, r7, q7⟩, f7⟩
end
end Sq


set_option Elab.async false
set_option maxRecDepth 100000
set_option maxHeartbeats 4000000
/-! comprehensions that keep F: the block has a frame of its own, ours is a caller's there -/
namespace Sq
open PySem PySem.Spec PyProof.Rows L2
section
variable {X : Cx} {F : Shared → Prop} {B : Addr}
theorem klc_core {pins : List (Addr × Obj)} {s : Shared} {σ : L2.St} {H : Hp} {Q : VK} {elt tg iter : Expr} {ifs : List Expr} {scope : Scope} {own : List (Str × Nat)} {pos pos' : Pos} {wi : TI} {g : TG} {tt : TT} {te : TE} {use : Option (Value → Sem Unit)} {Z : Value → Shared → Prop}
    (hF : FOk X F) (hc : X.calm = true) (hN : X.N.Nodup) (I : Inv X pins σ H s) (f : F s) (hi : KIt X F tg iter wi) (ok : BlkOk X.N X.env.scope scope own)
    (hg : ∀ (s : Shared) (H : Hp) (C : Addr) (cl : List (Str × Addr)) (fp : List Addr), PG (X.blk s H scope (compEnvC scope cl C X.env) fp) tg g)
    (ht : ∀ (s : Shared) (H : Hp) (C : Addr) (cl : List (Str × Addr)) (fp : List Addr), PTs (X.blk s H scope (compEnvC scope cl C X.env) fp) ifs tt)
    (he : ∀ (s : Shared) (H : Hp) (C : Addr) (cl : List (Str × Addr)) (fp : List Addr), PE (X.blk s H scope (compEnvC scope cl C X.env) fp) elt te)
    (hs : ∀ x, foldedSetIterable iter X.env x = pure x) (h : tLc wi g tt te (own.map (·.2)) σ H Q)
    (fin : ∀ D C z m H', Inv X pins σ H' z → F z → Q (.ref D) H' → z.heap.Ns C m → FpOk X pins H' C → compPost (model X.prog X.w) X.A X.xe use Z (.ref D) C (.ok .next) z) :
    wpAny (model X.prog X.w) X.A (comprehension (.ListComp elt [⟨tg, iter, ifs, 0⟩] scope pos) scope X.env pos' (newList []) false (eval iter X.env) use) Z X.xe s := by
  have free : ∀ y ∈ scope.names, y.2 = .free → ∃ c, X.env.cells.lookup y.1 = some c := fun y hy e => (ok.free y hy e).elim (fun q => I.ok.has _ (.inl q)) fun q => I.ok.has _ (.inr q)
  refine wpAny_comprehension_free (use := use) rfl hs (closure_ok free) ok.kind (fun y hy e => by rw [ok.uniq y hy, e]) (thn (hi.run pins s σ H _ I f h) fun xv s1 hx => thn hx fun itv s2 h2 => ?_)
  obtain ⟨⟨it, fp, tn, J, H2, rfl, I2, T, _, st2, fpo, q⟩, f2⟩ := h2
  refine wpAny_newObj_type (newEnv_comp ?_) (by show 0 ≤ sizeLine; decide)
  obtain ⟨D, hD⟩ : ∃ D, s2.heap.objs.size = D := ⟨_, rfl⟩
  have nD : H2 D = none := I2.hok.fresh (Nat.le_of_eq hD)
  obtain ⟨W, ⟨m0, w0⟩, turn⟩ := q D nD
  rw [hD]
  obtain ⟨s3, hs3⟩ : ∃ s3 : Shared, ({ s2 with heap := s2.heap.push { cls := .type "list", data := .seq ([] : List Value).toArray } } : Shared) = s3 := ⟨_, rfl⟩
  have e3 : s3.heap = s2.heap.push { cls := .type "list", data := .seq ([] : List Value).toArray } := by rw [← hs3]
  have I3 : Inv X pins σ (upd H2 D (.lst [])) s3 := by
    rw [← hs3]
    refine I2.laid (t' := s2.toks) (fun b u e => Heap.get?_push_of_some _ e) (Nat.le_of_eq hD) ⟨Nat.zero_le _, [], 0, .nil, ?_⟩
    rw [← hD]
    exact Heap.get?_push_size _ rfl
  have f3 : F s3 := by
    rw [← hs3]
    exact hF.go _ _ f2 (Kp.push (Nat.le_refl _))
  have young : ∀ b ∈ fp, FpOk X pins (upd H2 D (.lst [])) b ∧ b < s3.heap.objs.size := fun b hb => by
    obtain ⟨u, e, _⟩ := T.obj _ _ st2 b hb
    have lt := Heap.lt_size e
    refine ⟨⟨?_, (fpo b hb).2⟩, by rw [e3, Heap.size_push]; exact Nat.lt_succ_of_lt lt⟩
    rw [upd_ne (by rw [← hD]; exact Nat.ne_of_lt lt)]
    exact (fpo b hb).1
  have st3 : tn 0 s3.heap := T.keep _ _ _ st2 fun b _ u e => by rw [e3]; exact Heap.get?_push_of_some _ e
  have I4 := block_start I3 ok hN young
  obtain ⟨cl, hcl⟩ : ∃ cl, cellsFrom (s3.heap.objs.size + 1) scope.names (cloFrom X.env.cells scope.names []) = cl := ⟨_, rfl⟩
  have pg := hg s3 (upd H2 D (.lst [])) s3.heap.objs.size cl fp
  have pt := ht s3 (upd H2 D (.lst [])) s3.heap.objs.size cl fp
  have pe := he s3 (upd H2 D (.lst [])) s3.heap.objs.size cl fp
  rw [hs3]
  show codeAny _ _ (.compStart (.ListComp elt [⟨tg, iter, ifs, 0⟩] scope pos) 0 (.ref it) (.ref D) (compEnvC scope (cellsFrom (s3.heap.objs.size + 1) scope.names (cloFrom X.env.cells scope.names [])) s3.heap.objs.size X.env)) (compPost (model X.prog X.w) X.A X.xe use Z (.ref D) s3.heap.objs.size) { s3 with heap := pushCells (s3.heap.push { cls := .type "dict", data := .dict #[] }) scope.names }
  rw [hcl] at I4 ⊢
  obtain ⟨ce, hce⟩ : ∃ ce, compEnvC scope cl s3.heap.objs.size X.env = ce := ⟨_, rfl⟩
  have cL : ce.locals = s3.heap.objs.size := by rw [← hce]; rfl
  rw [hce] at I4 pg pt pe ⊢
  obtain ⟨H3, hH3⟩ : ∃ H3, upd H2 D (.lst []) = H3 := ⟨_, rfl⟩
  rw [hH3] at I3 I4 pg pt pe w0 young
  have L3 : H3 X.env.locals = none := I3.free
  have Lfp : X.env.locals ∉ fp := fun z => (young _ z).1.2.1 rfl
  obtain ⟨s4, hs4⟩ : ∃ s4 : Shared, ({ s3 with heap := pushCells (s3.heap.push { cls := .type "dict", data := .dict #[] }) scope.names } : Shared) = s4 := ⟨_, rfl⟩
  have tk4 : s3.toks = s4.toks := by rw [← hs4]
  rw [hs4] at I4 ⊢
  have st4 : tn 0 s4.heap := T.keep _ _ _ st3 fun b _ u e => by rw [← hs4]; exact pushCells_keeps _ _ _ _ (Heap.get?_push_of_some _ e)
  have stat : ∀ {τ : L2.St} {H' : Hp} {z : Shared}, Inv (X.blk s3 H3 scope ce fp) [] τ H' z → (∀ b ∈ fp, H' b = none) → ∀ b ∈ fp, FpOk (X.blk s3 H3 scope ce fp) [] H' b := fun {τ H' z} I' hn b hb =>
    ⟨hn b hb, (I'.ok.exf b hb).1, I'.ok.exfs b hb, .inl hb, fun x c e => (I'.ok.exf b hb).2 x c e, fun p hp => absurd (show p ∈ ([] : List (Addr × Obj)) ++ [] from hp) (by simp)⟩
  have loop : codeAny (model X.prog X.w) X.A (.compLoop (.ListComp elt [⟨tg, iter, ifs, 0⟩] scope pos) 0 (.ref it) (.ref D) ce) (compPost (model X.prog X.w) X.A X.xe use Z (.ref D) s3.heap.objs.size) s4 := by
    refine codeAny_with_toks (n := s3.toks) (Nat.le_of_eq tk4) (codeAny_mono (compLoop_any (R := fun r z => s3.toks ≤ z.toks → compPost (model X.prog X.w) X.A X.xe use Z (.ref D) s3.heap.objs.size r z) (fun n z => ∃ i H', Inv (X.blk s3 H3 scope ce fp) [] (wipe σ (own.map (·.2))) H' z ∧ tn i z.heap ∧ (∀ b ∈ fp, H' b = none) ∧ W i n H') ?_ m0 ⟨0, H3, I4, st4, fun b hb => (young b hb).1.1, w0⟩) fun r z q => q)
    rintro n s5 ⟨i, H5, I5, st5, n5, w5⟩
    rcases turn i n H5 w5 with ⟨stop, qq⟩ | ⟨go, Nx, hNx, step⟩
    · refine thnF (T.done (X.blk s3 H3 scope ce fp) rfl rfl rfl hc i [] s5 _ H5 (fun _ _ => False) I5 (stat I5 n5) st5 stop) ?_
      rintro r s6 ⟨rfl, I6⟩ tk6
      have I7 : Inv X pins σ H5 s6 := I3.call' (ch := fp) I6.os I6.base I6.hok I6.bare fun b hb => ⟨(young b hb).1.2.2.2.1, (young b hb).1.2.1, (young b hb).1.2.2.2.2.1, (young b hb).1.2.2.2.2.2⟩
      have f6 : F s6 := hF.go _ _ f3 (Kp.at tk6 fun u e => I6.base.any e L3 Lfp)
      have nC : H5 ce.locals = none := I6.free
      rw [cL] at nC
      obtain ⟨m, hn, _⟩ := I6.loc
      have hn2 : s6.heap.Ns ce.locals m := hn
      rw [cL] at hn2
      exact fin D s3.heap.objs.size s6 m H5 I7 f6 qq hn2 (I3.fpOk (Nat.le_refl _) nC)
    · refine thnF (T.item (X.blk s3 H3 scope ce fp) rfl rfl rfl hc i [] s5 _ H5 (fun _ _ => False) I5 (stat I5 n5) st5 go) ?_
      rintro r s6 ⟨u, rfl, h6⟩
      refine thnF h6 ?_
      rintro _ s7 ⟨x, H7, I7, r7, y7, st7, n7⟩
      have I7' := I7.pinned (stat I7 n7) (T.obj _ _ st7)
      refine thnF (pg.run _ s7 _ H7 x u _ I7' r7 (step x H7 y7)) ?_
      rintro _ s8 ⟨τ8, H8, I8, hw8, q8⟩
      refine thnF (pt.run _ s8 τ8 H8 _ I8 q8) ?_
      rintro b s9 ⟨H9, I9, q9⟩
      have back : ∀ {z : Shared} {H' : Hp}, Inv (X.blk s3 H3 scope ce fp) ([] ++ pinsAt fp s7.heap) τ8 H' z → Nx H' → ∃ m, m < n ∧ ∃ i H', Inv (X.blk s3 H3 scope ce fp) [] (wipe σ (own.map (·.2))) H' z ∧ tn i z.heap ∧ (∀ b ∈ fp, H' b = none) ∧ W i m H' := by
        intro z H' I' nx
        obtain ⟨m', hm, w'⟩ := hNx H' nx
        have pin' : ∀ b ∈ fp, ∀ u, s7.heap.get? b = some u → z.heap.get? b = some u ∧ H' b = none := fun b hb u e => by
          have y := I'.pin (b, u) (List.mem_append_right _ (List.mem_append_right _ (mem_pinsAt hb e)))
          exact ⟨y.1, y.2.1⟩
        have hl : (wipe σ (own.map (·.2))).length = τ8.length := by rw [← hw8, wipe_length]
        refine ⟨m', hm, i + 1, H', (I'.unpinned (pins := [])).weak hl (fun j v e => ?_), T.keep _ _ _ st7 fun b hb u e => (pin' b hb u e).1, fun b hb => ?_, w'⟩
        · rw [← hw8] at e
          exact (wipe_some e).1
        · obtain ⟨u, e, _⟩ := T.obj _ _ st7 b hb
          exact (pin' b hb u e).2
      cases b with
      | false =>
        simp only [Bool.false_eq_true, if_false] at q9 ⊢
        exact back I9 q9
      | true =>
        simp only [if_true] at q9 ⊢
        refine thnF (pe.run _ s9 τ8 H9 _ I9 q9) ?_
        rintro z s10 ⟨yv, H10, I10, r10, acc, hD10, hz10, nx⟩
        exact app_ok (X := X.blk s3 H3 scope ce fp) I10 hD10 hz10 r10 fun s11 I11 => back I11 nx
  exact codeAny_compStart_list loop (T.self X.A 0 _ _ _ st4 loop)
theorem ke_lc {elt tg iter : Expr} {ifs : List Expr} {scope : Scope} {own : List (Str × Nat)} {pos : Pos} {wi : TI} {g : TG} {tt : TT} {te : TE} (hF : FOk X F) (hc : X.calm = true) (hN : X.N.Nodup) (hi : KIt X F tg iter wi) (ok : BlkOk X.N X.env.scope scope own)
    (hg : ∀ (s : Shared) (H : Hp) (C : Addr) (cl : List (Str × Addr)) (fp : List Addr), PG (X.blk s H scope (compEnvC scope cl C X.env) fp) tg g)
    (ht : ∀ (s : Shared) (H : Hp) (C : Addr) (cl : List (Str × Addr)) (fp : List Addr), PTs (X.blk s H scope (compEnvC scope cl C X.env) fp) ifs tt)
    (he : ∀ (s : Shared) (H : Hp) (C : Addr) (cl : List (Str × Addr)) (fp : List Addr), PE (X.blk s H scope (compEnvC scope cl C X.env) fp) elt te)
    (hs : ∀ x, foldedSetIterable iter X.env x = pure x := by intro _; rfl) : KE X F (.ListComp elt [⟨tg, iter, ifs, 0⟩] scope pos) (tLc wi g tt te (own.map (·.2))) := by
  refine ⟨fun pins s σ H Q I f h => ?_⟩
  rw [eval_ListComp]
  refine klc_core hF hc hN I f hi ok hg ht he hs h fun D C z m H' I' f' q hn fc => ⟨m, hn, fun h2 sb => ?_⟩
  obtain ⟨c0, c1, c2, c3, c4, c5⟩ := fc
  have kp : ∀ y u, y ≠ C → z.heap.get? y = some u → h2.get? y = some u := fun y u hy e => (sb.2 y hy).trans e
  exact ⟨⟨.ref D, H', I'.turned (t' := z.toks) kp c0 c1 c3 c4 c5, rfl, q⟩, hF.go _ _ f' (Kp.at (Nat.le_refl _) fun u e => ⟨u.slots, kp _ _ (Ne.symm c1) e⟩)⟩
theorem ks_setLc {i : Nat} {y : Str} {py : Pos} {elt tg iter : Expr} {ifs : List Expr} {scope : Scope} {own : List (Str × Nat)} {pos spos : Pos} {wi : TI} {g : TG} {tt : TT} {te : TE} (hF : FOk X F) (hy' : FSt X F y) (hc : X.calm = true) (hN : X.N.Nodup) (hy : X.N[i]? = some y) (hyl : X.env.scope.names.lookup y = some .local)
    (hsw : swapsWith (.ListComp elt [⟨tg, iter, ifs, 0⟩] scope pos) (some (.Name y py)) spos.line X.env = pure true) (hi : KIt X F tg iter wi) (ok : BlkOk X.N X.env.scope scope own)
    (hg : ∀ (s : Shared) (H : Hp) (C : Addr) (cl : List (Str × Addr)) (fp : List Addr), PG (X.blk s H scope (compEnvC scope cl C X.env) fp) tg g)
    (ht : ∀ (s : Shared) (H : Hp) (C : Addr) (cl : List (Str × Addr)) (fp : List Addr), PTs (X.blk s H scope (compEnvC scope cl C X.env) fp) ifs tt)
    (he : ∀ (s : Shared) (H : Hp) (C : Addr) (cl : List (Str × Addr)) (fp : List Addr), PE (X.blk s H scope (compEnvC scope cl C X.env) fp) elt te)
    (hs : ∀ x, foldedSetIterable iter X.env x = pure x := by intro _; rfl) : KS X F (.Assign [.Name y py] (.ListComp elt [⟨tg, iter, ifs, 0⟩] scope pos) spos) (tAsg (tLc wi g tt te (own.map (·.2))) (gName i)) := by
  refine ⟨fun pins s σ H D I f h => ?_⟩
  rw [exec_Assign_Name_used _ _ _ _ hsw]
  refine wpAny_bind (wpAny_standAt (wpAny_bind ?_))
  show wpAny _ X.A (do
    let _ ← comprehension (.ListComp elt [⟨tg, iter, ifs, 0⟩] scope pos) scope X.env (firstIterPos [⟨tg, iter, ifs, 0⟩] pos) (newList []) false (eval iter X.env) (some (assign (.Name y py) X.env))) _ _ s
  have h : tLc wi g tt te (own.map (·.2)) σ H (fun x H1 => gName i x σ H1 D.nx) := h
  refine wpAny_bind (thn (klc_core (Z := fun _ z => SP X pins D .next z ∧ F z) hF hc hN I f hi ok hg ht he hs h fun L C z m H' I' f' q hn fc => ?_) fun _ z hq => wpAny_pure (wpAny_pure hq))
  obtain ⟨c0, c1, c2, c3, c4, c5⟩ := fc
  obtain ⟨mL, hL, _⟩ := I'.loc
  have w1 := store_ok2 (M := model X.prog X.w) (A := X.A) (E := X.xe) (v := V.ref L) (Q := fun _ z2 => Inv X pins (σ.set i (some (V.ref L))) H' z2 ∧ ∃ a, Heap.SameBut a z.heap z2.heap ∧ (a = X.env.locals ∨ X.env.cells.lookup y = some a)) I' hN hy (.inl hyl) rfl (fun z2 q1 q2 => ⟨q1, q2⟩) (.inr hyl)
  have w2 := wpAny_storeName_local (M := model X.prog X.w) (A := X.A) (E := X.xe) (s := z) (env := X.env) (v := Value.ref L) (Q := fun _ z2 => F z2) hyl hL (fun h' n' _ => hy' z h' _ _ mL f' (Nat.le_succ _) hL n') (by rw [I'.ok.kind]; rfl)
  show wpAny _ _ (assign (.Name y py) X.env (.ref L)) _ _ _
  refine wpAny_assign_Name (wpAny_mono (wpAny_both w1 w2) ?_ fun _ _ q => q.1)
  rintro _ s2 ⟨⟨I2, a, sb, ha⟩, f2⟩
  have haC : C ≠ a := by
    rcases ha with e | e
    · rw [e]
      exact c1
    · exact fun e2 => c4 y a e e2.symm
  have kp : ∀ y3 u, ∀ h3 : Heap, Heap.SameBut C s2.heap h3 → y3 ≠ C → s2.heap.get? y3 = some u → h3.get? y3 = some u := fun y3 u h3 sb3 hy3 e => (sb3.2 y3 hy3).trans e
  refine ⟨m, hn.sameBut sb haC, fun h3 sb3 => ⟨⟨_, H', I2.turned (t' := s2.toks) (fun b o hb e => kp b o h3 sb3 hb e) c0 c1 c3 c4 c5, q⟩, hF.go _ _ f2 (Kp.at (Nat.le_refl _) fun u e => ⟨u.slots, kp _ _ h3 sb3 (Ne.symm c1) e⟩)⟩⟩
end
section
variable {X : Cx} {F : Shared → Prop} {B : Addr} {o e : Expr} {to te : TE}
/-- a text's method of one argument -/
theorem ke_m1 {id : String} {name : Str} {apos pos : Pos} {r : V → List V → Hp → VK → Prop} (slot : Slot "str" name id) (ty : typeOf (.builtin id) = pure (.type "method_descriptor")) (rule : FMt X F id r) (ho : KE X F o to) (he : KE X F e te)
    (hs : starEach [e] X.env = [(false, eval e X.env)] := by rfl) (hbase : attributeBase o name X.env (eval o X.env) = eval o X.env := by rfl) (hline : (apos.endLine == pos.line) = true := by rfl) :
    KE X F (.Call (.Attribute o name apos) [e] [] pos) (tM1 r to te) := by
  refine ⟨fun pins s σ H Q I f h => PySem.Call_method1 hbase hs hline (thn (ho.run pins s σ H _ I f h) ?_)⟩
  rintro v s1 ⟨⟨x, H1, I1, r1, ⟨a, rfl⟩, q1⟩, f1⟩
  obtain ⟨t, rfl⟩ := _root_.id r1
  refine ⟨"str", _, PySem.F.plainAttrs_str, slot, ty, typeIs_str _ _ _, (fun _ z => nomatch z), Calls.callWith_builtin rfl (Calls.evalArgs_plain (Calls.spliced_cons (thn (he.run pins s1 σ H1 _ I1 f1 q1) ?_)))⟩
  rintro u s2 ⟨⟨y, H2, I2, r2, q2⟩, f2⟩
  exact Calls.spliced_nil (rule pins s2 σ H2 _ [y] _ [u] Q I2 f2 r1 (.cons r2 .nil) q2)
end
section
variable {X : Cx} {F : Shared → Prop} {pos : Pos}
/-- a, b = x, y -/
theorem ks_par {i j : Nat} {x y : Str} {a b : Expr} {ta : TA} {px py pt : Pos} {kt k2 pt2} (hF : FOk X F) (fx : FSt X F x) (fy : FSt X F y) (hc : X.calm = true) (hN : X.N.Nodup) (hi : X.N[i]? = some x) (hj : X.N[j]? = some y) (hij : i ≠ j)
    (hx : X.env.scope.names.lookup x = some .local) (hy : X.env.scope.names.lookup y = some .local) (ha : KA X F [a, b] ta)
    (hw : swappedStores [.Tuple [.Name x px, .Name y py] kt pt] (.Tuple [a, b] k2 pt2) X.env = pure (some [x, y]))
    (hs : swapsWithSole [.Tuple [.Name x px, .Name y py] kt pt] (.Tuple [a, b] k2 pt2) pos.line X.env = pure false := by rfl) :
    KS X F (.Assign [.Tuple [.Name x px, .Name y py] kt pt] (.Tuple [a, b] k2 pt2) pos) (tPar i j ta) := by
  refine ⟨fun pins s σ H D I f h => ?_⟩
  rw [exec_Assign_arm]
  refine wpAny_bind (wpAny_standAt ?_)
  rw [hs]
  refine wpAny_bind (wpAny_pure ?_)
  rw [if_neg (by decide)]
  refine wpAny_bind (Tuple_ (thn (ha.run _ pins s σ H _ I f h) ?_))
  rintro us s1 ⟨⟨vs, H1, I1, r1, v, w, rfl, q1⟩, f1⟩
  obtain ⟨u1, u2, rfl, rv, rw'⟩ : ∃ u1 u2, us = [u1, u2] ∧ RelV v u1 ∧ RelV w u2 := by
    cases r1 with
    | cons p q =>
      cases q with
      | cons p' q' =>
        cases q'
        exact ⟨_, _, rfl, p, p'⟩
  refine wpAny_newObj_type ?_ (by show 2 ≤ sizeLine; decide)
  have k2 : ∀ z u, s1.heap.get? z = some u → (s1.heap.push { cls := .type "tuple", data := .seq [u1, u2].toArray }).get? z = some u := fun z u e => Heap.get?_push_of_some _ e
  have I2 := I1.kept (t' := s1.toks) k2
  have f2 : F { s1 with heap := s1.heap.push { cls := .type "tuple", data := .seq [u1, u2].toArray } } := hF.go _ _ f1 (Kp.push (Nat.le_refl _))
  rw [hw]
  refine wpAny_bind (wpAny_pure ?_)
  show wpAny (model X.prog X.w) X.A (do
    rule "assign.swapped-stores"
    let items ← unpackItems (.ref s1.heap.objs.size) 2 none
    assignInOrder [fun v => bindName X.env y v, fun v => bindName X.env x v] items.reverse
    pure Flow.next) _ _ _
  refine wpAny_bind (wpAny_rule (wpAny_bind (unpackItems_tuple (items := #[u1, u2]) (I.ok.hd hc) (IsTup.new s1.heap _) fun h' hx' => ?_)))
  have k3 : ∀ z u, (s1.heap.push { cls := .type "tuple", data := .seq [u1, u2].toArray }).get? z = some u → h'.get? z = some u := fun z u e => hx' z u (Nat.ne_of_lt (Heap.lt_size e)) e
  have I3 := I2.kept (h' := h') (t' := s1.toks) k3
  have f3 : F { s1 with heap := h' } := hF.go _ _ f2 (Kp.at (Nat.le_refl _) fun u e => ⟨u.slots, k3 _ _ e⟩)
  show wpAny _ _ (assignInOrder [fun v => bindName X.env y v, fun v => bindName X.env x v] [u2, u1] >>= fun _ => pure Flow.next) _ _ _
  refine wpAny_bind (assignInOrder_cons (wpAny_bindName (fstore I3 f3 fy hN hj hy rw' fun s2 I4 f4 => ?_)))
  refine assignInOrder_cons (wpAny_bindName (fstore I4 f4 fx hN hi hx rv fun s3 I5 f5 => assignInOrder_nil (wpAny_pure ?_)))
  rw [List.set_comm _ _ (Ne.symm hij)] at I5
  exact ⟨⟨_, H1, I5, q1⟩, f5⟩
end
end Sq


set_option Elab.async false
set_option maxRecDepth 100000
set_option maxHeartbeats 2000000
/-! text.replace(sign * k, sign): all runs of the sign squeezed once -/
namespace Sq
open PySem
theorem take_short {α : Type} {y l : List α} (h : l.length < y.length) : ¬ l.take y.length = y := fun e => by
  have := congrArg List.length e
  rw [List.length_take] at this
  omega
/-- fewer than k of the sign, then another one or the end: nothing is replaced -/
theorem rl_few {c k : Nat} {z t : List Nat} (ht : ∀ r, t ≠ c :: r) : ∀ n, n < k → StrLaws.replL (List.replicate k c) z (List.replicate n c ++ t) = List.replicate n c ++ StrLaws.replL (List.replicate k c) z t
  | 0, _ => by simp
  | n + 1, h => by
    rw [List.replicate_succ, List.cons_append]
    rw [StrLaws.replL_miss, rl_few ht n (by omega), List.cons_append]
    intro e
    rw [← List.cons_append, ← List.replicate_succ, List.length_replicate, List.take_append, List.length_replicate, List.take_of_length_le (by rw [List.length_replicate]; omega)] at e
    cases t with
    | nil =>
      have := congrArg List.length e
      simp at this
      omega
    | cons x r =>
      have hx : x ≠ c := fun q => ht r (by rw [q])
      have m : x ∈ List.replicate k c := by
        rw [← e]
        refine List.mem_append_right _ ?_
        rw [show k - (n + 1) = (k - (n + 1) - 1) + 1 by omega, List.take_succ_cons]
        exact List.mem_cons_self
      exact hx (List.eq_of_mem_replicate m)
theorem rl_run {c k : Nat} {t : List Nat} (hk : 2 ≤ k) (ht : ∀ r, t ≠ c :: r) (n : Nat) : StrLaws.replL (List.replicate k c) [c] (List.replicate n c ++ t) = List.replicate (onceN k n) c ++ StrLaws.replL (List.replicate k c) [c] t := by
  induction n using Nat.strongRecOn with
  | ind n ih =>
    by_cases h : n < k
    · rw [rl_few ht n h]
      unfold onceN
      rw [Nat.div_eq_of_lt h, Nat.mod_eq_of_lt h, Nat.zero_add]
    · obtain ⟨m, rfl⟩ : ∃ m, n = k + m := ⟨n - k, by omega⟩
      have hit : (List.replicate (k + m) c ++ t).take k = List.replicate k c := by
        rw [← List.replicate_append_replicate, List.append_assoc, List.take_left' (by simp)]
      have rest : (List.replicate (k + m) c ++ t).drop k = List.replicate m c ++ t := by
        rw [← List.replicate_append_replicate, List.append_assoc, List.drop_left' (by simp)]
      obtain ⟨k', rfl⟩ : ∃ k', k = k' + 1 := ⟨k - 1, by omega⟩
      have e : List.replicate (k' + 1 + m) c ++ t = c :: (List.replicate (k' + m) c ++ t) := by
        rw [show k' + 1 + m = (k' + m) + 1 by omega, List.replicate_succ, List.cons_append]
      have hit2 := hit
      have rest2 := rest
      rw [e] at hit2 rest2
      rw [e, StrLaws.replL_hit (by simp) (by rw [List.length_replicate]; exact hit2), List.length_replicate, rest2, ih m (by omega)]
      have o : onceN (k' + 1) (k' + 1 + m) = onceN (k' + 1) m + 1 := by
        unfold onceN
        rw [Nat.add_comm (k' + 1) m, Nat.add_div_right _ (by omega), Nat.add_mod_right]
        omega
      rw [o, List.replicate_succ]
      rfl
theorem rl_goR {c k : Nat} (hk : 2 ≤ k) : ∀ (u : List Nat) (n : Nat), StrLaws.replL (List.replicate k c) [c] (List.replicate n c ++ u) = goR (onceN k) c n u
  | [], n => by
    rw [rl_run hk (fun r q => by cases q) n, StrLaws.replL_nil, List.append_nil]
    rfl
  | x :: r, n => by
    by_cases h : x = c
    · subst h
      have e : List.replicate n x ++ x :: r = List.replicate (n + 1) x ++ r := by
        rw [List.replicate_succ', List.append_assoc]
        rfl
      rw [e, rl_goR hk r (n + 1)]
      show _ = if x = x then goR (onceN k) x (n + 1) r else List.replicate (onceN k n) x ++ x :: goR (onceN k) x 0 r
      rw [if_pos rfl]
    · have hx : StrLaws.replL (List.replicate k c) [c] (x :: r) = x :: StrLaws.replL (List.replicate k c) [c] r := by
        refine StrLaws.replL_miss fun e => h ?_
        rw [List.length_replicate, show k = (k - 1) + 1 by omega, List.take_succ_cons, List.replicate_succ] at e
        exact (List.cons.inj e).1
      rw [rl_run hk (fun r' q => h (List.cons.inj q).1) n, hx]
      have ih := rl_goR (c := c) hk r 0
      rw [List.replicate_zero, List.nil_append] at ih
      rw [ih]
      show _ = goR (onceN k) c n (x :: r)
      show _ = if x = c then goR (onceN k) c (n + 1) r else List.replicate (onceN k n) c ++ x :: goR (onceN k) c 0 r
      rw [if_neg h]
theorem rl_sqT {c k : Nat} (hk : 2 ≤ k) (u : List Nat) : StrLaws.replL (List.replicate k c) [c] u = sqT c [(k : Int)] u := by
  have h := rl_goR (c := c) hk u 0
  rw [List.replicate_zero, List.nil_append] at h
  rw [h]
  have z : onceN k = fun n : Nat => (sqz (n : Int) [(k : Int)]).toNat := funext fun n => (once_nat hk).symm
  unfold sqT
  rw [z]
theorem rep_sqT {c : Nat} {k : Int} (hk : 2 ≤ k) (u : List Nat) : Txt.replace (SX.S u) (SX.S (repL k.toNat [c])) (SX.S [c]) = SX.S (sqT c [k] u) := by
  obtain ⟨n, rfl⟩ := Int.eq_ofNat_of_zero_le (show 0 ≤ k by omega)
  rw [Int.toNat_natCast, repL_one]
  have l : (SX.S (List.replicate n c)).length = n := by rw [SX.S_len, List.length_replicate]
  have e := StrLaws.replace_list (x := SX.S u) (y := SX.S (List.replicate n c)) (z := SX.S [c]) (by rw [l]; omega)
  have cp : ∀ a : List Nat, (SX.S a).cps.toList = a := fun a => by simp [SX.S]
  rw [cp, cp, cp, rl_sqT (by omega)] at e
  rw [← e]
end Sq


set_option Elab.async false
set_option maxRecDepth 100000
set_option maxHeartbeats 2000000
/-! a name whose text's token is known: what keeps it, who may be called with it -/
namespace Sq
open PySem PySem.Spec PyProof.Rows L2
theorem ns_inj {h : Heap} {L : Addr} {m m' : Str → Option Value} (a : h.Ns L m) (b : h.Ns L m') (x : Str) : m x = m' x := by
  obtain ⟨o, es, ep, e, d, _, f⟩ := a
  obtain ⟨o', es', ep', e', d', _, f'⟩ := b
  rw [e] at e'
  cases e'
  rw [d] at d'
  cases d'
  rw [← f, ← f']
/-- the name x of the frame holds the text c, by a token that is out -/
def GF (L : Addr) (x c : Str) (T : Nat) (s : Shared) : Prop := (T ≠ 0 ∧ T < s.toks) ∧ ∃ m, s.heap.Ns L m ∧ m x = some (.str c T)
section
variable {X : Cx} {x c : Str} {T : Nat}
theorem gf_ok : FOk X (GF X.env.locals x c T) := ⟨fun s z f k => ⟨⟨f.1.1, Nat.lt_of_lt_of_le f.1.2 k.tk⟩, let ⟨m, hn, e⟩ := f.2; ⟨m, k.ns m hn, e⟩⟩⟩
theorem gf_st {y : Str} (h : y ≠ x) : FSt X (GF X.env.locals x c T) y := fun s h' u t m f tk n n' => by
  obtain ⟨⟨t0, t1⟩, m0, hn, e⟩ := f
  refine ⟨⟨t0, Nat.lt_of_lt_of_le t1 tk⟩, _, n', ?_⟩
  show (if x = y then some u else m x) = _
  rw [if_neg (Ne.symm h), ns_inj n hn x]
  exact e
/-- the name, read -/
theorem gf_name {pins : List (Addr × Obj)} {σ : L2.St} {H : Hp} {s : Shared} {pos : Pos} {Q E : Value → Shared → Prop} (I : Inv X pins σ H s) (f : GF X.env.locals x c T s) (hl : X.env.scope.names.lookup x = some .local) (q : Q (.str c T) s)
    (hd : (x == ("__debug__" : Str)) = false := by decide) : wpAny (model X.prog X.w) X.A (eval (.Name x pos) X.env) Q E s := by
  obtain ⟨_, m, hn, e⟩ := f
  exact wpAny_Name (wpAny_loadName_local I.ok.kind hl hn e q) hd
end
/-! ## operations by values, with no spare dict -/
section
variable {X : Cx} {F : Shared → Prop} {K : PySem.W.Frag}
theorem fun_neg (hF : FOk X F) : FUn X F (unaryOp .USub) (rU fun i => .int (-i)) := fun pins s σ H x v Q I f rx h => by
  obtain ⟨i, rfl, q⟩ := h
  obtain ⟨t, rfl⟩ := rx
  exact neg_int ⟨⟨.int (-i), H, I.tok _, ⟨_, rfl⟩, q⟩, hF.tok f (Nat.le_succ _)⟩
theorem fix_list (hF : FOk X F) (hK : X.K = K := by rfl) : FIx X F (rIxL K) := by
  subst hK
  intro e i pins s σ H x y v u Q I f rx ry h hs
  obtain ⟨p, xs, j, z, rfl, rfl, hq, he, q⟩ := h
  cases rx
  obtain ⟨t, rfl⟩ := ry
  obtain ⟨its, r, pl, hz⟩ := I.list hq
  obtain ⟨n, h1, h2, h3, h4, h5⟩ := atI_get he
  obtain ⟨w, ew, rw'⟩ := r.get h2
  have hl := r.length
  have line := line63
  have done : EP X pins σ Q w s ∧ F s := ⟨⟨z, H, I, rw', q⟩, f⟩
  by_cases h0 : 0 ≤ j
  · have hn : j.toNat = n := by
      rw [seqIndex_of h0 h5] at h1
      exact Option.some.inj h1
    exact item_listR pl.isList h0 (by omega) (by rw [hn]; simpa using ew) done hs
  · have hn : (j + (its.toArray.size : Int)).toNat = n := by
      rw [seqIndex_neg (by omega) h4] at h1
      rw [List.size_toArray, ← hl]
      exact Option.some.inj h1
    exact subscriptTail_builtinR (x := w) pl.isList.typeIs slot_list_getitem.lookup
      (wpAny_getItem_list_neg (Q := fun r z => r = w ∧ EP X pins σ Q r z ∧ F z) pl.isList (by omega) (by rw [List.size_toArray] <;> omega) (by omega) (by rw [hn]; simpa using ew) ⟨rfl, done⟩) hs
theorem fmt_append (hF : FOk X F) : FMt X F "list.append" rAppend := by
  intro pins s σ H x vs v us Q I f rx rv h
  obtain ⟨l, xs, y, rfl, rfl, hH, hz, q⟩ := h
  cases rx
  obtain ⟨u, rfl, ru⟩ := rv.one
  obtain ⟨z, its, n, r, hl, e⟩ := I.lstM hH
  refine call_meets PySem.F.slot_list_append ⟨_, e, rfl⟩ PySem.F.entry_list_append (PySem.F.args_list_append_2 _ _) (PySem.list_append l its.toArray n u (by rw [List.size_toArray]; omega)) ⟨e, ?_⟩
  refine ⟨⟨.non, _, I.lset (its' := its ++ [u]) hH e (by simp) (r.append (.cons ru .nil)) ?_, rfl, q⟩, hF.go _ _ f (Kp.at (Nat.le_refl _) fun o eo => ⟨o.slots, ?_⟩)⟩
  · rw [List.length_append, List.length_singleton]
    omega
  · have ne : l ≠ X.env.locals := fun e2 => by
      have := I.free
      rw [← e2, hH] at this
      cases this
    exact (Heap.get?_update_other s.heap _ ne).trans eo
theorem fcall_list (hF : FOk X F) (hK : X.K = K := by rfl) : FCall X F (.type "list") (rListOf K) := by
  subst hK
  intro pins s σ H xs us Q I f r h
  obtain ⟨p, ys, rfl, hq, q⟩ := h
  obtain ⟨u, rfl, rx⟩ := vals1 r
  cases rx
  obtain ⟨its, r', pl, hz⟩ := I.list hq
  have hlen := r'.length
  obtain ⟨o, ho, hc, n, hd⟩ := pl.isList
  refine call_list_seq p (.inl rfl) ho hc hd (fun h' c' kp e => ⟨⟨.ref s.heap.objs.size, _, I.laid (t' := s.toks) kp (Nat.le_refl _) (show ObjOk X.prog X.w _ h' _ (.lst ys) from ⟨hz, its, c', r', e⟩), rfl, q _ (I.hok.fresh (Nat.le_refl _))⟩, hF.go _ _ f (Kp.at (Nat.le_refl _) fun v e2 => ⟨v.slots, kp _ _ e2⟩)⟩) (by simp only [List.size_toArray] <;> omega)
end
/-! ## text.replace(sign * number, sign) -/
section
variable {X : Cx} {x c : Str} {T : Nat}
def tRepK (iw n i : Nat) : TE := fun σ H Q => ∃ (u : List Nat) (a : Nat) (k : Int), σ[iw]? = some (some (.str (SX.S u))) ∧ σ[i]? = some (some (.str (SX.S [a]))) ∧ σ[n]? = some (some (.int k)) ∧ (2 ≤ k ∧ k ≤ 1000000 ∧ u.length ≤ 100000) ∧ Q (.str (SX.S (sqT a [k] u))) H
theorem ke_repl {iw n i : Nat} {wx nx : Str} {p1 p2 p3 p4 p5 apos pos : Pos} (hNw : X.N[iw]? = some wx) (hvw : Vis X.env.scope wx) (hNn : X.N[n]? = some nx) (hvn : Vis X.env.scope nx) (hNi : X.N[i]? = some x) (hl : X.env.scope.names.lookup x = some .local)
    (hdw : (wx == ("__debug__" : Str)) = false := by decide) (hcw : (wx == ("__classdict__" : Str)) = false := by decide) (hdn : (nx == ("__debug__" : Str)) = false := by decide) (hcn : (nx == ("__classdict__" : Str)) = false := by decide) (hdx : (x == ("__debug__" : Str)) = false := by decide)
    (hst : starEach [.BinOp (.Name x p2) .Mult (.Name nx p3) p4, .Name x p5] X.env = [(false, eval (.BinOp (.Name x p2) .Mult (.Name nx p3) p4) X.env), (false, eval (.Name x p5) X.env)] := by rfl)
    (hbase : attributeBase (.Name wx p1) "replace" X.env (eval (.Name wx p1) X.env) = eval (.Name wx p1) X.env := by rfl) (hline : (apos.endLine == pos.line) = true := by rfl) :
    KE X (GF X.env.locals x c T) (.Call (.Attribute (.Name wx p1) "replace" apos) [.BinOp (.Name x p2) .Mult (.Name nx p3) p4, .Name x p5] [] pos) (tRepK iw n i) := by
  refine ⟨fun pins s σ H Q I f h => ?_⟩
  obtain ⟨u, a, k, hw, hi, hn, ⟨k2, k6, ul⟩, q⟩ := h
  -- what the name holds is the very text
  have ec : c = SX.S [a] := by
    obtain ⟨m, hm, hlk⟩ := I.loc
    obtain ⟨v, rv, lk⟩ := hlk i x _ hNi hi (.inl hl)
    obtain ⟨_, m', hm', e'⟩ := f
    rcases lk with ⟨_, e⟩ | ⟨z, _⟩
    · rw [ns_inj hm hm' x, e'] at e
      cases e
      obtain ⟨t, rv⟩ := rv
      cases rv
      rfl
    · have hl2 : X.env.kindOf x = some .local := hl
      rcases z with z | z <;> rw [hl2] at z <;> cases z
  subst ec
  refine PySem.Call_method2 hbase hst hline (raw_name hNw hvw I hw (fun v r => ?_) hdw hcw)
  obtain ⟨tx, rfl⟩ := r
  refine ⟨"str", _, PySem.F.plainAttrs_str, PySem.F.slot_str_replace, PySem.F.type_str_replace, typeIs_str _ _ _, (fun _ e => nomatch e), Calls.callWith_builtin rfl (Calls.evalArgs_plain (Calls.spliced_cons ?_))⟩
  refine wpAny_BinOp (gf_name I f hl (raw_name hNn hvn I hn (fun v r => ?_) hdn hcn) hdx)
  obtain ⟨tn, rfl⟩ := r
  have l1 : (SX.S [a]).length = 1 := SX.S_len _
  have lu : (SX.S u).length = u.length := SX.S_len _
  refine PySem.P.mul_str (by rw [decide_eq_false (by omega), decide_eq_false (by omega)]; rfl) (fun _ _ => ?_) (fun _ _ => ?_) ?_
  · rw [l1]
    exact Int.not_lt.mpr ((Int.le_ediv_iff_mul_le (show 0 < k by omega)).mpr (by omega))
  · rw [l1]
    unfold Builtin.Str.tooLong
    refine decide_eq_false ?_
    have := sizeLine_eq
    omega
  · have e1 : (k == 1 || (SX.S [a]).length == 0) = false := by
      rw [l1, beq_eq_false_iff_ne.mpr (by omega)]
      rfl
    rw [if_neg (by omega), e1, if_neg Bool.false_ne_true]
    have en : (⟨(List.replicate k.toNat (SX.S [a]).cps).foldl (· ++ ·) #[]⟩ : Str) = SX.S (repL k.toNat [a]) := by
      have z := fold_cps (SX.S [a]).cps k.toNat #[]
      have cp : (SX.S [a]).cps.toList = [a] := rfl
      rw [cp, List.nil_append] at z
      show (⟨_⟩ : Str) = ⟨(repL k.toNat [a]).toArray⟩
      congr 1
      exact Array.ext' z
    rw [en]
    refine ⟨?_, ?_⟩
    · rw [SX.S_len, repL_one, List.length_replicate]
      have := sizeLine_eq
      omega
    · have I1 := I.tok (s.toks + 1)
      have f1 : GF X.env.locals x (SX.S [a]) T { s with toks := s.toks + 1 } := gf_ok.tok f (Nat.le_succ _)
      refine Calls.spliced_cons (gf_name I1 f1 hl (Calls.spliced_nil ?_) hdx)
      have n0 : s.toks ≠ 0 := fun e => Nat.not_lt_zero T (e ▸ f.1.2)
      have nT : s.toks ≠ T := fun e => Nat.lt_irrefl T (e ▸ f.1.2)
      have ne : (SX.S (repL k.toNat [a]) == SX.S [a]) = false := beq_eq_false_iff_ne.mpr fun e => by
        have := congrArg Str.length e
        rw [SX.S_len, repL_one, List.length_replicate, l1] at this
        omega
      refine wpAny_with_toks (Nat.le_refl _) (PySem.SC.replace n0 f.1.1 nT ne (by rw [lu, l1]; omega) fun t' k' htk => ?_)
      have htk2 : s.toks + 1 ≤ k' := htk
      rw [rep_sqT k2]
      exact ⟨⟨.str _, H, I1.tok _, ⟨_, rfl⟩, q⟩, gf_ok.tok f1 htk⟩
end
end Sq


set_option Elab.async false
set_option maxRecDepth 100000
set_option maxHeartbeats 2000000
/-! defs that are called with something known of the very objects that are handed over, and that tell something of the very object that they return -/
namespace Sq
open PySem PySem.Spec PyProof.Rows L2
/-- the callee's frame, left behind: a dict that nobody tracks -/
def SpareAt (B : Addr) (H : Hp) (z : Shared) : Prop := H B = none ∧ ∃ ob es ep, z.heap.get? B = some ob ∧ ob.data = .dict es ep ∧ StrKeys es
/-- a body's end -/
def WP (X : Cx) (pins : List (Addr × Obj)) (Q : VK) (rz : Hp → Value → Shared → Prop) (f : Flow) (z : Shared) : Prop :=
  match f with
  | .ret u => ∃ v σ' H', Inv X pins σ' H' z ∧ RelV v u ∧ Q v H' ∧ rz H' u z
  | .next => ∃ σ' H', Inv X pins σ' H' z ∧ Q .non H' ∧ rz H' .none z
  | _ => False
structure BW (X : Cx) (F : Shared → Prop) (body : List Stmt) (t : TS) (rz : Hp → Value → Shared → Prop) : Prop where
  run : ∀ (s : Shared) (σ : L2.St) (H : Hp) (Q : VK), Inv X [] σ H s → F s → t { nx := fun _ H' => Q .non H', rt := Q } σ H → wpAny (model X.prog X.w) X.A (execs body X.env) (WP X [] Q rz) X.xe s
theorem BW.ofK {X : Cx} {F : Shared → Prop} {body : List Stmt} {t : TS} (h : KSs X F body t) : BW X F body t (fun _ _ _ => True) := ⟨fun s σ H Q I f q => thn (h.run [] s σ H _ I f q) (by
  rintro fl z ⟨q, _⟩
  cases fl with
  | ret u =>
    obtain ⟨v, σ', H', I', r, q⟩ := q
    exact ⟨v, σ', H', I', r, q, trivial⟩
  | next =>
    obtain ⟨σ', H', I', q⟩ := q
    exact ⟨σ', H', I', q, trivial⟩
  | brk => obtain ⟨_, _, _, q⟩ := q; exact q
  | cont => obtain ⟨_, _, _, q⟩ := q; exact q)⟩
theorem BW.ofP {X : Cx} {body : List Stmt} {t : TS} (h : PSs X body t) : BW X (fun _ => True) body t (fun _ _ _ => True) := ⟨fun s σ H Q I f q => thn (h.run [] s σ H _ I q) (by
  rintro fl z q
  cases fl with
  | ret u =>
    obtain ⟨v, σ', H', I', r, q⟩ := q
    exact ⟨v, σ', H', I', r, q, trivial⟩
  | next =>
    obtain ⟨σ', H', I', q⟩ := q
    exact ⟨σ', H', I', q, trivial⟩
  | brk => obtain ⟨_, _, _, q⟩ := q; exact q
  | cont => obtain ⟨_, _, _, q⟩ := q; exact q)⟩
/-- what holds behind such a call -/
def CW (P : Program) (w : World) (outer : List Env) (s : Shared) (H : Hp) (Q : VK) (rz : Hp → Value → Shared → Prop) (u : Value) (z : Shared) : Prop :=
  ∃ v H', z.os = s.os ∧ AllBare z.gens ∧ Un (frs outer) [] H H' s.heap z.heap ∧ HOk P w H' z.heap ∧ RelV v u ∧ Q v H' ∧ rz H' u z ∧ SpareAt s.heap.objs.size H' z
structure FnW (P : Program) (w : World) (K : PySem.W.Frag) (mg : Str → Option Value) (base : Heap) (k : Nat) (f : Addr) (fd : FuncData) (ps : List Str) (rc : List Value → Shared → Prop) (sp : Sp) (rz : Hp → Value → Shared → Prop) : Prop where
  len : ∀ vs H Q E, sp vs H Q E → vs.length = ps.length
  run : ∀ (A : Around) (outer : List Env) (s : Shared) (H : Hp) (args : Args) (us : List Value) (vs : List V) (Q : VK) (E : XK), Room k A → Env0 P w K mg base A outer s H → BindsTo s fd args (ps.zip us) → Vals vs us → rc us s → sp vs H Q E →
    codeAny (model P w) A (.call (.ref f) args) (fun r z => match r with | .ok (.ret u) => CW P w outer s H Q rz u z | _ => False) s
structure CalW (P : Program) (w : World) (K : PySem.W.Frag) (mg : Str → Option Value) (base : Heap) (k : Nat) (x : Str) (rc : List Value → Shared → Prop) (sp : Sp) (rz : Hp → Value → Shared → Prop) : Prop where
  ex : ∃ (f : Addr) (fd : FuncData) (ps : List Str), FnW P w K mg base k f fd ps rc sp rz ∧ mg x = some (.ref f) ∧ PySem.W.keepIn K (.ref f) = true ∧ L2.Binds K fd ps []
section
variable {P : Program} {w : World} {K : PySem.W.Frag} {mg : Str → Option Value} {base : Heap}
/-- at a def's entry: the values of the parameters that are plain locals -/
def Ent (ps : List Str) (sc : Scope) (us : List Value) (L : Addr) (n : Nat) (z : Shared) : Prop := n ≤ z.toks ∧ ∀ (i : Nat) (x : Str) (u : Value), ps[i]? = some x → us[i]? = some u → sc.names.lookup x = some .local → ∃ m, z.heap.Ns L m ∧ m x = some u
theorem DefAt.calW {x : Str} {st : Stmt} {ps N : List Str} {k : Nat} {rc : List Value → Shared → Prop} {sp : Sp} {rz : Hp → Value → Shared → Prop} (D : DefAt K mg x st ps) (S : FnScope N ps (defScope st)) (len : ∀ vs H Q E, sp vs H Q E → vs.length = ps.length)
    (hb : ∀ (f : Addr) (cdv : Value) (A : Around) (outer : List Env) (s : Shared) (H : Hp) (us : List Value) (vs : List V) (Q : VK) (E : XK), Room k (A.deeper (envOfC x (defScope st) s.heap.objs.size f cdv)) → Vals vs us → rc us s → sp vs H Q E →
      ∃ t F, BW (cxOf CX0 P w K mg base N x (defScope st) f cdv A outer s H E).nox F (defBody st) t rz ∧ (∀ z, Ent ps (defScope st) us s.heap.objs.size s.toks z → F z) ∧ t { nx := fun _ H' => Q .non H', rt := Q } (start N vs) H) :
    CalW P w K mg base (k + 1) x rc sp rz := by
  obtain ⟨f, fd, ⟨⟨oc, od, kV, doc, pm, an, cdv, ct, osl, rfl, lk, hcd⟩, kp⟩, hm, b⟩ := D.ex
  refine ⟨f, _, ps, ⟨len, ?_⟩, hm, kp, b⟩
  intro A out s H args us vs Q E room env bnd rel raw pre
  have ln := len _ _ _ _ pre
  have kin : K.In s.heap := env.mod.kin.keeps fun b o e => (env.bs b o e).1
  have nl : s.heap.NoLimit := env.mod.nolimit.keeps fun b o e => (env.bs b o e).1
  have kinds : ∀ y ∈ ps.zip us, (defScope st).names.lookup y.1 = some .local ∨ ((defScope st).names.lookup y.1 = some .cell ∧ ((cellsFrom (s.heap.objs.size + 1) (defScope st).names []).lookup y.1).isSome = true) := by
    rintro ⟨y, v⟩ hy
    rcases S.par y (List.of_mem_zip hy).1 with z | z
    · exact .inl z
    · exact .inr ⟨z, PySem.W.cellsFrom_some _ _ _ (.inl z)⟩
  refine codeAny_call_function room.depth (kin _ _ lk) rfl S.co S.gen rfl (PySem.W.codeRec_of kin hcd) (bnd _ _ _ _ ?_)
  refine wpAny_with_toks (Nat.le_refl _) (wpAny_newFunctionEnv_cells S.kind kinds fun en hen s1 x1 => ?_)
  intro tk1
  cases hen
  refine ⟨nl.keeps x1.toInCall.keep, codeAny_func ?_⟩
  obtain ⟨t, F, ht, hF, hq⟩ := hb f cdv A out s H us vs Q E (room.deeper _) rel raw pre
  have J0 : Inv (cxOf CX0 P w K mg base N x (defScope st) f cdv A out s H E) [] (start N vs) H s1 := inv_start S room.hd env ln rel x1
  have ndP : ps.Nodup := by rw [← S.pre]; exact S.nd.sublist (List.take_sublist _ _)
  have f1 : F s1 := hF s1 ⟨tk1, fun i y u hp hu hl => ⟨_, x1.toInCall.ns, bindL_get ndP hp hu hl⟩⟩
  refine wpAny_mono (ht.run s1 (start N vs) H Q (J0.wish _) f1 hq) (fun fl s2 hs => ?_) fun e s2 hs => hs.elim
  have spare : ∀ {τ : L2.St} {H2 : Hp}, Inv (cxOf CX0 P w K mg base N x (defScope st) f cdv A out s H E) [] τ H2 s2 → SpareAt s.heap.objs.size H2 s2 := fun {τ H2} J => by
    obtain ⟨m, ⟨ob, es, ep, e1, e2, e3, _⟩, _⟩ := J.loc
    exact ⟨J.free, ob, es, ep, e1, e2, e3⟩
  cases fl with
  | ret u =>
    obtain ⟨v, τ, H2, J, rv, q, z⟩ := hs
    have J := J.unwish
    exact ⟨v, H2, J.os, J.bare, J.base, J.hok, rv, q, z, spare J⟩
  | next =>
    obtain ⟨τ, H2, J, q, z⟩ := hs
    have J := J.unwish
    exact ⟨V.non, H2, J.os, J.bare, J.base, J.hok, rfl, q, z, spare J⟩
  | brk => exact False.elim hs
  | cont => exact False.elim hs
/-- what is not needed is forgotten -/
theorem CalW.cal {x : Str} {k : Nat} {rc : List Value → Shared → Prop} {sp : Sp} {rz : Hp → Value → Shared → Prop} (c : CalW P w K mg base k x rc sp rz) (h : ∀ us s, rc us s) : Cal P w K mg base k x sp [] := by
  obtain ⟨f, fd, ps, F, hm, kp, b⟩ := c.ex
  refine ⟨f, fd, ps, [], ⟨F.len, fun A outer s H args us vs Q E hr he hb hv hs => codeAny_mono (F.run A outer s H args us vs Q E hr he hb hv (h us s) hs) fun r z q => ?_⟩, hm, kp, b, .nil⟩
  cases r with
  | error e => exact q.elim
  | ok fl =>
    cases fl with
    | ret u =>
      obtain ⟨v, H', a1, a2, a3, a4, a5, a6, _⟩ := q
      exact ⟨v, H', a1, a2, a3, a4, a5, a6⟩
    | next => exact q
    | brk => exact q
    | cont => exact q
end
section
variable {X : Cx} {pins : List (Addr × Obj)} {σ : L2.St} {H : Hp} {s : Shared} {k : Nat} {f : Addr} {fd : FuncData} {ps : List Str} {rc : List Value → Shared → Prop} {sp : Sp} {rz : Hp → Value → Shared → Prop}
/-- the callee runs -/
theorem run_W {Q : VK} {us : List Value} {vs : List V} (G : FnW X.prog X.w X.K X.mg X.base k f fd ps rc sp rz) (hr : Room k X.A) (hb : L2.Binds X.K fd ps []) (I : Inv X pins σ H s) (r : Vals vs us) (raw : rc us s) (h : sp vs H Q E0) :
    wpAny (model X.prog X.w) X.A (call (.ref f) us) (fun u z => (∃ v H', Inv X pins σ H' z ∧ RelV v u ∧ Q v H' ∧ rz H' u z ∧ SpareAt s.heap.objs.size H' z) ∧ Kp X.env.locals s z) X.xe s := by
  have hl : us.length = ps.length := by rw [← r.length]; exact G.len _ _ _ _ h
  have bb : BindsTo s fd ⟨us, []⟩ (ps.zip us) := by
    have z := hb s us I.kIn (by rw [List.append_nil]; exact hl)
    rw [List.append_nil] at z
    exact z
  refine wpAny_mono (wpAny_toks (wpAny_call (Q := fun u z => CW X.prog X.w X.stack s H Q rz u z) (E := X.xe) ?_)) ?_ fun e z q => q.2
  rotate_left
  · rintro u z ⟨tk, v, H', a1, a2, a3, a4, a5, a6, a7, a8⟩
    exact ⟨⟨v, H', I.call' a1 a3 a4 a2 (fun b q => by cases q), a5, a6, a7, a8⟩, tk, ns_after I a3⟩
  · exact codeAny_mono (G.run X.A X.stack s H ⟨us, []⟩ us vs Q E0 hr I.env0 bb r raw h) fun r z q => by
      cases r with
      | error e => exact q.elim
      | ok fl => cases fl <;> exact q
end
/-! ## a spare dict is pinned -/
abbrev pinX (X : Cx) (B : Addr) (ob : Obj) : Cx := { X with pn := (B, ob) :: X.pn }
section
variable {X : Cx} {pins : List (Addr × Obj)} {σ : L2.St} {H : Hp} {s : Shared} {B : Addr} {ob : Obj}
theorem Inv.pinX (I : Inv X pins σ H s) (e : s.heap.get? B = some ob) (n : H B = none) (nl : B ≠ X.env.locals) (nf : B ∉ X.fs) (d : ∀ v, ob.data ≠ .cell v) : Inv (Sq.pinX X B ob) pins σ H s :=
  ⟨⟨I.ok.mod, I.ok.kind, I.ok.glob, I.ok.blt, I.ok.above, I.ok.inj, I.ok.has, I.ok.cab, I.ok.hd, I.ok.frames, I.ok.stk, I.ok.exf, I.ok.bs, I.ok.bsz, I.ok.noex, I.ok.exfs, I.ok.funs, I.ok.frf⟩, I.os, I.bare, I.base, I.loc, I.cell, I.free, I.freeC, fun p hp => by
    rcases List.mem_cons.mp hp with rfl | hp
    · exact ⟨e, n, nl, nf, d⟩
    · exact I.pin p hp, I.hok, I.len⟩
theorem Inv.unpinX (I : Inv (Sq.pinX X B ob) pins σ H s) : Inv X pins σ H s :=
  ⟨⟨I.ok.mod, I.ok.kind, I.ok.glob, I.ok.blt, I.ok.above, I.ok.inj, I.ok.has, I.ok.cab, I.ok.hd, I.ok.frames, I.ok.stk, I.ok.exf, I.ok.bs, I.ok.bsz, I.ok.noex, I.ok.exfs, I.ok.funs, I.ok.frf⟩, I.os, I.bare, I.base, I.loc, I.cell, I.free, I.freeC, fun p hp => I.pin p (List.mem_cons_of_mem _ hp), I.hok, I.len⟩
theorem spare_pin {es : Array DictEntry} {ep : Nat} (up : X.env.locals < B) (d : ob.data = .dict es ep) (k : StrKeys es) : Spare (pinX X B ob) B := ⟨up, ob, es, ep, List.mem_cons_self, d, k⟩
end
end Sq


set_option Elab.async false
set_option maxRecDepth 100000
set_option maxHeartbeats 2000000
/-! statements that bring a text with a known token, calls that need one -/
namespace Sq
open PySem PySem.Spec PyProof.Rows L2
/-- the second argument is a text whose token is out -/
def rcS (us : List Value) (s : Shared) : Prop := ∃ (c : Str) (T : Nat), us[1]? = some (.str c T) ∧ T ≠ 0 ∧ T < s.toks
def rc0 (us : List Value) (s : Shared) : Prop := True
def rz0 (H : Hp) (u : Value) (z : Shared) : Prop := True
/-- the list of two texts: its object is known, the second one's token is out -/
def rzT (H : Hp) (u : Value) (z : Shared) : Prop := ∃ (l : Addr) (o : Obj) (y c : Str) (t T n : Nat), u = .ref l ∧ H l = some (.frz o (.lst [.str y, .str c])) ∧ o.cls = .type "list" ∧ o.data = .seq #[.str y t, .str c T] n ∧ T ≠ 0 ∧ T < z.toks
section
variable {X : Cx} {pins : List (Addr × Obj)} {σ : L2.St} {H : Hp} {s : Shared} {x c : Str} {T i : Nat} {v : V}
theorem gf_rel (I : Inv X pins σ H s) (f : GF X.env.locals x c T s) (hN : X.N[i]? = some x) (hl : X.env.scope.names.lookup x = some .local) (e : σ[i]? = some (some v)) : RelV v (.str c T) := by
  obtain ⟨m, hm, hlk⟩ := I.loc
  obtain ⟨u, r, lk⟩ := hlk i x v hN e (.inl hl)
  obtain ⟨_, m', hm', e'⟩ := f
  rcases lk with ⟨_, eu⟩ | ⟨z, _⟩
  · rw [ns_inj hm hm' x, e'] at eu
    cases eu
    exact r
  · have hl2 : X.env.kindOf x = some .local := hl
    rcases z with z | z <;> rw [hl2] at z <;> cases z
/-- F at a def's entry, the parameter x in the second place -/
theorem gf_ent {ps : List Str} {sc : Scope} {us : List Value} {L n : Nat} {z : Shared} (E : Ent ps sc us L n z) (hp : ps[1]? = some x) (hu : us[1]? = some (.str c T)) (hl : sc.names.lookup x = some .local) (t0 : T ≠ 0) (tn : T < n) : GF L x c T z := by
  obtain ⟨m, hn, e⟩ := E.2 1 x _ hp hu hl
  exact ⟨⟨t0, Nat.lt_of_lt_of_le tn E.1⟩, m, hn, e⟩
end
/-- g(e1, sign, e3) -/
theorem ke_cT {X : Cx} {k j i : Nat} {g x c : Str} {T : Nat} {sp : Sp} {rz : Hp → Value → Shared → Prop} {e1 e3 : Expr} {t1 t3 : TE} {p px pos : Pos} (cl : CalW X.prog X.w X.K X.mg X.base k g rcS sp rz) (hr : Room j X.A) (hk : k ≤ j) (hg : Gl X g)
    (h1 : KE X (GF X.env.locals x c T) e1 t1) (hN : X.N[i]? = some x) (hl : X.env.scope.names.lookup x = some .local) (h3 : KE X (GF X.env.locals x c T) e3 t3) (hdb : (g == ("__debug__" : Str)) = false := by decide) (hdx : (x == ("__debug__" : Str)) = false := by decide)
    (hs1 : starEach [e1, .Name x px, e3] X.env = (false, eval e1 X.env) :: starEach [.Name x px, e3] X.env := by rfl) (hs2 : starEach [.Name x px, e3] X.env = (false, eval (.Name x px) X.env) :: starEach [e3] X.env := by rfl) (hs3 : starEach [e3] X.env = (false, eval e3 X.env) :: starEach [] X.env := by rfl)
    (hpl : (backTo pos (starEach [.Name x px, e3] X.env)).any (·.1) = false := by rfl) : KE X (GF X.env.locals x c T) (.Call (.Name g p) [e1, .Name x px, e3] [] pos) (tCall sp [] E0 (tCons t1 (tCons (tVar i) (tCons t3 tNil)))) := by
  obtain ⟨f, fd, ps, G, hm, kp, bd⟩ := cl.ex
  refine ⟨fun pins s σ H Q I f0 h => wpAny_Call_Name_kw (ld_glob I hg hm (PySem.W.callWith_K (h₀ := X.base) I.ok.mod.kin kp ?_ hs1 hpl) hdb)⟩
  rw [hs1]
  refine Calls.spliced_cons (thn (h1.run pins s σ H _ I f0 h) ?_)
  rintro u1 s1 ⟨⟨v1, H1, I1, r1, v, ev, q1⟩, f1⟩
  show wpAny _ _ (spliced (backTo pos (starEach [.Name x px, e3] X.env))) _ _ _
  rw [hs2]
  have rv := gf_rel I1 f1 hN hl ev
  refine Calls.spliced_cons (gf_name I1 f1 hl ?_ hdx)
  show wpAny _ _ (spliced (backTo pos (starEach [e3] X.env))) _ _ _
  rw [hs3]
  refine Calls.spliced_cons (thn (h3.run pins s1 σ H1 _ I1 f1 q1) ?_)
  rintro u3 s3 ⟨⟨v3, H3, I3, r3, q3⟩, f3⟩
  refine Calls.spliced_nil ⟨I3.kIn, ?_⟩
  refine thn (run_W (us := [u1, .str c T, u3]) (vs := [v1, v, v3]) G (hr.mono hk) bd I3 (.cons r1 (.cons rv (.cons r3 .nil))) ⟨c, T, rfl, f3.1⟩ q3) ?_
  rintro u z ⟨⟨w', H', I', rw', q', _⟩, kz⟩
  exact ⟨⟨w', H', I', rw', q'⟩, gf_ok.go _ _ f3 kz⟩
/-! ## a statement that brings such a text -/
structure ZS (X : Cx) (x : Str) (st : Stmt) (t : TS) : Prop where
  run : ∀ (s : Shared) (σ : L2.St) (H : Hp) (D : Ends), Inv X [] σ H s → t D σ H →
    wpAny (model X.prog X.w) X.A (exec st X.env) (fun f z => f = .next ∧ ∃ σ' H' c T B ob, Inv (pinX X B ob) [] σ' H' z ∧ Spare (pinX X B ob) B ∧ GF X.env.locals x c T z ∧ D.nx σ' H') X.xe s
/-- with a text known, then without -/
structure KP (X : Cx) (B : Addr) (ob : Obj) (F : Shared → Prop) (body : List Stmt) (t : TS) (Z : Hp → Value → Shared → Prop) : Prop where
  run : ∀ (s : Shared) (σ : L2.St) (H : Hp) (Q : VK), Inv (pinX X B ob) [] σ H s → F s → t { nx := fun _ H' => Q .non H', rt := Q } σ H → wpAny (model X.prog X.w) X.A (execs body X.env) (WP X [] Q Z) X.xe s
section
variable {X : Cx} {B : Addr} {ob : Obj} {F : Shared → Prop} {st : Stmt} {rest : List Stmt} {t u : TS} {Z : Hp → Value → Shared → Prop}
theorem kp_cons (h1 : KS (pinX X B ob) F st t) (h2 : KP X B ob F rest u rz0) : KP X B ob F (st :: rest) (tSeq t u) rz0 := by
  refine ⟨fun s σ H Q I f h => wpAny_execs_cons (thn (h1.run [] s σ H _ I f h) ?_)⟩
  rintro fl z ⟨q, f1⟩
  cases fl with
  | next =>
    obtain ⟨σ', H', I', q⟩ := q
    exact h2.run z σ' H' Q I' f1 q
  | ret v =>
    obtain ⟨v', σ', H', I', r, q⟩ := q
    exact ⟨v', σ', H', Sq.Inv.unpinX I', r, q, trivial⟩
  | brk =>
    obtain ⟨_, _, _, q⟩ := q
    exact False.elim q
  | cont =>
    obtain ⟨_, _, _, q⟩ := q
    exact False.elim q
theorem kp_end (h : PSs X rest t) : KP X B ob F rest t rz0 := ⟨fun s σ H Q I _ q => (BW.ofP h).run s σ H Q (Sq.Inv.unpinX I) trivial q⟩
/-- where nothing returns ahead of the end -/
theorem kp_next (h1 : KS (pinX X B ob) F st t) (h2 : KP X B ob F rest u Z) : KP X B ob F (st :: rest) (fun D σ H => t { D with nx := u D, rt := fun _ _ => False } σ H) Z := by
  refine ⟨fun s σ H Q I f h => wpAny_execs_cons (thn (h1.run [] s σ H _ I f h) ?_)⟩
  rintro fl z ⟨q, f1⟩
  cases fl with
  | next =>
    obtain ⟨σ', H', I', q⟩ := q
    exact h2.run z σ' H' Q I' f1 q
  | ret v =>
    obtain ⟨_, _, _, _, _, q⟩ := q
    exact False.elim q
  | brk =>
    obtain ⟨_, _, _, q⟩ := q
    exact False.elim q
  | cont =>
    obtain ⟨_, _, _, q⟩ := q
    exact False.elim q
theorem bw_zs {x : Str} (h1 : ZS X x st t) (h2 : ∀ (B : Addr) (ob : Obj) (c : Str) (T : Nat), Spare (pinX X B ob) B → KP X B ob (GF X.env.locals x c T) rest u Z) : BW X (fun _ => True) (st :: rest) (tSeq t u) Z := by
  refine ⟨fun s σ H Q I _ h => wpAny_execs_cons (thn (h1.run s σ H _ I h) ?_)⟩
  rintro fl z ⟨rfl, σ', H', c, T, B, ob, I', S, f, q⟩
  exact (h2 B ob c T S).run z σ' H' Q I' f q
/-- return [e, sign] -/
def tRetZ (te : TE) (i : Nat) : TS := fun D σ H => te σ H fun v H1 => ∃ y c, v = .str y ∧ σ[i]? = some (some (.str c)) ∧ ∀ (l : Addr) (o : Obj), H1 l = none → D.rt (.ref l) (upd H1 l (.frz o (.lst [.str y, .str c])))
theorem kp_ret {x c : Str} {T i : Nat} {e : Expr} {te : TE} {px pl pos : Pos} (he : KE (pinX X B ob) (GF X.env.locals x c T) e te) (hN : X.N[i]? = some x) (hl : X.env.scope.names.lookup x = some .local) (hdx : (x == ("__debug__" : Str)) = false := by decide)
    (hs1 : starEach [e, .Name x px] X.env = (false, eval e X.env) :: starEach [.Name x px] X.env := by rfl) (hs2 : starEach [.Name x px] X.env = (false, eval (.Name x px) X.env) :: starEach [] X.env := by rfl) :
    KP X B ob (GF X.env.locals x c T) [.Return (some (.List [e, .Name x px] pl)) pos] (tRetZ te i) rzT := by
  refine ⟨fun s σ H Q I f h => wpAny_execs_cons (wpAny_Return_some (wpAny_List_spliced ?_))⟩
  rw [hs1]
  refine Calls.spliced_cons (thn (he.run [] s σ H _ I f h) ?_)
  rintro u1 s1 ⟨⟨v1, H1, I1, r1, y, c0, rfl, ec, q1⟩, f1⟩
  obtain ⟨t1, rfl⟩ := r1
  have rv := gf_rel I1 f1 hN hl ec
  obtain ⟨T', e'⟩ := rv
  cases e'
  show wpAny _ _ (spliced (backTo pl (starEach [.Name x px] X.env))) _ _ _
  rw [hs2]
  refine Calls.spliced_cons (gf_name (X := pinX X B ob) I1 f1 hl (Calls.spliced_nil ⟨by show 2 ≤ sizeLine; decide, ?_⟩) hdx)
  have new : H1 s1.heap.objs.size = none := I1.hok.fresh (Nat.le_refl _)
  refine ⟨.ref s1.heap.objs.size, σ, upd H1 s1.heap.objs.size (.frz { cls := .type "list", data := .seq #[.str y t1, .str c T] 0 } (.lst [.str y, .str c])), Sq.Inv.unpinX (I1.laid (t' := s1.toks) (fun b w q => Heap.get?_push_of_some _ q) (Nat.le_refl _) ?_), rfl, q1 _ _ new, ?_⟩
  · exact ⟨Heap.get?_push_size _ rfl, by show 2 ≤ sizeLine; decide, [.str y t1, .str c T], 0, .cons ⟨_, rfl⟩ (.cons ⟨_, rfl⟩ .nil), Heap.get?_push_size _ rfl⟩
  · exact ⟨_, _, y, c, t1, T, 0, rfl, upd_same, rfl, rfl, f1.1⟩
end
end Sq


set_option Elab.async false
set_option maxRecDepth 100000
set_option maxHeartbeats 2000000
/-! the statements that bring a text with a known token -/
namespace Sq
open PySem PySem.Spec PyProof.Rows L2
section
variable {X : Cx} {pins : List (Addr × Obj)} {σ : L2.St} {H : Hp} {s : Shared} {x c : Str} {T i : Nat}
/-- such a text is stored -/
theorem gf_store {Q : Shared → Prop} (I : Inv X pins σ H s) (hN : X.N.Nodup) (hi : X.N[i]? = some x) (hl : X.env.scope.names.lookup x = some .local) (t0 : T ≠ 0) (t1 : T < s.toks)
    (q : ∀ z, Inv X pins (σ.set i (some (.str c))) H z → GF X.env.locals x c T z → Q z) : wpAny (model X.prog X.w) X.A (storeName X.env x (.str c T)) (fun _ z => Q z) X.xe s := by
  obtain ⟨m, hn, _⟩ := I.loc
  have w1 := store_ok (M := model X.prog X.w) (A := X.A) (E := X.xe) (v := V.str c) (u := Value.str c T) (Q := fun _ z => Inv X pins (σ.set i (some (V.str c))) H z) I hN hi (.inl hl) ⟨_, rfl⟩ (fun z h => h) (.inr hl)
  have w2 := wpAny_storeName_local (M := model X.prog X.w) (A := X.A) (E := X.xe) (s := s) (env := X.env) (v := Value.str c T) (Q := fun _ z => GF X.env.locals x c T z) hl hn (fun h' n' _ => ⟨⟨t0, Nat.lt_succ_of_lt t1⟩, _, n', if_pos rfl⟩) (by rw [I.ok.kind]; rfl)
  exact wpAny_mono (wpAny_both w1 w2) (fun _ z h => q z h.1 h.2) fun _ _ h => h.1
/-- (w, sign) = the list of two texts -/
theorem gf_unl {iw : Nat} {w y : Str} {t n : Nat} {l : Addr} {o : Obj} {kk : Nat} {pw px pp : Pos} {Q : Unit → Shared → Prop} (hc : X.calm = true) (I : Inv X pins σ H s) (hf : H l = some (.frz o (.lst [.str y, .str c]))) (oc : o.cls = .type "list") (od : o.data = .seq #[.str y t, .str c T] n) (t0 : T ≠ 0) (t1 : T < s.toks)
    (hN : X.N.Nodup) (hw : X.N[iw]? = some w) (hlw : X.env.scope.names.lookup w = some .local) (hi : X.N[i]? = some x) (hl : X.env.scope.names.lookup x = some .local)
    (q : ∀ z, Inv X pins ((σ.set iw (some (.str y))).set i (some (.str c))) H z → GF X.env.locals x c T z → Q () z) : wpAny (model X.prog X.w) X.A (assign (.Tuple [.Name w pw, .Name x px] kk pp) X.env (.ref l)) Q X.xe s := by
  have hl2 : s.heap.IsList l #[.str y t, .str c T] := by
    obtain ⟨h4, _⟩ := I.hok l _ hf
    exact ⟨o, h4, oc, n, od⟩
  rw [PyProof.Rows.assign_Tuple]
  refine wpAny_bind (wpAny_standAt ?_)
  unfold unpack
  refine wpAny_bind (wpAny_holding (PySem.W.kun_itemsOf (items := #[.str y t, .str c T]) (I.ok.hd hc) hl2 fun h' hx => ?_))
  have I1 : Inv X pins σ H { s with heap := h' } := I.kept (t' := s.toks) fun b u z => hx b u (Nat.ne_of_lt (Heap.lt_size z)) z
  refine assignInOrder_cons (wpAny_assign_Name (wpAny_with_toks (Nat.le_refl _) (store_ok (v := V.str y) I1 hN hw (.inl hlw) ⟨_, rfl⟩ (fun z I2 tk => ?_) (.inr hlw))))
  refine assignInOrder_cons (wpAny_assign_Name (gf_store I2 hN hi hl t0 (Nat.lt_of_lt_of_le t1 tk) fun z2 I3 f3 => assignInOrder_nil (q z2 I3 f3)))
end
section
variable {X : Cx} {k j i : Nat} {g x : Str} {sp : Sp} {e : Expr} {es : List Expr} {t : TA} {p px pc ps pos cp : Pos}
/-- the call whose frame stays behind: from there on it is pinned -/
theorem zcall {rc : List Value → Shared → Prop} {rz : Hp → Value → Shared → Prop} {s : Shared} {σ : L2.St} {H : Hp} {Q : VK} {Z : Value → Shared → Prop} (cl : CalW X.prog X.w X.K X.mg X.base k g rc sp rz) (rct : ∀ us s, rc us s) (hr : Room j X.A) (hk : k ≤ j) (hg : Gl X g) (ha : PA X (e :: es) t) (I : Inv X [] σ H s) (h : tCall sp [] E0 t σ H Q)
    (fin : ∀ u z v H' B ob, Inv (pinX X B ob) [] σ H' z → Spare (pinX X B ob) B → s.toks ≤ z.toks → RelV v u → Q v H' → rz H' u z → Z u z) (hdb : (g == ("__debug__" : Str)) = false := by decide) (he : starEach (e :: es) X.env = (false, eval e X.env) :: starEach es X.env := by rfl)
    (hpl : (backTo pc (starEach es X.env)).any (·.1) = false := by rfl) : wpAny (model X.prog X.w) X.A (eval (.Call (.Name g p) (e :: es) [] pc) X.env) Z X.xe s := by
  obtain ⟨f, fd, qs, G, hm, kp, bd⟩ := cl.ex
  refine wpAny_Call_Name_kw (ld_glob I hg hm (PySem.W.callWith_K (h₀ := X.base) I.ok.mod.kin kp (wpAny_mono (wpAny_toks (ha.run pc [] s σ H _ I h)) ?_ fun _ _ q => q.2) he hpl) hdb)
  rintro us s1 ⟨tk, vs, H1, I1, r, q⟩
  rw [List.append_nil] at q
  refine ⟨I1.kIn, thn (run_W G (hr.mono hk) bd I1 r (rct us s1) q) ?_⟩
  rintro u z ⟨⟨v, H', I', rv, q', z', sn, ob, d1, d2, d3, d4, d5⟩, kz⟩
  refine fin u z v H' s1.heap.objs.size ob (Inv.pinX I' d3 sn (Nat.ne_of_gt I1.lt) (I1.nofs (Nat.le_refl _)) fun w e => ?_) (spare_pin I1.lt d4 d5) (Nat.le_trans tk kz.tk) rv q' z'
  rw [d4] at e
  cases e
/-- sign = ".."[g(..)] -/
theorem zs_ixs {w : Str} {jj : Nat} (cl : CalW X.prog X.w X.K X.mg X.base k g rc0 sp rz0) (hr : Room j X.A) (hk : k ≤ j) (hg : Gl X g) (ha : PA X (e :: es) t) (hN : X.N.Nodup) (hi : X.N[i]? = some x) (hl : X.env.scope.names.lookup x = some .local)
    (hs : swapsWith (.Subscript (.Constant (.str w) jj cp) (.Call (.Name g p) (e :: es) [] pc) ps) (some (.Name x px)) pos.line X.env = pure false := by rfl) (hpx : PlainIx (.Call (.Name g p) (e :: es) [] pc) := by exact fun _ _ => rfl) (hdb : (g == ("__debug__" : Str)) = false := by decide)
    (he : starEach (e :: es) X.env = (false, eval e X.env) :: starEach es X.env := by rfl) (hpl : (backTo pc (starEach es X.env)).any (·.1) = false := by rfl) :
    ZS X x (.Assign [.Name x px] (.Subscript (.Constant (.str w) jj cp) (.Call (.Name g p) (e :: es) [] pc) ps) pos) (tAsg (tOp rIxS (tC (.str w)) (tCall sp [] E0 t)) (gName i)) := by
  refine ⟨fun s σ H D I h => wpAny_Assign_Name (Subscript_ (Calls.Constant_str (zcall (s := { s with toks := s.toks + 1 }) cl (fun _ _ => trivial) hr hk hg ha (I.tok _) h (fun u z v H' B ob I2 S tk rv q _ => ?_) hdb he hpl))) hs⟩
  obtain ⟨y, n, a, e1, rfl, hz, hat, q⟩ := q
  cases e1
  obtain ⟨tn, rfl⟩ := rv
  obtain ⟨m, h1, h2, h3, h4, h5⟩ := atI_get hat
  have hlen : w.cps.toList.length = w.length := by simp [Str.length]
  rw [hlen] at h1 h4 h5
  have line := line63
  have tk2 : s.toks + 1 ≤ z.toks := tk
  refine tail_any (typeIs_str z w _) slot_str_getitem.lookup (PySem.P.getItem_str (c := a) ?_ (by rw [h1]; simpa using h2) ?_) (hpx _ _)
  · rw [decide_eq_false (show ¬ n < -(2 ^ 63 : Int) by omega), decide_eq_false (show ¬ n ≥ 2 ^ 63 by omega), Bool.or_false]
  · have z0 : z.toks ≠ 0 := Nat.ne_of_gt (Nat.lt_of_lt_of_le (Nat.succ_pos _) tk2)
    exact gf_store (X := pinX X B ob) (I2.tok _) hN hi hl z0 (Nat.lt_succ_self z.toks) fun z3 I3 f3 => ⟨rfl, _, H', ⟨#[a]⟩, z.toks, B, ob, I3, S, f3, q⟩
/-- w, sign = g(..) -/
def tZL (sp : Sp) (t : TA) (iw i : Nat) : TS := fun D σ H => tCall sp [] E0 t σ H fun v H1 => ∃ l o y c, v = .ref l ∧ H1 l = some (.frz o (.lst [.str y, .str c])) ∧ D.nx ((σ.set iw (some (.str y))).set i (some (.str c))) H1
theorem rzT_to {H : Hp} {u : Value} {z : Shared} {l : Addr} {o : Obj} {y c : Str} (h : rzT H u z) (e : u = .ref l) (hf : H l = some (.frz o (.lst [.str y, .str c]))) : ∃ t T n, o.cls = .type "list" ∧ o.data = .seq #[.str y t, .str c T] n ∧ T ≠ 0 ∧ T < z.toks := by
  obtain ⟨l', o', y', c', t, T, n, e', hf', oc, od, t0, t1⟩ := h
  rw [e] at e'
  cases e'
  rw [hf] at hf'
  have e2 := Option.some.inj hf'
  injection e2 with e3 e4
  injection e4 with e5
  injection e5 with e6 e7
  injection e7 with e8 _
  injection e6 with e6
  injection e8 with e8
  subst e3 e6 e8
  exact ⟨t, T, n, oc, od, t0, t1⟩
theorem zs_unl {iw kk : Nat} {w : Str} {pw pp : Pos} (cl : CalW X.prog X.w X.K X.mg X.base k g rc0 sp rzT) (hr : Room j X.A) (hk : k ≤ j) (hg : Gl X g) (ha : PA X (e :: es) t) (hc : X.calm = true) (hN : X.N.Nodup) (hw : X.N[iw]? = some w) (hlw : X.env.scope.names.lookup w = some .local) (hi : X.N[i]? = some x) (hl : X.env.scope.names.lookup x = some .local)
    (hs : swapsWithSole [.Tuple [.Name w pw, .Name x px] kk pp] (.Call (.Name g p) (e :: es) [] pc) pos.line X.env = pure false := by rfl) (hsw : swappedStores [.Tuple [.Name w pw, .Name x px] kk pp] (.Call (.Name g p) (e :: es) [] pc) X.env = pure none := by rfl)
    (hdb : (g == ("__debug__" : Str)) = false := by decide) (he : starEach (e :: es) X.env = (false, eval e X.env) :: starEach es X.env := by rfl) (hpl : (backTo pc (starEach es X.env)).any (·.1) = false := by rfl) :
    ZS X x (.Assign [.Tuple [.Name w pw, .Name x px] kk pp] (.Call (.Name g p) (e :: es) [] pc) pos) (tZL sp t iw i) := by
  refine ⟨fun s σ H D I h => wpAny_Assign_stores (zcall cl (fun _ _ => trivial) hr hk hg ha I h (fun u z v H' B ob I2 S tk rv q raw => ?_) hdb he hpl) hs hsw⟩
  obtain ⟨l, o, y, c, rfl, hf, q⟩ := q
  cases rv
  obtain ⟨ty, T, n, oc, od, t0, t1⟩ := rzT_to raw rfl hf
  show wpAny (model X.prog X.w) X.A (assignAll (.ref l) [assign (.Tuple [.Name w pw, .Name x px] kk pp) X.env]) _ _ _
  exact gf_unl (X := pinX X B ob) hc I2 hf oc od t0 t1 hN hw hlw hi hl fun z3 I3 f3 => ⟨rfl, _, H', c, T, B, ob, I3, S, f3, q⟩
/-- (w, sign), far = g(..), e2 -/
def tZU (sp : Sp) (t : TA) (t2 : TE) (iw i ifr : Nat) : TS := fun D σ H => tCall sp [] E0 t σ H fun v H1 => ∃ l o y c, v = .ref l ∧ H1 l = some (.frz o (.lst [.str y, .str c])) ∧
  t2 σ H1 fun v2 H2 => H2 l = some (.frz o (.lst [.str y, .str c])) ∧ ∀ q, H2 q = none → D.nx (((σ.set iw (some (.str y))).set i (some (.str c))).set ifr (some v2)) (upd H2 q (.tup [.ref l, v2]))
theorem zs_unp {iw ifr kk k1 k2 : Nat} {w fr : Str} {e2 : Expr} {t2 : TE} {pw pp pf p1 pt2 : Pos} (cl : CalW X.prog X.w X.K X.mg X.base k g rc0 sp rzT) (hr : Room j X.A) (hk : k ≤ j) (hg : Gl X g) (ha : PA X (e :: es) t) (h2 : ∀ B ob, PE (pinX X B ob) e2 t2) (hc : X.calm = true) (hN : X.N.Nodup)
    (hw : X.N[iw]? = some w) (hlw : X.env.scope.names.lookup w = some .local) (hi : X.N[i]? = some x) (hl : X.env.scope.names.lookup x = some .local) (hf : X.N[ifr]? = some fr) (hlf : X.env.scope.names.lookup fr = some .local) (hne : fr ≠ x)
    (hs : swapsWithSole [.Tuple [.Tuple [.Name w pw, .Name x px] k1 p1, .Name fr pf] kk pp] (.Tuple [.Call (.Name g p) (e :: es) [] pc, e2] k2 pt2) pos.line X.env = pure false := by rfl)
    (hsw : swappedStores [.Tuple [.Tuple [.Name w pw, .Name x px] k1 p1, .Name fr pf] kk pp] (.Tuple [.Call (.Name g p) (e :: es) [] pc, e2] k2 pt2) X.env = pure none := by rfl)
    (hdb : (g == ("__debug__" : Str)) = false := by decide) (he : starEach (e :: es) X.env = (false, eval e X.env) :: starEach es X.env := by rfl) (hpl : (backTo pc (starEach es X.env)).any (·.1) = false := by rfl)
    (hs1 : starEach [.Call (.Name g p) (e :: es) [] pc, e2] X.env = (false, eval (.Call (.Name g p) (e :: es) [] pc) X.env) :: starEach [e2] X.env := by rfl) (hs2 : starEach [e2] X.env = (false, eval e2 X.env) :: starEach [] X.env := by rfl) :
    ZS X x (.Assign [.Tuple [.Tuple [.Name w pw, .Name x px] k1 p1, .Name fr pf] kk pp] (.Tuple [.Call (.Name g p) (e :: es) [] pc, e2] k2 pt2) pos) (tZU sp t t2 iw i ifr) := by
  refine ⟨fun s σ H D I h => wpAny_Assign_stores (wpAny_Tuple_spliced ?_) hs hsw⟩
  rw [hs1]
  refine Calls.spliced_cons (zcall cl (fun _ _ => trivial) hr hk hg ha I h (fun u z v H' B ob I2 S tk rv q raw => ?_) hdb he hpl)
  obtain ⟨l, o, y, c, rfl, hfz, q⟩ := q
  cases rv
  obtain ⟨ty, T, n, oc, od, t0, t1⟩ := rzT_to raw rfl hfz
  show wpAny _ _ (spliced (backTo pt2 (starEach [e2] X.env))) _ _ _
  rw [hs2]
  refine Calls.spliced_cons (wpAny_mono (wpAny_toks ((h2 B ob).run [] z σ H' _ I2 q)) ?_ fun _ _ q => q.2)
  rintro u2 z2 ⟨tk2, v2, H2, I3, r2, hf2, q2⟩
  refine Calls.spliced_nil ⟨by show 2 ≤ sizeLine; decide, ?_⟩
  have new : H2 z2.heap.objs.size = none := I3.hok.fresh (Nat.le_refl _)
  have I4 : Inv (pinX X B ob) [] σ (upd H2 z2.heap.objs.size (.tup [.ref l, v2])) { z2 with heap := z2.heap.push { cls := .type "tuple", data := .seq [.ref l, u2].toArray } } :=
    I3.laid (o := .tup [.ref l, v2]) (t' := z2.toks) (fun b w e => Heap.get?_push_of_some _ e) (Nat.le_refl _) ⟨by show 2 ≤ sizeLine; decide, [.ref l, u2], .cons rfl (.cons r2 .nil), ⟨_, Heap.get?_push_size _ rfl, rfl, _, rfl⟩⟩
  have q3 := q2 _ new
  have nl : l ≠ z2.heap.objs.size := fun e => by
    rw [← e, hf2] at new
    cases new
  show wpAny (model X.prog X.w) X.A (assignAll (.ref z2.heap.objs.size) [assign (.Tuple [.Tuple [.Name w pw, .Name x px] k1 p1, .Name fr pf] kk pp) X.env]) _ _ _
  show wpAny (model X.prog X.w) X.A (assign (.Tuple [.Tuple [.Name w pw, .Name x px] k1 p1, .Name fr pf] kk pp) X.env (.ref z2.heap.objs.size)) _ _ _
  refine PyProof.Rows.assign_Tuple_tuple (items := #[.ref l, u2]) (I.ok.hd hc) (IsTup.new z2.heap _) rfl rfl fun h' hx => ?_
  have I5 := I4.kept (h' := h') (t' := z2.toks) fun b w e => hx b w (Nat.ne_of_lt (Heap.lt_size e)) e
  have hf3 : upd H2 z2.heap.objs.size (.tup [.ref l, v2]) l = some (.frz o (.lst [.str y, .str c])) := (upd_ne nl).trans hf2
  show wpAny _ _ (assignInOrder [assign (.Tuple [.Name w pw, .Name x px] k1 p1) X.env, assign (.Name fr pf) X.env] [.ref l, u2]) _ _ _
  refine assignInOrder_cons (gf_unl (X := pinX X B ob) (kk := k1) (pw := pw) (px := px) (pp := p1) hc I5 hf3 oc od t0 (Nat.lt_of_lt_of_le t1 tk2) hN hw hlw hi hl fun z6 I6 f6 => ?_)
  refine assignInOrder_cons (wpAny_assign_Name (fstore (X := pinX X B ob) I6 f6 (gf_st hne) hN hf hlf r2 fun z7 I7 f7 => assignInOrder_nil ?_))
  exact ⟨rfl, _, _, c, T, B, ob, I7, S, f7, q3⟩
end
/-- sep.join(a list of texts) -/
def rJoinL (K : PySem.W.Frag) : V → List V → Hp → VK → Prop := fun x xs H Q => ∃ (a : Str) (p : Addr) (ys : List Str), x = .str a ∧ xs = [.ref p] ∧ SqL K H p (ys.map V.str) ∧ (ys.map (·.length)).sum + ys.length * a.length ≤ 16777216 ∧ Q (.str (Txt.join a ys)) H
theorem mt_joinL {X : Cx} {K : PySem.W.Frag} (h : X.K = K := by rfl) : MtR X "str.join" (rJoinL K) := by
  subst h
  intro pins s σ H x xs v us Q I rx rxs q
  obtain ⟨a, p, ys, e1, e2, hs, hz, q⟩ := q
  exact mt_join pins s σ H x xs v us Q I rx rxs ⟨a, p, ys, e1, e2, .inl hs, hz, q⟩
end Sq


namespace Sq
def prodL (ns : List Int) : Int := ns.foldr (fun k p => k * p) 1
def slack (ns : List Int) : Int := (ns.map fun k => k - 1).sum
theorem prodL_cons (k : Int) (r : List Int) : prodL (k :: r) = k * prodL r := rfl
theorem prodL_app (a b : List Int) : prodL (a ++ b) = prodL a * prodL b := by
  induction a with
  | nil => simp [prodL]
  | cons k r ih => rw [List.cons_append, prodL_cons, prodL_cons, ih, Int.mul_assoc]
theorem prodL_snoc (a : List Int) (k : Int) : prodL (a ++ [k]) = prodL a * k := by rw [prodL_app]; simp [prodL]
theorem prodL_pos : ∀ {ns : List Int}, Two ns → 1 ≤ prodL ns
  | [], _ => Int.le_refl 1
  | k :: r, h => by
    have ih := prodL_pos (ns := r) fun j hj => h j (List.mem_cons_of_mem _ hj)
    have hk := h k (List.mem_cons_self ..)
    rw [prodL_cons]
    have := Int.mul_le_mul (show (1 : Int) ≤ k by omega) ih (by decide) (by omega)
    omega
theorem prodL_one : ∀ {ns : List Int}, Two ns → prodL ns ≤ 1 → ns = []
  | [], _, _ => rfl
  | k :: r, h, h1 => by
    have ih := prodL_pos (ns := r) fun j hj => h j (List.mem_cons_of_mem _ hj)
    have hk := h k (List.mem_cons_self ..)
    rw [prodL_cons] at h1
    have := Int.mul_le_mul hk ih (by decide) (by omega)
    omega
theorem once_mul (n : Int) {k : Int} (hk : 2 ≤ k) : k * once n k = n + (k - 1) * (n % k) := by
  have e := Int.mul_ediv_add_emod n k
  unfold once
  rw [Int.mul_add, Int.sub_mul, Int.one_mul]
  omega
theorem sqz_ge : ∀ {ns : List Int} {n : Int}, 0 ≤ n → Two ns → n ≤ prodL ns * sqz n ns
  | [], n, _, _ => by simp [prodL, sqz]
  | k :: r, n, h0, h => by
    have t : Two r := fun j hj => h j (List.mem_cons_of_mem _ hj)
    have hk := h k (List.mem_cons_self ..)
    have ih := sqz_ge (ns := r) (once_nn h0 hk) t
    have e := once_mul n hk
    have hm := Int.emod_nonneg n (show k ≠ 0 by omega)
    have := Int.mul_nonneg (show 0 ≤ k - 1 by omega) hm
    have := Int.mul_le_mul_of_nonneg_left ih (show 0 ≤ k by omega)
    rw [prodL_cons, sqz_cons, Int.mul_assoc]
    omega
theorem slack_cons (k : Int) (r : List Int) : slack (k :: r) = (k - 1) + slack r := by simp [slack]
theorem slack_nn : ∀ {ns : List Int}, Two ns → 0 ≤ slack ns
  | [], _ => Int.le_refl 0
  | k :: r, h => by
    have ih := slack_nn (ns := r) fun j hj => h j (List.mem_cons_of_mem _ hj)
    have hk := h k (List.mem_cons_self ..)
    rw [slack_cons]
    omega
theorem sqz_up : ∀ {ns : List Int} {n : Int}, 0 ≤ n → Two ns → prodL ns * sqz n ns ≤ n + prodL ns * slack ns
  | [], n, _, _ => by simp [prodL, sqz, slack]
  | k :: r, n, h0, h => by
    have t : Two r := fun j hj => h j (List.mem_cons_of_mem _ hj)
    have hk := h k (List.mem_cons_self ..)
    have ih := sqz_up (ns := r) (once_nn h0 hk) t
    have e := once_mul n hk
    have hl := Int.emod_lt_of_pos n (show 0 < k by omega)
    have p := prodL_pos t
    have a1 : (k - 1) * (n % k) ≤ (k - 1) * k := Int.mul_le_mul_of_nonneg_left (by omega) (by omega)
    have a2 := Int.mul_le_mul_of_nonneg_left ih (show 0 ≤ k by omega)
    -- k * (prodL r * x) ≤ k * once n k + k * prodL r * slack r
    have a3 : k * prodL r * (k - 1) = (k - 1) * k * prodL r := by
      rw [Int.mul_comm (k * prodL r), Int.mul_assoc]
    have a4 : (k - 1) * k * 1 ≤ (k - 1) * k * prodL r := Int.mul_le_mul_of_nonneg_left p (Int.mul_nonneg (by omega) (by omega))
    rw [prodL_cons, sqz_cons, slack_cons, Int.mul_add (k * prodL r), a3, Int.mul_assoc k (prodL r) (sqz _ _)]
    rw [Int.mul_add, ← Int.mul_assoc] at a2
    rw [← Int.mul_assoc] at a2
    rw [← Int.mul_assoc]
    omega
theorem sqz_mul : ∀ {ns : List Int} {m : Int}, Two ns → sqz (m * prodL ns) ns = m
  | [], m, _ => by simp [prodL, sqz]
  | k :: r, m, h => by
    have hk := h k (List.mem_cons_self ..)
    have e : m * prodL (k :: r) = (m * prodL r) * k + 0 := by
      rw [prodL_cons, Int.add_zero, Int.mul_assoc, Int.mul_comm k]
    rw [sqz_cons, e, once_qr (by omega) (by omega), Int.add_zero]
    exact sqz_mul fun j hj => h j (List.mem_cons_of_mem _ hj)
theorem slack_le : ∀ {ns : List Int} {g : Int}, (∀ k ∈ ns, k ≤ g) → slack ns ≤ ns.length * (g - 1)
  | [], g, _ => by simp [slack]
  | k :: r, g, h => by
    have ih := slack_le (ns := r) (g := g) fun j hj => h j (List.mem_cons_of_mem _ hj)
    have hk := h k (List.mem_cons_self ..)
    rw [slack_cons, List.length_cons]
    have : ((r.length + 1 : Nat) : Int) * (g - 1) = r.length * (g - 1) + (g - 1) := by
      rw [Int.natCast_add, Int.add_mul]
      simp
    omega
theorem prodL_le : ∀ {ns : List Int} {g : Int} {n : Nat}, Two ns → (∀ k ∈ ns, k ≤ g) → ns.length ≤ n → 1 ≤ g → prodL ns ≤ g ^ n
  | [], g, n, _, _, _, hg => by
    show (1 : Int) ≤ g ^ n
    exact Int.pow_pos (show 0 < g by omega)
  | k :: r, g, 0, _, _, hl, _ => by simp at hl
  | k :: r, g, n + 1, h, hk, hl, hg => by
    have ih := prodL_le (ns := r) (g := g) (n := n) (fun j hj => h j (List.mem_cons_of_mem _ hj)) (fun j hj => hk j (List.mem_cons_of_mem _ hj)) (by simpa using hl) hg
    have p := prodL_pos (ns := r) fun j hj => h j (List.mem_cons_of_mem _ hj)
    have k2 := h k (List.mem_cons_self ..)
    rw [prodL_cons, Int.pow_succ, Int.mul_comm]
    exact Int.mul_le_mul ih (hk k (List.mem_cons_self ..)) (by omega) (by omega)
/-- the product is told by one long run -/
theorem told_prod {ns : List Int} {b s : Int} (h : Two ns) (hb : prodL ns ≤ b) (hs : slack ns < s) : ((s * b * (b + 1)) + sqz (s * b * (b + 1)) ns - 1) / sqz (s * b * (b + 1)) ns = prodL ns := by
  have p := prodL_pos h
  have s0 := slack_nn h
  have L0 : 0 ≤ s * b * (b + 1) := Int.mul_nonneg (Int.mul_nonneg (by omega) (by omega)) (by omega)
  have g := sqz_ge L0 h
  have u := sqz_up L0 h
  generalize hL : s * b * (b + 1) = L at *
  generalize hx : sqz L ns = x at *
  generalize hP : prodL ns = Pr at *
  generalize hS : slack ns = S at *
  -- (Pr - 1) * x < L ≤ Pr * x
  have e1 : Pr * S * Pr ≤ S * b * b := by
    have a := Int.mul_le_mul hb hb (by omega) (by omega : 0 ≤ b)
    have c := Int.mul_le_mul_of_nonneg_left a s0
    have d1 : Pr * S * Pr = S * (Pr * Pr) := by rw [Int.mul_comm Pr S, Int.mul_assoc]
    have d2 : S * b * b = S * (b * b) := Int.mul_assoc _ _ _
    omega
  have e2 : S * b * b + b < L := by
    have a1 : (S + 1) * b * (b + 1) ≤ s * b * (b + 1) := Int.mul_le_mul_of_nonneg_right (Int.mul_le_mul_of_nonneg_right (by omega) (by omega)) (by omega)
    have a2 : (S + 1) * b * (b + 1) = S * b * b + S * b + (b * b + b) := by
      rw [Int.add_mul, Int.one_mul, Int.mul_add, Int.mul_one, Int.add_mul]
      omega
    have a3 := Int.mul_nonneg s0 (show 0 ≤ b by omega)
    have a4 := Int.mul_le_mul (show (1 : Int) ≤ b by omega) (show (1 : Int) ≤ b by omega) (by decide) (by omega)
    omega
  have xpos : 0 < x := by
    rcases Int.lt_or_le 0 x with z | z
    · exact z
    · have := Int.mul_nonpos_of_nonneg_of_nonpos (show 0 ≤ Pr by omega) z
      have := Int.mul_nonneg (Int.mul_nonneg s0 (show 0 ≤ b by omega)) (show 0 ≤ b by omega)
      omega
  have lo : (Pr - 1) * x < L := by
    -- Pr * ((Pr - 1) * x) ≤ (Pr - 1) * (L + Pr * S) < Pr * L
    have a1 := Int.mul_le_mul_of_nonneg_left u (show 0 ≤ Pr - 1 by omega)
    have a2 : (Pr - 1) * (Pr * x) = Pr * ((Pr - 1) * x) := by
      rw [← Int.mul_assoc, ← Int.mul_assoc, Int.mul_comm (Pr - 1) Pr]
    have a3 : (Pr - 1) * (L + Pr * S) = Pr * L - L + (Pr * S * Pr - Pr * S) := by
      rw [Int.sub_mul, Int.one_mul, Int.mul_add, Int.mul_comm Pr (Pr * S)]
      omega
    have a4 := Int.mul_nonneg (show 0 ≤ Pr by omega) s0
    rcases Int.lt_or_le ((Pr - 1) * x) L with z | z
    · exact z
    · have := Int.mul_le_mul_of_nonneg_left z (show 0 ≤ Pr by omega)
      omega
  have q1 : L + x - 1 = (L - (Pr - 1) * x - 1) + Pr * x := by
    rw [Int.sub_mul, Int.one_mul]
    omega
  rw [q1, Int.add_mul_ediv_right _ _ (by omega), Int.ediv_eq_zero_of_lt (by omega) (by rw [Int.sub_mul, Int.one_mul]; omega)]
  omega
/-- the next number of the list is told by runs below the product -/
theorem next_hit {k : Int} {r : List Int} (h : Two (k :: r)) : sqz (prodL (k :: r) - k + 1) (k :: r) = 1 := by
  have t : Two r := fun j hj => h j (List.mem_cons_of_mem _ hj)
  have hk := h k (List.mem_cons_self ..)
  have e : prodL (k :: r) - k + 1 = (prodL r - 1) * k + 1 := by
    rw [prodL_cons, Int.sub_mul, Int.one_mul, Int.mul_comm]
  rw [sqz_cons, e, once_qr (by omega) (by omega)]
  have := sqz_mul (m := 1) t
  rw [Int.one_mul] at this
  rw [show prodL r - 1 + 1 = prodL r by omega]
  exact this
theorem next_miss {k j : Int} {r : List Int} (h : Two (k :: r)) (hj : 2 ≤ j) (hjk : j < k) : 1 < sqz (prodL (k :: r) - j + 1) (k :: r) := by
  have t : Two r := fun j hj => h j (List.mem_cons_of_mem _ hj)
  have hk := h k (List.mem_cons_self ..)
  have p := prodL_pos t
  have e : prodL (k :: r) - j + 1 = (prodL r - 1) * k + (k - j + 1) := by
    rw [prodL_cons, Int.sub_mul, Int.one_mul, Int.mul_comm]
    omega
  rw [sqz_cons, e, once_qr (by omega) (by omega)]
  have g := sqz_ge (n := prodL r - 1 + (k - j + 1)) (by omega) t
  rcases Int.lt_or_le 1 (sqz (prodL r - 1 + (k - j + 1)) r) with z | z
  · exact z
  · have := Int.mul_le_mul_of_nonneg_left z (show 0 ≤ prodL r by omega)
    omega
end Sq


set_option Elab.async false
set_option maxRecDepth 100000
set_option maxHeartbeats 2000000
/-! a method without arguments that may raise -/
namespace Sq
open PySem PySem.Spec PyProof.Rows L2
section
variable {X : Cx} {W : WX} {k j : Nat} {C : Addr} {m : Str} {sp : Sp} {pos apos : Pos} {o : Expr} {ta : TE}
theorem pe_m0x {pl : Sem Bool} (c : MetX X.prog X.w X.K X.mg X.base k C m sp) (hr : Room j X.A) (hk : k ≤ j) (tk : Takes X W) (he : PE X o ta)
    (ht : eval (.Call (.Attribute o m apos) [] [] pos) X.env = (do
      let ov ← eval o X.env
      standAt apos.atName
      let (f, first) ← holding [ov] (getMethod ov m pl)
      callWith pos f first (backTo pos (starEach [] X.env)) (backToKw pos (keywordEach [] X.env))) := by rfl) : PE X (.Call (.Attribute o m apos) [] [] pos) (tMethS C m sp (WE W) ta tNil) := by
  obtain ⟨f, fd, ps, cl, hm, F, b⟩ := c.ex
  refine ⟨fun pins s σ H Q I h => PySem.W.methodCall_KW (pl := pl) (thn (he.run pins s σ H _ I h) fun u s1 hh => ?_) ht⟩
  obtain ⟨x, H1, I1, rx, a, dx, fs, rfl, ea, l, q⟩ := hh
  obtain rfl : u = Value.ref a := rx
  exact getmeth_ok I1 ea cl hm l (PySem.W.callWith_K0 (first := [.ref a]) I1.kIn hm.kp (run_fnS (us := [.ref a]) (vs := [.ref a]) F (hr.mono hk) b (passAt tk σ) I1 (.cons rfl .nil) q))
end
section
variable {P : Program} {w : World} {K : PySem.W.Frag} {mg : Str → Option Value} {base : Heap} {C : Addr} {x qual : Str} {st : Stmt} {ps ks N : List Str} {k : Nat} {sp spk : Sp}
/-- a new object, by place and by keywords -/
theorem IniAt.mak2 (D : IniAt K mg C x qual st ps) (S : FnScope N ps (defScope st)) (len : ∀ vs H Q E, sp vs H Q E → vs.length = ps.length)
    (hb : ∀ (f : Addr) (cdv : Value) (A : Around) (outer : List Env) (s : Shared) (H : Hp) (vs : List V) (Q : VK) (E : XK), Room k (A.deeper (envOfC qual (defScope st) s.heap.objs.size f cdv)) → sp vs H Q E →
      ∃ t, PSs (cxOf CX0 P w K mg base N qual (defScope st) f cdv A outer s H E).nox (defBody st) t ∧ t { nx := fun _ H' => Q .non H', rt := Q } (start N vs) H)
    (g : {α : Type} → α → List α → List α) (hg : ∀ {v : V} {u : Value} {vs : List V} {us : List Value}, RelV v u → Vals vs us → Vals (g v vs) (g u us))
    (h : ∀ (kV doc pm : Value) (an : Option Addr) (cdv ct u : Value) (ws : List Value), ws.length = ks.length →
      bindArgs (PySem.W.fnOf "__init__" qual (defArgs st) (defBody st) (defScope st) .none kV doc pm an cdv ct) ⟨[u], ks.zip ws⟩ = pure (ps.zip (g u ws)))
    (hs : ∀ x zs H Q E, spk (x :: zs) H Q E → zs.length = ks.length ∧ sp (g x zs) H Q E) : Mak P w K mg base (k + 1) x C sp ∧ MakK P w K mg base (k + 1) x C ks spk := by
  obtain ⟨f, fd, F, hm, hg2, b⟩ := D.ex
  have ok := F.ok S len fun cdv A outer s H vs Q E => hb f cdv A outer s H vs Q E
  exact ⟨⟨f, fd, ps, hm, ok, hg2, b⟩, ⟨f, fd, ps, _, _, _, hm, ok, hg2, kbn_self F g hg h, hs⟩⟩
end
end Sq


set_option Elab.async false
set_option maxRecDepth 100000
set_option maxHeartbeats 2000000
/-! == and != of an object with an __eq__ of its own, whatever it answers -/
namespace Sq
open PySem PySem.Spec PyProof.Rows L2
section
variable {prog : Program} {w : World} {A : Around} {E : Value → Shared → Prop} {s : Shared} {K : PySem.W.Frag} {x C L f : Addr} {h₀ : Heap} {m : Str → Option Value} {ox : Obj} {od : Option Obj} {b tb : Value}
theorem ifBound_ne {M : Model} {args : List Value} {Q : Option Value → Shared → Prop} (X : K.In s.heap) (I : PySem.W.InstAt s.heap x ox C od) (hs : PySem.W.findIn K (.ref C) "__ne__" = some (some (.builtin "object.__ne__")))
    (h : wpAny M A (call (.builtin "object.__ne__") (.ref x :: args)) (fun v => Q (some v)) E s) : wpAny M A (callSpecialIfBound? (.ref x) "__ne__" args) Q E s := by
  simp only [callSpecialIfBound?, bindSpecialIfBound?]
  refine wpAny_holding (wpAny_bind (wpAny_bind (wpAny_bind (I.type.here ((PySem.W.looks_findIn X hs).here ?_)))))
  refine wpAny_bind (wpAny_askSetting (wpAny_ite ?_))
  have fin : wpAny M A (call (.builtin "object.__ne__") ([.ref x] ++ args) >>= fun v => pure (some v)) Q E s := wpAny_bind (wpAny_mono h (fun v s' h' => wpAny_pure h') fun _ _ h' => h')
  split
  · exact wpAny_bind (wpAny_of_eq (F.cmp_object.ne.bind _) (wpAny_pure (by exact fin)))
  · exact wpAny_tryCatch (wpAny_bind (wpAny_of_eq (F.cmp_object.ne.bind _) (wpAny_pure (by exact fin))))
theorem objNe_entry {Q : Fin → Shared → Prop} (hu : A.units < cLine) (X : K.In s.heap) (I : PySem.W.InstAt s.heap x ox C od) (hs : PySem.W.findIn K (.ref C) "__eq__" = some (some (.ref f))) (hf : PySem.W.isFn K (.ref f) = true)
    (h : wpAny (model prog w) A (call (.ref f) [.ref x, b]) (fun v s' => ∃ r, v = .bool r ∧ Q (.done (.ret (.bool (!r)))) s') E s) : wpAny (model prog w) A (Builtin.«object.__ne__» ⟨[.ref x, b], []⟩) Q E s := by
  unfold Builtin.«object.__ne__»
  repeat (first
    | with_reducible refine wpAny_cRoomFor hu ?_
    | (refine wpAny_bind (m := callSpecialIfBound? (.ref x) (Str.ofString "__eq__") [b])
        (PySem.W.ifBound_K X I hs hf (wpAny_mono h (fun r s' hr => by
          obtain ⟨b, rfl, hq⟩ := hr
          repeat (first | exact hq | exact wpAny_pure hq | exact wpAny_truthy_bool hq | (refine wpAny_bind (m := truthy (.bool _)) (wpAny_truthy_bool ?_)) | wp_step)) fun _ _ e => e)))
    | wp_step)
theorem call_objNe {Q : Value → Shared → Prop} (hu : A.in1.units < cLine) (X : K.In s.heap) (I : PySem.W.InstAt s.heap x ox C od) (hm : PySem.W.mroIn K C (.type "object") = some true) (hs : PySem.W.findIn K (.ref C) "__eq__" = some (some (.ref f))) (hf : PySem.W.isFn K (.ref f) = true)
    (h : wpAny (model prog w) A.in1 (call (.ref f) [.ref x, b]) (fun v s' => ∃ r, v = .bool r ∧ Q (.bool (!r)) s') E s) : wpAny (model prog w) A (call (.builtin "object.__ne__") [.ref x, b]) Q E s :=
  wpAny_call (codeAny_call_builtin F.cmp_object.ne.plain F.cmpEntry_ne (PySem.W.check_slot F.cmpKind_ne F.cmpSplit_ne (I.type.andThen (PySem.W.looks_mroIn X hm)) (F.cmpArgs_ne _ _) (objNe_entry hu X I hs hf h)))
theorem cmp_ne {Q : Value → Shared → Prop} (hu : A.units + 1 < cLine) (F : Fr h₀ L s.heap m) (X₀ : K.In h₀) (I : PySem.W.InstAt s.heap x ox C od) (hb : PySem.W.Looks (model prog w) s.heap (typeOf b) tb) (hn : PySem.W.notFirst K C tb = true)
    (hm : PySem.W.mroIn K C (.type "object") = some true) (hne : PySem.W.findIn K (.ref C) "__ne__" = some (some (.builtin "object.__ne__"))) (hs : PySem.W.findIn K (.ref C) "__eq__" = some (some (.ref f))) (hf : PySem.W.isFn K (.ref f) = true)
    (h : wpAny (model prog w) A.in1 (call (.ref f) [.ref x, b]) (fun v s' => ∃ r, v = .bool r ∧ Q (.bool (!r)) s') E s) : wpAny (model prog w) A (richCompare .NotEq (.ref x) b) Q E s := by
  have X := X₀.keeps F.keep
  have one : wpAny (model prog w) A (tryCompare (.ref x) "__ne__" b) (fun r s' => ∃ v, r = some v ∧ Q v s') E s := by
    unfold tryCompare
    refine wpAny_bind (ifBound_ne X I hne (call_objNe hu X I hm hs hf (wpAny_mono h (fun v s' hv => ?_) fun _ _ e => e)))
    obtain ⟨r, rfl, q⟩ := hv
    exact ⟨r, rfl, wpAny_pure ⟨_, rfl, q⟩⟩
  unfold richCompare
  simp only [oneThing_ref]
  refine wpAny_holding (wpAny_bind (wpAny_cRoomFor (Nat.lt_of_succ_lt hu) ?_))
  refine wpAny_bind (I.type.here (wpAny_bind (hb.here ?_)))
  split
  · rename_i q
    have e : PySem.W.subIn K tb (.ref C) = some false := by
      rcases Bool.or_eq_true_iff.mp hn with e | e
      · rw [beq_iff_eq.mp e] at q; simp at q
      · exact beq_iff_eq.mp e
    refine wpAny_bind ((PySem.W.looks_subIn X e).here ?_)
    simp only [Bool.false_eq_true, if_false]
    refine wpAny_bind (wpAny_mono one (fun r s' z => ?_) fun _ _ e => e)
    obtain ⟨v, rfl, hq⟩ := z
    exact wpAny_pure hq
  · refine wpAny_bind (wpAny_pure ?_)
    simp only [Bool.false_eq_true, if_false]
    refine wpAny_bind (wpAny_mono one (fun r s' z => ?_) fun _ _ e => e)
    obtain ⟨v, rfl, hq⟩ := z
    exact wpAny_pure hq
end
/-! the rules -/
/-- what is known of a value's type, without its being looked up -/
def tyNm : V → Option String
  | .str _ => some "str"
  | .int _ => some "int"
  | .non => some "NoneType"
  | _ => none
section
variable {X : Cx} {C : Addr} {k j : Nat} {sp : Sp}
/-- a class whose objects have an __eq__ of their own, and no __ne__ -/
structure OwnE (K : PySem.W.Frag) (C : Addr) : Prop where
  ob : PySem.W.mroIn K C (.type "object") = some true
  ne : PySem.W.findIn K (.ref C) "__ne__" = some (some (.builtin "object.__ne__"))
/-- the other one: an object of the class, or a text, a number, None -/
def Oth (K : PySem.W.Frag) (C : Addr) (y : V) (H : Hp) : Prop := (∃ b dy gs, y = .ref b ∧ H b = some (.ins C dy gs)) ∨ (∃ n, tyNm y = some n ∧ PySem.W.notFirst K C (.type n) = true)
theorem oth_looks {pins : List (Addr × Obj)} {σ : L2.St} {H : Hp} {s : Shared} {y : V} {u : Value} (I : Inv X pins σ H s) (h : Oth X.K C y H) (r : RelV y u) : ∃ tb, PySem.W.Looks (model X.prog X.w) s.heap (typeOf u) tb ∧ PySem.W.notFirst X.K C tb = true := by
  rcases h with ⟨b, dy, gs, rfl, hb⟩ | ⟨n, e, hn⟩
  · cases r
    obtain ⟨mB, J', _⟩ := ins_get I.hok hb
    obtain ⟨od', J', _⟩ := J'.look
    exact ⟨.ref C, J'.type, by simp [PySem.W.notFirst]⟩
  · refine ⟨.type n, ?_, hn⟩
    cases y with
    | str a =>
      obtain ⟨t, rfl⟩ := r
      cases e
      exact PySem.W.Looks.of_pure rfl
    | int i =>
      obtain ⟨t, rfl⟩ := r
      cases e
      exact PySem.W.Looks.of_pure rfl
    | non =>
      cases r
      cases e
      exact PySem.W.Looks.of_pure rfl
    | _ => cases e
def rOwn (K : PySem.W.Frag) (C : Addr) (sp : Sp) (neg : Bool) : R2 := fun x y H Q => ∃ a dx fs, x = .ref a ∧ H a = some (.ins C dx fs) ∧ Oth K C y H ∧ sp [x, y] H (fun v H' => ∃ r, v = .bl r ∧ Q (.bl (if neg = true then !r else r)) H') E0
theorem own_call {pins : List (Addr × Obj)} {σ : L2.St} {H : Hp} {s : Shared} {A : Around} {f : Addr} {fd : FuncData} {ps : List Str} {a : Addr} {y : V} {u : Value} {Q : Bool → Hp → Prop} (F : FnOk X.prog X.w X.K X.mg X.base CX0 k f fd ps sp) (hb : L2.Binds X.K fd ps []) (I : Inv X pins σ H s) (hA : A.frames = X.A.frames) (hr : Room k A) (ry : RelV y u)
    (h : sp [.ref a, y] H (fun v H' => ∃ r, v = .bl r ∧ Q r H') E0) : wpAny (model X.prog X.w) A (call (.ref f) [.ref a, u]) (fun v s' => ∃ r H', v = .bool r ∧ Inv X pins σ H' s' ∧ Q r H') X.xe s := by
  have e0 : Env0 X.prog X.w X.K X.mg X.base A X.stack s H := by
    have e := I.env0
    exact ⟨by rw [hA]; exact e.frames, e.mod, e.bs, e.bsz, e.funs, e.frf, e.hok, e.bare⟩
  have hl := F.len _ _ _ _ h
  have r2 : Vals [V.ref a, y] [Value.ref a, u] := .cons rfl (.cons ry .nil)
  refine wpAny_call (codeAny_mono (F.run A X.stack s H ⟨[.ref a, u], []⟩ [.ref a, u] [.ref a, y] _ E0 hr e0 (by
    have := hb s [.ref a, u] I.kIn (by simpa using hl)
    simpa using this) r2 h) fun r s' hq => ?_)
  cases r with
  | error e => exact pass0 pins σ H s e s' I hq
  | ok fl =>
    cases fl with
    | ret w =>
      obtain ⟨z, H', I', rz, b, ez, q⟩ := I.after hq
      subst ez
      cases rz
      exact ⟨b, H', rfl, I', q⟩
    | next => exact False.elim hq
    | brk => exact False.elim hq
    | cont => exact False.elim hq
theorem op_own (c : Met X.prog X.w X.K X.mg X.base k C "__eq__" sp) (hr : Room j X.A) (hk : k ≤ j) : OpR X (compareOp .Eq) (rOwn X.K C sp false) := by
  obtain ⟨f, fd, ps, c1, c2, F, hb⟩ := c.ex
  intro pins s σ H x y v u Q I rx ry ⟨a, dx, fs, ex, ha, ho, q⟩
  subst ex
  cases rx
  obtain ⟨mA, J, _⟩ := ins_get I.hok ha
  obtain ⟨od, J, _⟩ := J.look
  obtain ⟨m, hF⟩ := I.fr
  obtain ⟨tb, lt, hn⟩ := oth_looks I ho ry
  have rm := hr.mono hk
  refine PySem.W.cmp_K (op := .Eq) rm.units0 hF I.ok.mod.kin J lt hn c2.at_ c2.fn (wpAny_mono (own_call F hb I rfl rm ry q) (fun v s' z => ?_) fun _ _ z => z)
  obtain ⟨r, H', rfl, I', q'⟩ := z
  exact ⟨.bl r, H', I', rfl, q'⟩
theorem op_ownNe (c : Met X.prog X.w X.K X.mg X.base k C "__eq__" sp) (o : OwnE X.K C) (hr : Room j X.A) (hk : k + 1 ≤ j) : OpR X (compareOp .NotEq) (rOwn X.K C sp true) := by
  obtain ⟨f, fd, ps, c1, c2, F, hb⟩ := c.ex
  intro pins s σ H x y v u Q I rx ry ⟨a, dx, fs, ex, ha, ho, q⟩
  subst ex
  cases rx
  obtain ⟨mA, J, _⟩ := ins_get I.hok ha
  obtain ⟨od, J, _⟩ := J.look
  obtain ⟨m, hF⟩ := I.fr
  obtain ⟨tb, lt, hn⟩ := oth_looks I ho ry
  have rm := hr.mono hk
  refine cmp_ne (by have := rm.units; omega) hF I.ok.mod.kin J lt hn o.ob o.ne c2.at_ c2.fn (wpAny_mono (own_call F hb I rfl rm.in1 ry q) (fun v s' z => ?_) fun _ _ z => z)
  obtain ⟨r, H', rfl, I', q'⟩ := z
  exact ⟨r, rfl, .bl (!r), H', I', rfl, q'⟩
end
end Sq


set_option Elab.async false
set_option maxRecDepth 100000
set_option maxHeartbeats 2000000
/-! x not in [..] for an object x with an __eq__ of its own -/
namespace Sq
open PySem PySem.Spec PyProof.Rows L2 PySem.SeqAt
open AutoSeq1 (wpAny_loadPart')
open MeetsSeq MeetsSeq2 MeetsSeq3 SeqRoads2
section
variable {prog : Program} {w : World} {A : Around} {E : Value → Shared → Prop} {s : Shared} {K : PySem.W.Frag} {C l dx : Addr}
theorem dec_str {b : Str} {u : Tok} {R : Fin → Shared → Prop} (hl : s.heap.get? l = some (PySem.W.instObj C dx)) (h : R (.done (.ret .notImplemented)) s) : wpAny (model prog w) A (Builtin.«str.__eq__» ⟨[.str b u, .ref l], []⟩) R E s := by
  obtain ⟨hp, g, d, tk, os⟩ := s
  unfold PySem.W.instObj at hl
  wp_walk using wpAny_loadPart' hl, wpAny_load hl
  exact h
theorem dec_int {b : Int} {u : Tok} {R : Fin → Shared → Prop} (hl : s.heap.get? l = some (PySem.W.instObj C dx)) (h : R (.done (.ret .notImplemented)) s) : wpAny (model prog w) A (Builtin.«int.__eq__» ⟨[.int b u, .ref l], []⟩) R E s := by
  obtain ⟨hp, g, d, tk, os⟩ := s
  unfold PySem.W.instObj at hl
  wp_walk using wpAny_loadPart' hl, wpAny_load hl
  exact h
theorem dec_list {a : Addr} {items : Array Value} {n : Nat} {R : Fin → Shared → Prop} (X : K.In s.heap) (hs : PySem.W.subIn K (.ref C) (.type "list") = some false) (ha : s.heap.get? a = some { cls := .type "list", data := .seq items n }) (hl : s.heap.get? l = some (PySem.W.instObj C dx)) (h : R (.done (.ret .notImplemented)) s) :
    wpAny (model prog w) A (Builtin.«list.__eq__» ⟨[.ref a, .ref l], []⟩) R E s := by
  have f1 := PySem.W.looks_subIn (M := model prog w) X hs
  obtain ⟨hp, g, d, tk, os⟩ := s
  unfold PySem.W.instObj at hl
  wp_walk using wpAny_loadPart' hl, wpAny_loadPart' ha, wpAny_load hl
  refine f1.here ?_
  wp_walk
  exact h
theorem dec_tup {a : Addr} {o : Obj} {items : Array Value} {n : Nat} {R : Fin → Shared → Prop} (X : K.In s.heap) (hs : PySem.W.subIn K (.ref C) (.type "tuple") = some false) (ha : s.heap.get? a = some o) (oc : o.cls = .type "tuple") (od : o.data = .seq items n) (hl : s.heap.get? l = some (PySem.W.instObj C dx)) (h : R (.done (.ret .notImplemented)) s) :
    wpAny (model prog w) A (Builtin.«tuple.__eq__» ⟨[.ref a, .ref l], []⟩) R E s := by
  have f1 := PySem.W.looks_subIn (M := model prog w) X hs
  obtain ⟨cls, dd, data, sl⟩ := o
  simp only at oc od
  subst oc od
  obtain ⟨hp, g, d, tk, os⟩ := s
  unfold PySem.W.instObj at hl
  wp_walk using wpAny_loadPart' hl, wpAny_loadPart' ha, wpAny_load hl
  refine f1.here ?_
  wp_walk
  exact h
/-- the left one declines, the object's own __eq__ answers -/
theorem rc_own {item : Value} {T : String} {id : String} {f : Addr} {ox : Obj} {od : Option Obj} {Q : Value → Shared → Prop} (hu : A.units < cLine) (hT : s.TypeIs item T) (slot : Slot T "__eq__" id) (X : K.In s.heap) (I : PySem.W.InstAt s.heap l ox C od) (hsub : PySem.W.subIn K (.ref C) (.type T) = some false)
    (dec : ∀ Q' : Value → Shared → Prop, Q' .notImplemented s → wpAny (model prog w) A (call (.builtin id) [item, .ref l]) Q' E s)
    (hs : PySem.W.findIn K (.ref C) "__eq__" = some (some (.ref f))) (hf : PySem.W.isFn K (.ref f) = true) (h : wpAny (model prog w) A (call (.ref f) [.ref l, item]) (PySem.W.CmpBack Q) E s) : wpAny (model prog w) A (richCompare .Eq item (.ref l)) Q E s := by
  have one : wpAny (model prog w) A (tryCompare item "__eq__" (.ref l)) (fun r s' => r = none ∧ s' = s) E s := wpAny_tryCompare_declines hT slot (dec _ ⟨rfl, rfl, rfl⟩)
  have two : wpAny (model prog w) A (tryCompare (.ref l) "__eq__" item) (fun r s' => ∃ v, r = some v ∧ Q v s') E s := by
    unfold tryCompare
    refine wpAny_bind (PySem.W.ifBound_K X I hs hf (wpAny_mono h (fun v s' hv => ?_) fun _ _ e => e))
    cases v <;> first | exact hv.elim | exact wpAny_pure ⟨_, rfl, hv⟩
  unfold richCompare
  simp only [cmpInfo_Eq, hT.oneThing_none]
  refine wpAny_holding (wpAny_bind (wpAny_cRoomFor hu ?_))
  refine wpAny_bind (wpAny_typeOf hT ?_)
  refine wpAny_bind (I.type.here ?_)
  split
  · refine wpAny_bind ((PySem.W.looks_subIn X hsub).here ?_)
    simp only [Bool.false_eq_true, if_false, Bool.not_false, if_true]
    refine wpAny_bind (m := tryCompare item _ (.ref l)) (wpAny_mono one (fun r s1 z => ?_) fun _ _ e => e)
    obtain ⟨z1, z2⟩ := z
    subst z1
    subst z2
    refine wpAny_bind (m := tryCompare (.ref l) _ item) (wpAny_mono two (fun r s2 z => ?_) fun _ _ e => e)
    obtain ⟨v, rfl, hq⟩ := z
    exact wpAny_pure hq
  · rename_i q
    exact absurd (by simp) q
end
section
variable {prog : Program} {w : World} {A : Around} {R : Result → Shared → Prop}
/-- at each turn the list is read anew, and its item is not x -/
def ListN (prog : Program) (w : World) (A : Around) (E : Value → Shared → Prop) (l : Addr) (x : Value) (N : Nat) (I : Nat → Shared → Prop) : Prop :=
  ∀ i s, I i s → ∃ (items : Array Value) (n : Nat), s.heap.get? l = some { cls := .type "list", data := .seq items n } ∧ items.size = N ∧
    ∀ (h1 : i < items.size), wpAny (model prog w) A.in1 (eqBool items[i] x) (fun r s' => r = false ∧ I (i + 1) s') E s
theorem notin_loop (l : Addr) (x : Value) (N : Nat) (I : Nat → Shared → Prop) (hl : ListN prog w A (fun e s' => R (.error e) s') l x N I) (fin : ∀ s, I N s → R (.ok (.ret (.bool false))) s) (k : Nat) :
    ∀ i : Nat, N - i = k → i ≤ N → ∀ s, I i s → wpAny (model prog w) A.in1 (Builtin.«list.__contains__.loop» ⟨[.ref l, x, rawInt i], []⟩) (GQ.FinOf prog w A R) (fun e s' => R (.error e) s') s := by
  induction k with
  | zero =>
    intro i hk hi s h
    obtain ⟨items, n, hl1, hs1, _⟩ := hl _ _ h
    have hi' : i = N := by omega
    have hR : R (.ok (.ret (.bool false))) s := fin s (hi' ▸ h)
    obtain ⟨hp, g, d, tk, os⟩ := s
    wp_walk using wpAny_loadPart' hl1
    have hi1 : items[((i : Nat) : Int).toNat]? = none := by simp; omega
    rw [hi1]
    wp_walk
    exact hR
  | succ k ih =>
    intro i hk hi s h
    obtain ⟨items, n, hl1, hs1, turn⟩ := hl _ _ h
    have hlt : i < items.size := by omega
    have ht := turn hlt
    obtain ⟨hp, g, d, tk, os⟩ := s
    wp_walk using wpAny_loadPart' hl1
    have hi1 : items[((i : Nat) : Int).toNat]? = some items[i] := by simp [hlt]
    have hc : ((i : Int) + 1) = ((i + 1 : Nat) : Int) := by omega
    rw [hi1]
    refine wpAny_bind (wpAny_mono ht (fun r s2 h2 => ?_) fun _ _ x => x)
    obtain ⟨hr, h2⟩ := h2
    subst hr
    have hrec := ih (i + 1) (by omega) (by omega) s2 h2
    obtain ⟨hp2, g2, d2, tk2, os2⟩ := s2
    wp_walk
    rw [hc]
    exact ⟨plainId_quiet plain_contains_loop _, codeAny_builtin entry_contains_loop (by
      rw [Around.under_plainId plain_contains_loop _]
      exact hrec)⟩
theorem list_notinG (l : Addr) (x : Value) (N : Nat) (I : Nat → Shared → Prop) (hl : ListN prog w A (fun e s' => R (.error e) s') l x N I) (fin : ∀ s, I N s → R (.ok (.ret (.bool false))) s) {s : Shared} (h : I 0 s) :
    wpAny (model prog w) A.in1 (Builtin.«list.__contains__» ⟨[.ref l, x], []⟩) (GQ.FinOf prog w A R) (fun e s' => R (.error e) s') s := by
  obtain ⟨items, n, hl1, hs1, _⟩ := hl _ _ h
  have hrec := notin_loop (A := A) (R := R) l x N I hl fin _ 0 rfl (Nat.zero_le _) s h
  obtain ⟨hp, g, d, tk, os⟩ := s
  wp_walk using wpAny_loadPart' hl1
  exact ⟨plainId_quiet plain_contains_loop _, codeAny_builtin entry_contains_loop (by
    rw [Around.under_plainId plain_contains_loop _]
    exact hrec)⟩
theorem notin_listG {l : Addr} {x : Value} {N : Nat} {Q : Value → Shared → Prop} {E : Value → Shared → Prop} (I : Nat → Shared → Prop) (hl : ListN prog w A E l x N I) (fin : ∀ s, I N s → Q (.bool true) s) {s : Shared} (h : I 0 s) : wpAny (model prog w) A (compareOp .NotIn x (.ref l)) Q E s := by
  obtain ⟨items, n, hl1, _, _⟩ := hl _ _ h
  show wpAny _ A (do return .bool (!(← contains (.ref l) x))) Q E s
  refine wpAny_bind (wpAny_contains_slot ⟨_, hl1, rfl⟩ F.slot_list_contains (wpAny_mono (GQ.call_here (Q := fun v s' => v = .bool false ∧ Q (.bool true) s') F.slot_list_contains ⟨_, hl1, rfl⟩ F.entry_list_contains (F.args_list_contains_2 _ _) ?_) (fun v s' hv => ?_) fun _ _ e => e))
  · exact list_notinG (R := wants (fun v s' => v = .bool false ∧ Q (.bool true) s') E) l x N I hl (fun s' q => ⟨rfl, fin s' q⟩) h
  · obtain ⟨rfl, q⟩ := hv
    exact wpAny_truthy_bool (wpAny_pure q)
end
end Sq


set_option Elab.async false
set_option maxRecDepth 100000
set_option maxHeartbeats 2000000
namespace Sq
open PySem PySem.Spec PyProof.Rows L2 PySem.SeqAt
section
variable {prog : Program} {w : World} {A : Around} {E : Value → Shared → Prop} {s : Shared}
theorem eqBool_own {item : Value} {l : Addr} {Q : Bool → Shared → Prop} (hne : ¬ (item == Value.ref l) = true) (h : wpAny (model prog w) A (richCompare .Eq item (.ref l)) (fun v s' => ∃ r, v = .bool r ∧ Q r s') E s) : wpAny (model prog w) A (eqBool item (.ref l)) Q E s := by
  have tail : wpAny (model prog w) A (richCompare .Eq item (.ref l) >>= fun v => truthOfDropped v) Q E s := by
    refine wpAny_bind (wpAny_mono h (fun v s' hv => ?_) fun _ _ x => x)
    obtain ⟨r, rfl, q⟩ := hv
    exact wpAny_truthy_bool q
  unfold eqBool
  refine wpAny_holding ?_
  refine wpAny_ite_split (fun hab => absurd hab hne) (fun _ => ?_)
  cases item <;> exact tail
end
/-- an item of a list that is no object of the class -/
def Itm (K : PySem.W.Frag) (C : Addr) (z : V) (H : Hp) : Prop := (∃ n, tyNm z = some n ∧ PySem.W.subIn K (.ref C) (.type n) = some false) ∨ (∃ a xs, z = .ref a ∧ H a = some (.lst xs) ∧ PySem.W.subIn K (.ref C) (.type "list") = some false) ∨ (∃ a xs, z = .ref a ∧ H a = some (.tup xs) ∧ PySem.W.subIn K (.ref C) (.type "tuple") = some false)
def rOwnNotIn (K : PySem.W.Frag) (C : Addr) (sp : Sp) : R2 := fun x y H Q => ∃ a dx fs l zs, x = .ref a ∧ H a = some (.ins C dx fs) ∧ y = .ref l ∧ H l = some (.lst zs) ∧ (∀ z ∈ zs, Itm K C z H) ∧ (∀ z ∈ zs, ∀ H', Same H H' → sp [.ref a, z] H' (fun v H2 => ∃ r, v = .bl r ∧ r = false ∧ Same H' H2) E0) ∧ ∀ H', Same H H' → Q (.bl true) H'
section
variable {X : Cx} {C : Addr} {k j : Nat} {sp : Sp}
theorem turn_own {f : Addr} {fd : FuncData} {ps : List Str} {pins : List (Addr × Obj)} {σ : L2.St} {H H1 : Hp} {s : Shared} {a dx : Addr} {fs : List (Str × V)} {z : V} {u : Value} (c2 : Meth X.K C "__eq__" f) (Fo : FnOk X.prog X.w X.K X.mg X.base CX0 k f fd ps sp) (hb : L2.Binds X.K fd ps []) (hr : Room (k + 1) X.A) (I : Inv X pins σ H1 s) (e : Same H H1) (rz : RelV z u) (ha : H1 a = some (.ins C dx fs)) (hi : Itm X.K C z H1)
    (q : sp [.ref a, z] H1 (fun v H2 => ∃ r, v = .bl r ∧ r = false ∧ Same H1 H2) E0) : wpAny (model X.prog X.w) X.A.in1 (eqBool u (.ref a)) (fun r s' => r = false ∧ ∃ H2, Inv X pins σ H2 s' ∧ Same H H2) X.xe s := by
  obtain ⟨mA, J, _⟩ := ins_get I.hok ha
  have hobj := J.obj
  obtain ⟨od, J, _⟩ := J.look
  have own : wpAny (model X.prog X.w) X.A.in1 (call (.ref f) [.ref a, u]) (PySem.W.CmpBack (fun v s' => ∃ r, v = .bool r ∧ r = false ∧ ∃ H2, Inv X pins σ H2 s' ∧ Same H H2)) X.xe s := wpAny_mono (own_call Fo hb I rfl hr.in1 rz q) (fun v s' z => by
    obtain ⟨r, H2, rfl, I2, rfl, s2⟩ := z
    exact ⟨false, rfl, rfl, H2, I2, e.trans s2⟩) fun _ _ z => z
  have hu : X.A.in1.units < cLine := hr.in1.units0
  rcases hi with ⟨n, en, hs⟩ | ⟨b, xs, rfl, hb', hs⟩ | ⟨b, xs, rfl, hb', hs⟩
  · cases z with
    | str y =>
      obtain ⟨t, rfl⟩ := rz
      cases en
      exact eqBool_own (by simp) (rc_own hu (typeIs_str s y t) F.slot_str_eq I.kIn J hs (fun Q' q' => GQ.call_here F.slot_str_eq (typeIs_str s y t) F.entry_str_eq (F.args_str_eq_2 _ _) (dec_str hobj q')) c2.at_ c2.fn own)
    | int y =>
      obtain ⟨t, rfl⟩ := rz
      cases en
      exact eqBool_own (by simp) (rc_own hu (show s.TypeIs (.int y t) "int" from rfl) F.slot_int_eq I.kIn J hs (fun Q' q' => GQ.call_here F.slot_int_eq (show s.TypeIs (.int y t) "int" from rfl) F.entry_int_eq (F.args_int_eq_2 _ _) (dec_int hobj q')) c2.at_ c2.fn own)
    | non =>
      cases rz
      cases en
      exact eqBool_own (by simp) (rc_own hu (show s.TypeIs .none "NoneType" from rfl) F.slot_NoneType_eq I.kIn J hs (fun Q' q' => call_gives F.slot_NoneType_eq rfl F.entry_NoneType_eq (F.args_NoneType_eq_2 _ _) (NoneType___eq___none_ref_0 a) q') c2.at_ c2.fn own)
    | _ => cases en
  · cases rz
    obtain ⟨zz, its, kk, r, eo⟩ := I.hok b _ hb'
    have ne : b ≠ a := fun x => by
      rw [x, ha] at hb'
      cases hb'
    exact eqBool_own (by simpa using ne) (rc_own hu ⟨_, eo, rfl⟩ F.slot_list_eq I.kIn J hs (fun Q' q' => GQ.call_here F.slot_list_eq ⟨_, eo, rfl⟩ F.entry_list_eq (F.args_list_eq_2 _ _) (dec_list I.kIn hs eo hobj q')) c2.at_ c2.fn own)
  · cases rz
    obtain ⟨its, r, eo, _⟩ := I.tuple (SqT.of hb')
    obtain ⟨o, ho, hc, n, hd⟩ := eo
    have ne : b ≠ a := fun x => by
      rw [x, ha] at hb'
      cases hb'
    exact eqBool_own (by simpa using ne) (rc_own hu ⟨_, ho, hc⟩ F.slot_tuple_eq I.kIn J hs (fun Q' q' => GQ.call_here F.slot_tuple_eq ⟨_, ho, hc⟩ F.entry_tuple_eq (F.args_tuple_eq_2 _ _) (dec_tup I.kIn hs ho hc hd hobj q')) c2.at_ c2.fn own)
theorem op_ownNotIn (c : Met X.prog X.w X.K X.mg X.base k C "__eq__" sp) (hr : Room j X.A) (hk : k + 1 ≤ j) : OpR X (compareOp .NotIn) (rOwnNotIn X.K C sp) := by
  obtain ⟨f, fd, ps, c1, c2, F, hb⟩ := c.ex
  intro pins s σ H x y v u Q I rx ry ⟨a, dx, fs, l, zs, ex, ha, ey, hl, hi, hp, q⟩
  subst ex
  subst ey
  cases rx
  cases ry
  refine notin_listG (N := zs.length) (fun i s' => ∃ H', Inv X pins σ H' s' ∧ Same H H') (fun i s' z => ?_) (fun s' z => ?_) ⟨H, I, .refl _⟩
  · obtain ⟨H1, I1, e1⟩ := z
    obtain ⟨zz, its, kk, r, e⟩ := I1.hok l _ (e1 _ _ hl)
    refine ⟨its.toArray, kk, e, by rw [List.size_toArray, ← r.length], fun h1 => ?_⟩
    have h1' : i < zs.length := by rw [r.length]; simpa using h1
    have gz : zs[i]? = some zs[i] := List.getElem?_eq_getElem h1'
    obtain ⟨u, hu, ru⟩ := r.get gz
    have mz := List.mem_of_getElem? gz
    have g1 : its[i]? = some its.toArray[i] := by
      have h2 : i < its.length := by simpa using h1
      rw [List.getElem?_eq_getElem h2] <;> simp
    rw [g1] at hu
    rw [Option.some.inj hu]
    refine wpAny_mono (turn_own c2 F hb (hr.mono hk) I1 e1 ru (e1 _ _ ha) ?_ (hp _ mz H1 e1)) (fun r s2 z => ?_) fun _ _ z => z
    · rcases hi _ mz with ⟨n, en, hs⟩ | ⟨b, xs, eb, hb', hs⟩ | ⟨b, xs, eb, hb', hs⟩
      · exact .inl ⟨n, en, hs⟩
      · exact .inr (.inl ⟨b, xs, eb, e1 _ _ hb', hs⟩)
      · exact .inr (.inr ⟨b, xs, eb, e1 _ _ hb', hs⟩)
    · exact z
  · obtain ⟨H1, I1, e1⟩ := z
    exact ⟨.bl true, H1, I1, rfl, q H1 e1⟩
theorem op_ownK {K : PySem.W.Frag} (c : Met X.prog X.w K X.mg X.base k C "__eq__" sp) (hr : Room j X.A) (hk : k ≤ j) (h : X.K = K := by rfl) : OpR X (compareOp .Eq) (rOwn K C sp false) := by
  subst h
  exact op_own c hr hk
theorem op_ownNeK {K : PySem.W.Frag} (c : Met X.prog X.w K X.mg X.base k C "__eq__" sp) (o : OwnE K C) (hr : Room j X.A) (hk : k + 1 ≤ j) (h : X.K = K := by rfl) : OpR X (compareOp .NotEq) (rOwn K C sp true) := by
  subst h
  exact op_ownNe c o hr hk
theorem op_ownNotInK {K : PySem.W.Frag} (c : Met X.prog X.w K X.mg X.base k C "__eq__" sp) (hr : Room j X.A) (hk : k + 1 ≤ j) (h : X.K = K := by rfl) : OpR X (compareOp .NotIn) (rOwnNotIn K C sp) := by
  subst h
  exact op_ownNotIn c hr hk
end
end Sq

/-! ## own tactic words (local) -/
local macro_rules | `(tactic| walk_at "sq hp") => `(tactic| first
  | assumption
  | exact L2.upd_same
  | (refine Sq.Sep.get (by assumption) ?_; walk_at "sq hp")
  | (refine Sq.upd_keep (by assumption) ?_; walk_at "sq hp")
  | (refine Sq.Same.get (by assumption) ?_; walk_at "sq hp")
  | (refine Sq.upd_off (by assumption) ?_; walk_at "sq hp")
  | (refine Sq.upd_off (Ne.symm (by assumption)) ?_; walk_at "sq hp"))
local macro_rules | `(tactic| walk_at "sq sql") => `(tactic| first
  | assumption
  | exact Sq.seqL_of (by walk_at "sq hp")
  | exact L2.Same.seq (by assumption) (by assumption)
  | exact L2.Same.seq (Sq.Sep.same (by assumption)) (by assumption))
local macro_rules | `(tactic| walk_at "sq len") => `(tactic| (
  (try simp only [List.length_map, List.length_append, List.length_cons, List.length_nil, List.length_take, List.length_drop, List.length_reverse]); (try rw [PySem.sizeLine_eq]); omega))
local macro_rules | `(tactic| walk_at "sq side") => `(tactic| first
  | exact rfl
  | exact Nat.zero_le _
  | exact Sq.lit_len (Nat.le_of_ble_eq_true rfl)
  | ((with_reducible show L2.SqL _ _ _ _); walk_at "sq sql")
  | ((with_reducible show L2.SqT _ _ _ _); exact L2.SqT.of (by walk_at "sq hp"))
  | (apply Exists.intro; walk_at "sq sql")
  | ((with_reducible show _ = some _); walk_at "sq hp")
  | ((with_reducible show Sq.Sep _ _ _); assumption)
  | ((with_reducible show L2.ClsV _ _); first | exact .ty _ | exact .own _)
  | ((with_reducible show L2.TyX _ _ _ _); first | exact .base .non | exact .base (.bl _) | exact .base (.int _) | exact .base (.str _) | exact Sq.tyx_lst (by walk_at "sq sql") | exact Sq.tyx_tup (by exact L2.SqT.of (by walk_at "sq hp")) | assumption)
  | ((with_reducible show Sq.CPowW _ _); first | assumption | exact ⟨by decide, by decide, by decide⟩)
  | ((with_reducible show L2.CMulW _ _); first | assumption | exact (by decide +kernel))
  | ((with_reducible show L2.CDivW _ _); first | assumption | exact ⟨by decide, by decide⟩)
  | ((with_reducible show L2.tyV _ "list" _ _); exact Or.inl ⟨rfl, _, by walk_at "sq sql"⟩)
  | ((with_reducible show _ < PySem.sizeLine); walk_at "sq len")
  | ((with_reducible show _ ≤ PySem.sizeLine); walk_at "sq len")
  | ((with_reducible show (0 : Int) < _); first | assumption | decide | omega)
  | decide
  | omega)
local macro_rules | `(tactic| walk_at "sq go") => `(tactic| repeat (first
  | exact rfl
  | (fail_if_success (show ∃ W : Nat → Nat → L2.St → L2.Hp → Prop, _)
     fail_if_success (show ∃ W : Nat → Nat → L2.Hp → Prop, _)
     fail_if_success (show ∃ W : Nat → L2.St → L2.Hp → Prop, _)
     fail_if_success (show ∃ W : Nat → Nat → List L2.V → L2.St → L2.Hp → Prop, _)
     apply Exists.intro)
  | (apply And.intro; focus walk_at "sq side")
  | refine L2.iteT ?_
  | refine L2.iteF ?_))
namespace Sq
open PySem PySem.Spec PyProof.Rows L2
def topS (i : Nat) : Stmt := PySem.Challenge.pw_squeezelists_k21_equal_live_texts.main.body.getD i (.Pass ⟨0, 0, 0, 0⟩)
structure Bt (mg : Str → Option Value) : Prop where
  «ValueError» : mg "ValueError" = none
  «abs» : mg "abs" = none
  «enumerate» : mg "enumerate" = none
  «isinstance» : mg "isinstance" = none
  «len» : mg "len" = none
  «list» : mg "list" = none
  «max» : mg "max" = none
  «min» : mg "min" = none
  «range» : mg "range" = none
  «str» : mg "str" = none
section
variable {P : Program} {w : World} {K : PySem.W.Frag} {mg : Str → Option Value} {base : Heap}

/-! ### the checks, also where they raise -/
/-- the first number below 2 -/
def bad (ns : List Int) : Option Nat := ns.findIdx? fun k => decide (k < 2)
theorem bad_none {ns : List Int} : bad ns = none ↔ Two ns := by
  unfold bad Two
  rw [List.findIdx?_eq_none_iff]
  constructor
  · intro h k hk
    have := h k hk
    simpa using this
  · intro h k hk
    have := h k hk
    simp
    omega
theorem bad_at {ns : List Int} {i : Nat} {n : Int} (h : ns[i]? = some n) (c : n < 2) (le : ∀ j : Nat, j < i → ∀ k, ns[j]? = some k → 2 ≤ k) : bad ns = some i := by
  unfold bad
  rw [List.findIdx?_eq_some_iff_getElem]
  obtain ⟨lt, e⟩ := List.getElem?_eq_some_iff.mp h
  refine ⟨lt, by rw [e]; simpa using c, fun j hj => ?_⟩
  have := le j hj _ (List.getElem?_eq_getElem (by omega))
  simp
  omega
abbrev s_check_list : Stmt := topS 7
theorem sc_check_list : FnScope ["replacements", "index", "replacement"] ["replacements"] (defScope s_check_list) := ⟨rfl, rfl, rfl, by decide +kernel, rfl, by decide +kernel, by decide +kernel⟩

def spCheckX (K : PySem.W.Frag) (CL : Addr) : Sp := fun vs H Q E => ∃ (a : Addr) (ns : List Int), vs = [.ref a] ∧ SqL K H a (iv ns) ∧ Keep ((bad ns = none → ∀ H', Same H H' → Q .non H') ∧
  ∀ i : Nat, bad ns = some i → ∀ d H', Same H H' → H' d = some (.xd [("value", .int i)]) → E (.ref CL) (some d) H')
theorem cal_check_listX {CL : Addr} (D : DefAt K mg "check_list" s_check_list ["replacements"]) (B : Bt mg) (c_InvalidList : Rai P w K mg base 1 "InvalidList" CL) : CalX P w K mg base 3 "check_list" (spCheckX K CL) := by
  refine D.calX sc_check_list (fun vs H Q E h => ?_) (fun f cdv A outer s H vs Q E hr h tk => ?_)
  · obtain ⟨a, ns, rfl, _⟩ := h
    rfl
  · obtain ⟨a, ns, rfl, hS, ⟨q, qe⟩⟩ := h
    refine ⟨_, (pss_one (ps_for PassesOwn.leaving rfl (pi_enumK (K := K) (by rfl) B.enumerate (pa_cons (pv 0) pa_nil)) (pg_tupK (K := K) (n := 2) rfl (pgs_cons (pg_name (i := 1) sc_check_list.nd rfl (Or.inl rfl)) (pgs_cons (pg_name (i := 2) sc_check_list.nd rfl (Or.inl rfl)) pgs_nil)))
   (pss_one (ps_if (pt_cmpR op_lt (pv 2) pe_int (nomark _)) (pss_one (ps_rx c_InvalidList hr (by first | decide | omega) (by rfl) tk (pv 1))) pss_nil)))), ?_⟩
    walk_at "sq go"
    refine for_enum (K := K) (a := a) (xs := iv ns) (fun i σ H' => Keep (∃ x y, σ = [some (.ref a), x, y] ∧ Same H H' ∧ ∀ j : Nat, j < i → ∀ k, ns[j]? = some k → 2 ≤ k)) ⟨none, none, rfl, .refl H, fun j hj => absurd hj (by omega)⟩ (fun i σ H' h => ?_) (fun i x T σ H' hx h nT => ?_) (fun σ H' h => ?_)
    · obtain ⟨_, _, _, s, _⟩ := h.o
      exact s.seq hS
    · obtain ⟨y1, y2, rfl, s, le⟩ := h.o
      obtain ⟨n, hn, rfl⟩ := iv_get hx
      have s1 := s.trans (same_new (o := .tup [.int (i : Nat), .int n]) nT)
      walk_at "sq go"
      refine ifD (fun c => ?_) (fun c => ?_)
      · walk_at "sq go"
        intro d nd
        refine qe i (bad_at hn c le) d _ (s1.trans (same_new nd)) upd_same
      · refine ⟨_, _, rfl, s1, fun j hj k hk => ?_⟩
        rcases Nat.lt_succ_iff_lt_or_eq.mp hj with z | z
        · exact le j z k hk
        · rw [z, hn] at hk
          cases hk
          omega
    · obtain ⟨y1, y2, rfl, s, le⟩ := h.o
      refine q (bad_none.mpr fun k hk => ?_) H' s
      obtain ⟨j, hj⟩ := List.mem_iff_getElem?.mp hk
      have lt : j < ns.length := (List.getElem?_eq_some_iff.mp hj).1
      exact le j (by rw [iv_len]; exact lt) k hj

/-! ### lengths of runs, of valid lists -/
abbrev s_squeezed_once : Stmt := topS 9
theorem sc_squeezed_once : FnScope ["length", "replacement"] ["length", "replacement"] (defScope s_squeezed_once) := ⟨rfl, rfl, rfl, by decide +kernel, rfl, by decide +kernel, by decide +kernel⟩

def spSqOnce : Sp := fun vs H Q _ => ∃ n k : Int, vs = [.int n, .int k] ∧ Keep (2 ≤ k ∧ k < 2 ^ 240) ∧ Q (.int (once n k)) H
theorem cal_squeezed_once (D : DefAt K mg "squeezed_once" s_squeezed_once ["length", "replacement"]) (B : Bt mg) : Cal P w K mg base 1 "squeezed_once" spSqOnce [] := by
  refine D.cal sc_squeezed_once (fun vs H Q E h => ?_) (fun f cdv A outer s H vs Q E hr h => ?_)
  · obtain ⟨n, k, rfl, _⟩ := h
    rfl
  · obtain ⟨n, k, rfl, ⟨h2, hb⟩, q⟩ := h
    refine ⟨_, (pss_one (ps_ret (pe_op op_add (pe_op op_fdivW (pv 0) (pv 1)) (pe_op op_mod (pv 0) (pv 1))))), ?_⟩
    have c : CDivW n k := div_ok (by omega) hb
    walk_at "sq go"
    exact q
abbrev s_squeezed_by : Stmt := topS 10
theorem sc_squeezed_by : FnScope ["length", "replacements", "replacement"] ["length", "replacements"] (defScope s_squeezed_by) := ⟨rfl, rfl, rfl, by decide +kernel, rfl, by decide +kernel, by decide +kernel⟩

def spSqBy (K : PySem.W.Frag) : Sp := fun vs H Q _ => ∃ (n : Int) (p : Addr) (ns : List Int), vs = [.int n, .ref p] ∧ SqL K H p (iv ns) ∧ Keep (Mid ns) ∧ Q (.int (sqz n ns)) H
theorem cal_squeezed_by (D : DefAt K mg "squeezed_by" s_squeezed_by ["length", "replacements"]) (B : Bt mg) (c_squeezed_once : Cal P w K mg base 1 "squeezed_once" spSqOnce []) : Cal P w K mg base 2 "squeezed_by" (spSqBy K) [] := by
  refine D.cal sc_squeezed_by (fun vs H Q E h => ?_) (fun f cdv A outer s H vs Q E hr h => ?_)
  · obtain ⟨n, p, ns, rfl, _⟩ := h
    rfl
  · obtain ⟨n, p, ns, rfl, hS, ⟨hm⟩, q⟩ := h
    refine ⟨_, (pss_cons (ps_for PassesOwn.never rfl (pi_listK (K := K) (pv 1)) (pg_name (i := 2) sc_squeezed_by.nd rfl (Or.inl rfl))
   (pss_one (ps_set (i := 0) sc_squeezed_by.nd rfl (Or.inl rfl) (pe_c c_squeezed_once hr (by first | decide | omega) (by rfl) (pa_cons (pv 0) (pa_cons (pv 2) pa_nil))))))
  (pss_one (ps_ret (pv 0)))), ?_⟩
    walk_at "sq go"
    refine for_list (K := K) (a := p) (xs := iv ns) (fun i σ H' => Keep (∃ x, σ = [some (.int (sqz n (ns.take i))), some (.ref p), x] ∧ H' = H)) ⟨none, rfl, rfl⟩ (fun i σ H' _ h => ?_) (fun i x σ H' hx h => ?_) (fun σ H' h => ?_)
    · obtain ⟨x, _, rfl⟩ := h.o
      exact hS
    · obtain ⟨x, rfl, rfl⟩ := h.o
      obtain ⟨k, hk, rfl⟩ := iv_get hx
      walk_at "sq go"
      refine ⟨⟨hm k (List.mem_of_getElem? hk)⟩, ?_⟩
      exact ⟨_, by rw [sqz_take hk]; rfl, rfl⟩
    · obtain ⟨x, rfl, rfl⟩ := h.o
      have e : (iv ns).length = ns.length := iv_len _
      rw [e, List.take_length]
      walk_at "sq go"
      exact q

/-! ### texts squeezed -/
local macro_rules | `(tactic| walk_at "sq side") => `(tactic| first
  | ((with_reducible show _ ≤ PySem.sizeLine); assumption))
theorem chr_S (x : Nat) (c : Nat) : decide (V.str (SX.S [x]) = V.str (SX.S [c])) = decide (x = c) := by
  by_cases e : x = c
  · rw [decide_eq_true e, e, decide_eq_true rfl]
  · rw [decide_eq_false e]
    exact decide_eq_false fun z => e (List.cons.inj (SX.S_inj (V.str.inj z))).1
abbrev s_pieces_of : Stmt := topS 11
theorem sc_pieces_of : FnScope ["text", "character", "found", "sign", "is_run"] ["text", "character"] (defScope s_pieces_of) := ⟨rfl, rfl, rfl, by decide +kernel, rfl, by decide +kernel, by decide +kernel⟩

def spPieces : Sp := fun vs H Q _ => ∃ (u : List Nat) (c : Nat), vs = [.str (SX.S u), .str (SX.S [c])] ∧ Keep (u.length ≤ 100000 ∧ ∀ x ∈ u, x < 0x110000) ∧ ∀ l H', Same H H' → H l = none → PcH H' l (pcs c u) → Q (.ref l) H'
theorem cal_pieces (D : DefAt K mg "pieces_of" s_pieces_of ["text", "character"]) (B : Bt mg) : Cal P w K mg base 1 "pieces_of" spPieces [] := by
  refine D.cal sc_pieces_of (fun vs H Q E h => ?_) (fun f cdv A outer s H vs Q E hr h => ?_)
  · obtain ⟨u, c, rfl, _⟩ := h
    rfl
  · obtain ⟨u, c, rfl, ⟨lu, cu⟩, q⟩ := h
    refine ⟨_, (pss_cons (ps_set (i := 2) sc_pieces_of.nd rfl (Or.inl rfl) (pe_lst pa_nil))
  (pss_cons (ps_for PassesOwn.never rfl (pi_str (pv 0)) (pg_name (i := 3) sc_pieces_of.nd rfl (Or.inl rfl))
   (pss_cons (ps_set (i := 4) sc_pieces_of.nd rfl (Or.inl rfl) (pe_cmpR op_eq (pv 3) (pv 1) (nomark _)))
  (pss_one (ps_if (PW.pt (pw_and (pt_cmpR (op_neDK (K := K) hr.units) (pv 2) (pe_lst pa_nil) (nomark _)) (pw_and1 (pt_cmpR op_eq (pe_ix (ix_tupK (K := K)) (pe_ix (ix_listK (K := K)) (pv 2) (pe_un un_neg pe_int) (fun _ _ => rfl)) pe_int (fun _ _ => rfl)) (pv 4) (nomark _))))) (pss_one (ps_asg (pe_tup (pa_cons (pe_op op_add_str (pe_ix (ix_tupK (K := K)) (pe_ix (ix_listK (K := K)) (pv 2) (pe_un un_neg pe_int) (fun _ _ => rfl)) pe_int (fun _ _ => rfl)) (pv 3)) (pa_cons (pv 4) pa_nil))) (pg_sub (pv 2) (pe_un un_neg pe_int) set_list))) (pss_one (ps_expr (pe_bm PySem.F.plainAttrs_list PySem.F.slot_list_append PySem.F.type_list_append mt_append (pv 2) (pa_cons (pe_tup (pa_cons (pv 3) (pa_cons (pv 4) pa_nil))) pa_nil))))))))
  (pss_one (ps_ret (pv 2))))), ?_⟩
    walk_at "sq go"
    intro l nl
    walk_at "sq go"
    refine for_str (u := u) (fun i σ H' => Keep (∃ x y, σ = [some (.str (SX.S u)), some (.str (SX.S [c])), some (.ref l), x, y] ∧ Same H H' ∧ PcH H' l (pcs c (u.take i)))) ⟨_, _, rfl, same_new nl, [], upd_same, rfl, fun i t p h => by simp at h⟩ (fun i x σ H' hx h => ?_) (fun σ H' h => ?_)
    · obtain ⟨x1, x2, rfl, s1, pr⟩ := h.o
      have li : i < u.length := (List.getElem?_eq_some_iff.mp hx).1
      have lu1 : (u.take i).length ≤ 100000 := by rw [List.length_take]; omega
      have lg : (pcs c (u.take i)).length ≤ 100000 := Nat.le_trans (pcs_count c _) lu1
      have hk : ∀ p ∈ pcs c (u.take i), PyData.strOk (SX.S p.1) = true := fun p hp => strOkS (pcs_mem (P := fun x => x < 0x110000) (fun x hx => cu x (List.mem_of_mem_take hx)) p hp)
      walk_at "sq go"
      rw [chr_S]
      intro e ne
      have pr1 := pr.same (same_new (o := .lst []) ne)
      refine r_nePc pr1 hk upd_same ?_
      have nn1 : ∀ {G : Hp} {a b : Addr} {u : HO}, G a = none → G b = some u → b ≠ a := fun h h2 z => by
        rw [z, h] at h2
        cases h2
      have sN : ∀ {H1 : Hp}, (∀ b o, b ≠ l → H' b = some o → H1 b = some o) → Same H H1 := fun kp b o e => kp b o (nn1 nl e) (s1 b o e)
      have lts : ∀ ts : List Addr, ts.length = (pcs c (u.take i)).length → (ts.map V.ref).length < sizeLine := fun ts h => by
        rw [List.length_map, h, sizeLine_eq]
        omega
      have eT := pcs_take (c := c) hx
      have wl : ∀ p ∈ pcs c (u.take i), p.1.length ≤ 100000 := fun p hp => Nat.le_trans (pcs_le p hp) lu1
      generalize pcs c (u.take i) = ps at *
      have addNew : ∀ {T : Addr} {ts : List Addr} (fin : ∀ (T : Addr) (q : Pc) (H'' : Hp), (∀ b o, b ≠ l → upd H' e (.lst []) b = some o → H'' b = some o) → H'' T = some (.tup [.str (SX.S q.1), .bl q.2]) → H'' l = some (.lst (ts.map V.ref ++ [.ref T])) → PcH H'' l (ps ++ [q])),
          upd H' e (.lst []) T = none → upd H' e (.lst []) l = some (.lst (ts.map V.ref)) → pcS c ps x = ps ++ [([x], decide (x = c))] → Same H (upd (upd (upd H' e (.lst [])) T (.tup [.str (SX.S [x]), .bl (decide (x = c))])) l (.lst (ts.map V.ref ++ [.ref T]))) ∧
            PcH (upd (upd (upd H' e (.lst [])) T (.tup [.str (SX.S [x]), .bl (decide (x = c))])) l (.lst (ts.map V.ref ++ [.ref T]))) l (pcs c (u.take (i + 1))) := fun {T ts} fin nT hl ep => by
        have nlT : T ≠ l := fun z => nn1 nT hl z.symm
        have keep : ∀ b o, b ≠ l → upd H' e (.lst []) b = some o → upd (upd (upd H' e (.lst [])) T (.tup [.str (SX.S [x]), .bl (decide (x = c))])) l (.lst (ts.map V.ref ++ [.ref T])) b = some o := fun b o n h => upd_off n (upd_keep nT h)
        refine ⟨sN fun b o n h => keep b o n (upd_keep ne h), ?_⟩
        rw [eT, ep]
        exact fin T ([x], decide (x = c)) _ keep (upd_off nlT upd_same) upd_same
      walk_at "sq go"
      refine ifN (fun hne => ?_) (fun he => ?_)
      · obtain ⟨⟨w, b⟩, ea⟩ : ∃ z, ps.getLast? = some z := by
          cases ez : ps.getLast? with
          | none => exact absurd (List.getLast?_eq_none_iff.mp ez) hne
          | some z => exact ⟨z, rfl⟩
        obtain ⟨ts, t, j, hl, ix, at_, ht, fin⟩ := pr1.last ea
        have eS : pcS c ps x = if b = decide (x = c) then ps.dropLast ++ [(w ++ [x], b)] else ps ++ [([x], decide (x = c))] := by
          unfold pcS
          rw [ea]
        walk_at "sq go"
        refine ifD (fun eb => ?_) (fun eb => ?_)
        · have eb' : b = decide (x = c) := V.bl.inj eb
          rw [if_pos eb'] at eS
          have lw := wl (w, b) (List.mem_of_getLast? ea)
          have z1 : (SX.S w).length + (SX.S [x]).length ≤ sizeLine := by
            rw [SX.S_len, SX.S_len, sizeLine_eq]
            simp only [List.length_cons, List.length_nil]
            simp only at lw
            omega
          walk_at "sq go"
          intro T nT
          have hl2 := upd_keep (o := .tup [.str (SX.S w ++ SX.S [x]), .bl (decide (x = c))]) nT hl
          walk_at "sq go"
          have nlT : T ≠ l := fun z => nn1 nT hl z.symm
          have keep : ∀ b' o, b' ≠ l → upd H' e (.lst []) b' = some o → upd (upd (upd H' e (.lst [])) T (.tup [.str (SX.S w ++ SX.S [x]), .bl (decide (x = c))])) l (.lst ((ts.map V.ref).set j (.ref T))) b' = some o := fun b' o n h => upd_off n (upd_keep nT h)
          refine ⟨_, _, rfl, sN fun b' o n h => keep b' o n (upd_keep ne h), ?_⟩
          rw [eT, eS]
          refine fin T (w ++ [x], b) _ keep ?_ upd_same
          rw [upd_ne nlT, upd_same, SX.S_cat, eb']
        · rw [if_neg fun z => eb (congrArg V.bl z)] at eS
          obtain ⟨ts, hl, tl, fin⟩ := pr1.snoc
          have lz := lts ts tl
          walk_at "sq go"
          intro T nT
          have hl2 := upd_keep (o := .tup [.str (SX.S [x]), .bl (decide (x = c))]) nT hl
          obtain ⟨a1, a2⟩ := addNew fin nT hl eS
          walk_at "sq go"
          exact ⟨_, _, rfl, a1, a2⟩
      · obtain ⟨ts, hl, tl, fin⟩ := pr1.snoc
        have lz := lts ts tl
        walk_at "sq go"
        intro T nT
        have hl2 := upd_keep (o := .tup [.str (SX.S [x]), .bl (decide (x = c))]) nT hl
        have ep : pcS c ps x = ps ++ [([x], decide (x = c))] := by
          rw [he]
          rfl
        obtain ⟨a1, a2⟩ := addNew fin nT hl ep
        walk_at "sq go"
        exact ⟨_, _, rfl, a1, a2⟩
    · obtain ⟨x1, x2, rfl, s1, pr⟩ := h.o
      walk_at "sq go"
      rw [List.take_length] at pr
      exact q l H' s1 nl pr
abbrev s_squeezed_text : Stmt := topS 12
theorem sc_squeezed_text : FnScope ["text", "character", "replacements", "found", "piece", "is_run"] ["text", "character", "replacements"] (defScope s_squeezed_text) := ⟨rfl, rfl, rfl, by decide +kernel, rfl, by decide +kernel, by decide +kernel⟩

def spSqText (K : PySem.W.Frag) : Sp := fun vs H Q _ => ∃ (u : List Nat) (c : Nat) (p : Addr) (ks : List Int), vs = [.str (SX.S u), .str (SX.S [c]), .ref p] ∧ SqL K H p (iv ks) ∧ Keep (u.length ≤ 100000 ∧ (∀ x ∈ u, x < 0x110000) ∧ Mid ks) ∧ ∀ H', Same H H' → Q (.str (SX.S (sqT c ks u))) H'
theorem cal_sqtext (D : DefAt K mg "squeezed_text" s_squeezed_text ["text", "character", "replacements"]) (B : Bt mg) (c_pieces_of : Cal P w K mg base 1 "pieces_of" spPieces []) (c_squeezed_by : Cal P w K mg base 2 "squeezed_by" (spSqBy K) []) : Cal P w K mg base 3 "squeezed_text" (spSqText K) [] := by
  refine D.cal sc_squeezed_text (fun vs H Q E h => ?_) (fun f cdv A outer s H vs Q E hr h => ?_)
  · obtain ⟨u, c, p, ks, rfl, _⟩ := h
    rfl
  · obtain ⟨u, c, p, ks, rfl, hS, ⟨lu, cu, hm⟩, q⟩ := h
    refine ⟨_, (pss_cons (ps_set (i := 3) sc_squeezed_text.nd rfl (Or.inl rfl) (pe_lst pa_nil))
  (pss_cons (ps_for PassesOwn.never rfl (pi_listK (K := K) (pe_c c_pieces_of hr (by first | decide | omega) (by rfl) (pa_cons (pv 0) (pa_cons (pv 1) pa_nil)))) (pg_tupK (K := K) (n := 2) rfl (pgs_cons (pg_name (i := 4) sc_squeezed_text.nd rfl (Or.inl rfl)) (pgs_cons (pg_name (i := 5) sc_squeezed_text.nd rfl (Or.inl rfl)) pgs_nil)))
   (pss_one (ps_expr (pe_bm PySem.F.plainAttrs_list PySem.F.slot_list_append PySem.F.type_list_append mt_append (pv 3) (pa_cons (pe_ifExp (pt_val (pv 5)) (pe_op op_rep_strL (pv 1) (pe_c c_squeezed_by hr (by first | decide | omega) (by rfl) (pa_cons (pe_callB call_len_str (by rfl) B.len boot_len (pa_cons (pv 4) pa_nil)) (pa_cons (pv 2) pa_nil)))) (pv 4)) pa_nil)))))
  (pss_one (ps_ret (pe_join pe_str (pv 3)))))), ?_⟩
    walk_at "sq go"
    intro l nl
    have s0 := same_new (o := .lst []) nl
    walk_at "sq go"
    refine ⟨⟨lu, cu⟩, fun l2 H1 s1 nl2 pr => ?_⟩
    have hW1 : H1 l = some (.lst []) := s1 _ _ upd_same
    obtain ⟨ts, hl, tl, ht⟩ := id pr
    have nlW : l2 ≠ l := fun z => by
      rw [z, upd_same] at nl2
      cases nl2
    have s2 := s0.trans s1
    walk_at "sq go"
    have h0 : (fun n : Nat => (sqz (n : Int) ks).toNat) 0 = 0 := by
      show (sqz ((0 : Nat) : Int) ks).toNat = 0
      rw [show ((0 : Nat) : Int) = 0 from rfl, sqz0 hm.two]
      rfl
    have lgp := pcs_count c u
    let ov : Pc → List Nat := fun p => if p.2 = true then List.replicate (sqz (p.1.length : Int) ks).toNat c else p.1
    refine for_list (K := K) (a := l2) (xs := ts.map V.ref) (fun i σ H' => Keep (∃ x y, σ = [some (.str (SX.S u)), some (.str (SX.S [c])), some (.ref p), some (.ref l), x, y] ∧ H' = upd H1 l (.lst (((pcs c u).take i).map fun p => .str (SX.S (ov p)))))) ⟨_, _, rfl, ?_⟩ (fun i σ H' _ h => ?_) (fun i x σ H' hx h => ?_) (fun σ H' h => ?_)
    · funext b
      by_cases hb : b = l
      · rw [hb, upd_same, hW1]
        rfl
      · rw [upd_ne hb]
    · obtain ⟨x, y, _, rfl⟩ := h.o
      exact seqL_of (upd_off nlW hl)
    · obtain ⟨x1, y1, rfl, rfl⟩ := h.o
      rw [List.getElem?_map] at hx
      obtain ⟨t, et, rfl⟩ := Option.map_eq_some_iff.mp hx
      have li := (List.getElem?_eq_some_iff.mp et).1
      have lg : i < (pcs c u).length := by omega
      have ep := List.getElem?_eq_getElem lg
      have mp := List.getElem_mem lg
      generalize (pcs c u)[i] = pq at ep mp
      have htt := ht i t pq et ep
      have lw := pcs_le _ mp
      obtain ⟨w, b⟩ := pq
      simp only at htt lw
      have eta : ((pcs c u).take (i + 1)).map (fun p => V.str (SX.S (ov p))) = ((pcs c u).take i).map (fun p => V.str (SX.S (ov p))) ++ [.str (SX.S (ov (w, b)))] := by
        rw [List.take_add_one, ep, List.map_append]
        rfl
      have lacc : (((pcs c u).take i).map fun p => V.str (SX.S (ov p))).length < sizeLine := by
        rw [List.length_map, List.length_take, sizeLine_eq]
        omega
      have ntW : t ≠ l := fun z => by
        rw [z, hW1] at htt
        cases htt
      have htW := upd_off (o := .lst (((pcs c u).take i).map fun p => V.str (SX.S (ov p)))) ntW htt
      have hSW : SqL K (upd H1 l (.lst (((pcs c u).take i).map fun p => V.str (SX.S (ov p))))) p (iv ks) := by
        exact (same_atP s2 nl).seq hS
      have wS : (SX.S w).length = w.length := SX.S_len w
      walk_at "sq go"
      cases b with
      | true =>
        have sq0 := sqz_nn (n := (w.length : Int)) (by omega) hm.two
        have sq1 := sqz_le (n := (w.length : Int)) (by omega) hm.two
        walk_at "sq go"
        rw [wS]
        refine ⟨⟨hm⟩, ?_⟩
        have sz : ([c] : List Nat).length * (sqz (w.length : Int) ks).toNat ≤ 10000000 := by
          simp only [List.length_cons, List.length_nil]
          omega
        walk_at "sq go"
        refine ⟨_, _, rfl, ?_⟩
        rw [upd_upd, eta]
        show _ = upd H1 l (.lst (_ ++ [.str (SX.S (List.replicate (sqz (w.length : Int) ks).toNat c))]))
        rw [← repL_one]
      | false =>
        walk_at "sq go"
        refine ⟨_, _, rfl, ?_⟩
        rw [upd_upd, eta]
        rfl
    · obtain ⟨x1, y1, rfl, rfl⟩ := h.o
      rw [List.length_map, tl, List.take_length]
      have sumo : (((pcs c u).map ov).map (·.length)).sum ≤ u.length := by
        have z := pcs_sum c u
        rw [← z, List.map_map]
        have key : ∀ l : List Pc, (l.map ((·.length) ∘ ov)).sum ≤ (l.map (·.1.length)).sum := fun l => by
          induction l with
          | nil => exact Nat.le_refl _
          | cons p r ih =>
            rw [List.map_cons, List.sum_cons, List.map_cons, List.sum_cons]
            have : (ov p).length ≤ p.1.length := by
              show (if p.2 = true then List.replicate (sqz (p.1.length : Int) ks).toNat c else p.1).length ≤ _
              have := sqz_le (n := (p.1.length : Int)) (by omega) hm.two
              split
              · rw [List.length_replicate]
                omega
              · exact Nat.le_refl _
            have e : ((·.length) ∘ ov) p = (ov p).length := rfl
            omega
        exact key _
      walk_at "sq go"
      refine ⟨⟨_, rfl⟩, _, rfl, _, l, ((pcs c u).map ov).map SX.S, rfl, rfl, .inl (seqL_of (by rw [List.map_map, List.map_map]; exact upd_same)), ?_, ?_⟩
      · rw [SX.lens, show ("" : Str).length = 0 from by decide +kernel]
        omega
      · rw [show ("" : Str) = SX.S [] from by decide +kernel, SX.join_S, joinL_nil]
        have e : ((pcs c u).map ov).flatten = sqT c ks u := by
          unfold sqT
          rw [← out_pcs h0]
          unfold outP
          rw [List.flatMap_def]
        rw [e]
        exact q _ (same_atP s2 nl)

/-! ### texts squeezed, also where it raises -/
/-- no string of one character -/
def NotCh (K : PySem.W.Frag) (H : Hp) (ch : V) : Prop := (∃ T, TyX K H ch T ∧ PySem.W.kitOne K T (.type "str") = some false) ∨ ∃ w : List Nat, ch = .str (SX.S w) ∧ w.length ≠ 1 ∧ w.length ≤ 1000
abbrev s_check_character : Stmt := topS 8
theorem sc_check_character : FnScope ["character"] ["character"] (defScope s_check_character) := ⟨rfl, rfl, rfl, by decide +kernel, rfl, by decide +kernel, by decide +kernel⟩

def spChX (K : PySem.W.Frag) (CC : Addr) : Sp := fun vs H Q E => ∃ ch, vs = [ch] ∧ Keep ((∃ c, ch = .str (SX.S [c]) ∧ Q .non H) ∨ (NotCh K H ch ∧ ∀ d H', Same H H' → H' d = some (.xd [("value", ch)]) → E (.ref CC) (some d) H'))
theorem cal_check_chX {CC : Addr} (D : DefAt K mg "check_character" s_check_character ["character"]) (B : Bt mg) (c_InvalidCharacter : Rai P w K mg base 1 "InvalidCharacter" CC) : CalX P w K mg base 3 "check_character" (spChX K CC) := by
  refine D.calX sc_check_character (fun vs H Q E h => ?_) (fun f cdv A outer s H vs Q E hr h tk => ?_)
  · obtain ⟨n, rfl, _⟩ := h
    rfl
  · obtain ⟨ch, rfl, ⟨h⟩⟩ := h
    refine ⟨_, (pss_one (ps_if (PW.pt (pw_or (pt_not (pt_val (pe_callB (isiK (K := K)) (by rfl) B.isinstance (by decide +kernel) (pa_cons (pv 0) (pa_cons (pe_bltn (v := .ty "str") (by rfl) B.str (by decide +kernel) rfl) pa_nil))))) (pw_or1 (pt_cmpR op_ne (pe_callB call_len_str (by rfl) B.len boot_len (pa_cons (pv 0) pa_nil)) pe_int (nomark _))))) (pss_one (ps_rx c_InvalidCharacter hr (by first | decide | omega) (by rfl) tk (pv 0))) pss_nil)), ?_⟩
    rcases h with ⟨c, rfl, q⟩ | ⟨h, qe⟩
    · walk_at "sq go"
      exact q
    · rcases h with ⟨T, hT, hk⟩ | ⟨w, rfl, hw, lw⟩
      · walk_at "sq go"
        intro d nd
        exact qe d _ (same_new nd) upd_same
      · have lS : (SX.S w).length ≤ sizeLine := by
          rw [SX.S_len, sizeLine_eq]
          omega
        walk_at "sq go"
        refine ifIN (fun _ => ?_) (fun e => ?_)
        · walk_at "sq go"
          intro d nd
          exact qe d _ (same_new nd) upd_same
        · rw [SX.S_len] at e
          omega
abbrev s_squeeze_text : Stmt := topS 13
theorem sc_squeeze_text : FnScope ["text", "character", "replacements"] ["text", "character", "replacements"] (defScope s_squeeze_text) := ⟨rfl, rfl, rfl, by decide +kernel, rfl, by decide +kernel, by decide +kernel⟩

def spSqTxX (K : PySem.W.Frag) (CC CL : Addr) : Sp := fun vs H Q E => ∃ (u : List Nat) (ch : V) (p : Addr) (ks : List Int), vs = [.str (SX.S u), ch, .ref p] ∧ SqL K H p (iv ks) ∧ Keep (u.length ≤ 100000 ∧ (∀ x ∈ u, x < 0x110000) ∧
  ((NotCh K H ch ∧ ∀ d H', Same H H' → H' d = some (.xd [("value", ch)]) → E (.ref CC) (some d) H') ∨ ∃ c, ch = .str (SX.S [c]) ∧ (∀ i : Nat, bad ks = some i → ∀ d H', Same H H' → H' d = some (.xd [("value", .int i)]) → E (.ref CL) (some d) H') ∧ (bad ks = none → Mid ks ∧ ∀ H', Same H H' → Q (.str (SX.S (sqT c ks u))) H')))
theorem two_sqtextX {CC CL : Addr} (D : DefAt K mg "squeeze_text" s_squeeze_text ["text", "character", "replacements"]) (B : Bt mg) (c_check_characterX : CalX P w K mg base 3 "check_character" (spChX K CC)) (c_check_listX : CalX P w K mg base 3 "check_list" (spCheckX K CL))
    (c_squeezed_text : Cal P w K mg base 3 "squeezed_text" (spSqText K) []) : Def2X P w K mg base 4 "squeeze_text" s_squeeze_text ["text", "character", "replacements"] (spSqTxX K CC CL) := by
  refine D.twoX sc_squeeze_text (fun vs H Q E h => ?_) (fun f cdv A outer s H vs Q E hr h tk => ?_)
  · obtain ⟨u, ch, p, ks, rfl, _⟩ := h
    rfl
  · obtain ⟨u, ch, p, ks, rfl, hS, ⟨lu, cu, h⟩⟩ := h
    refine ⟨_, (pss_cons (ps_expr (pe_cx c_check_characterX hr (by first | decide | omega) tk (by rfl) (pa_cons (pv 1) pa_nil)))
  (pss_cons (ps_expr (pe_cx c_check_listX hr (by first | decide | omega) tk (by rfl) (pa_cons (pv 2) pa_nil)))
  (pss_one (ps_ret (pe_c c_squeezed_text hr (by first | decide | omega) (by rfl) (pa_cons (pv 0) (pa_cons (pv 1) (pa_cons (pv 2) pa_nil)))))))), ?_⟩
    rcases h with ⟨hN, qe⟩ | ⟨c, rfl, qe, q⟩
    · walk_at "sq go"
      exact ⟨.inr ⟨hN, qe⟩⟩
    · walk_at "sq go"
      refine ⟨.inl ⟨c, rfl, ?_⟩⟩
      walk_at "sq go"
      refine ⟨⟨fun e H1 s1 => ?_, fun i e d H1 s1 hd => qe i e d H1 s1 hd⟩⟩
      have hS1 := s1.seq hS
      obtain ⟨hm, q⟩ := q e
      walk_at "sq go"
      refine ⟨⟨lu, cu, hm⟩, fun H2 s2 => ?_⟩
      exact q H2 (s1.trans s2)

/-! ### squeezing where nothing is raised -/
def spSqC (K : PySem.W.Frag) : Sp := fun vs H Q _ => ∃ (n : Int) (p : Addr) (ks : List Int), vs = [.int n, .ref p] ∧ SqL K H p (iv ks) ∧ Keep (0 ≤ n ∧ Mid ks ∧ ∀ H', Same H H' → Q (.int (sqz n ks)) H')
def spTxC (K : PySem.W.Frag) : Sp := fun vs H Q _ => ∃ (u : List Nat) (c : Nat) (p : Addr) (ks : List Int), vs = [.str (SX.S u), .str (SX.S [c]), .ref p] ∧ SqL K H p (iv ks) ∧ Keep (u.length ≤ 100000 ∧ (∀ x ∈ u, x < 0x110000) ∧ Mid ks ∧ ∀ H', Same H H' → Q (.str (SX.S (sqT c ks u))) H')
def spChC : Sp := fun vs H Q _ => ∃ c : Nat, vs = [.str (SX.S [c])] ∧ Q .non H
def spClC (K : PySem.W.Frag) : Sp := fun vs H Q _ => ∃ (p : Addr) (ks : List Int), vs = [.ref p] ∧ SqL K H p (iv ks) ∧ Keep (Two ks ∧ ∀ H', Same H H' → Q .non H')
theorem tx_calm {CC CL : Addr} (c : Def2X P w K mg base 4 "squeeze_text" s_squeeze_text ["text", "character", "replacements"] (spSqTxX K CC CL)) : Def2 P w K mg base 4 "squeeze_text" s_squeeze_text ["text", "character", "replacements"] (spTxC K) := c.calm fun vs H Q E h => by
  obtain ⟨u, c, p, ks, rfl, hS, ⟨lu, cu, mid, q⟩⟩ := h
  have b0 : bad ks = none := bad_none.mpr fun k hk => (mid k hk).1
  exact ⟨u, _, p, ks, rfl, hS, ⟨lu, cu, .inr ⟨c, rfl, fun i e => absurd (b0.symm.trans e) (by simp), fun _ => ⟨mid, q⟩⟩⟩⟩
theorem ch_calm {CC : Addr} (c : CalX P w K mg base 3 "check_character" (spChX K CC)) : Cal P w K mg base 3 "check_character" spChC [] := c.calm fun vs H Q E h => by
  obtain ⟨x, rfl, q⟩ := h
  exact ⟨_, rfl, ⟨.inl ⟨x, rfl, q⟩⟩⟩
theorem cl_calm {CL : Addr} (c : CalX P w K mg base 3 "check_list" (spCheckX K CL)) : Cal P w K mg base 3 "check_list" (spClC K) [] := c.calm fun vs H Q E h => by
  obtain ⟨p, ks, rfl, hS, ⟨two, q⟩⟩ := h
  have b0 : bad ks = none := bad_none.mpr two
  exact ⟨p, ks, rfl, hS, ⟨fun _ => q, fun i e => absurd (b0.symm.trans e) (by simp)⟩⟩

abbrev s_runs_in : Stmt := topS 15
theorem sc_runs_in : FnScope ["text", "character", "found", "length", "sign"] ["text", "character"] (defScope s_runs_in) := ⟨rfl, rfl, rfl, by decide +kernel, rfl, by decide +kernel, by decide +kernel⟩

def spRunsIn : Sp := fun vs H Q _ => ∃ (u : List Nat) (c : Nat), vs = [.str (SX.S u), .str (SX.S [c])] ∧ Keep (u.length ≤ 100000) ∧ ∀ l H', Same H H' → H l = none → H' l = some (.lst (iv ((rn c 0 u).map Int.ofNat))) → Q (.ref l) H'
theorem cal_runs_in (D : DefAt K mg "runs_in" s_runs_in ["text", "character"]) (B : Bt mg) : Cal P w K mg base 1 "runs_in" spRunsIn [] := by
  refine D.cal sc_runs_in (fun vs H Q E h => ?_) (fun f cdv A outer s H vs Q E hr h => ?_)
  · obtain ⟨u, c, rfl, _⟩ := h
    rfl
  · obtain ⟨u, c, rfl, ⟨lu⟩, q⟩ := h
    refine ⟨_, (pss_cons (ps_set (i := 2) sc_runs_in.nd rfl (Or.inl rfl) (pe_lst pa_nil))
  (pss_cons (ps_set (i := 3) sc_runs_in.nd rfl (Or.inl rfl) pe_int)
  (pss_cons (ps_for PassesOwn.never rfl (pi_str (pv 0)) (pg_name (i := 4) sc_runs_in.nd rfl (Or.inl rfl))
   (pss_one (ps_if (pt_cmpR op_eq (pv 4) (pv 1) (nomark _)) (pss_one (ps_aug (i := 3) sc_runs_in.nd rfl (Or.inl rfl) pe_int ip_add)) (pss_one (ps_if (pt_cmpR op_gt (pv 3) pe_int (nomark _)) (pss_cons (ps_expr (pe_bm PySem.F.plainAttrs_list PySem.F.slot_list_append PySem.F.type_list_append mt_append (pv 2) (pa_cons (pv 3) pa_nil)))
  (pss_one (ps_set (i := 3) sc_runs_in.nd rfl (Or.inl rfl) pe_int))) pss_nil)))))
  (pss_one (ps_ret (pe_ifExp (pt_cmpR op_gt (pv 3) pe_int (nomark _)) (pe_op op_cat (pv 2) (pe_lst (pa_cons (pv 3) pa_nil))) (pv 2))))))), ?_⟩
    walk_at "sq go"
    intro l nl
    walk_at "sq go"
    refine for_str (u := u) (fun i σ H' => Keep (∃ x4, σ = [some (.str (SX.S u)), some (.str (SX.S [c])), some (.ref l), some (.int ((rnF c (u.take i)).2 : Nat)), x4] ∧ But l H H' ∧ H' l = some (.lst (iv ((rnF c (u.take i)).1.map Int.ofNat))))) ⟨_, rfl, fun b x z e => by rw [upd_ne z]; exact e, upd_same⟩ (fun i x σ H' hx h => ?_) (fun σ H' h => ?_)
    · obtain ⟨x4, rfl, bH, hl⟩ := h.o
      have er := rnF_take (c := c) hx
      obtain ⟨l1, l2⟩ := rnF_len c (u.take i)
      have ltk : (u.take i).length ≤ u.length := by
        rw [List.length_take]
        exact Nat.min_le_right ..
      generalize rnF c (u.take i) = s at er l1 l2 hl
      obtain ⟨rs, g⟩ := s
      by_cases ex : x = c
      · subst ex
        have ex2 : decide (V.str (SX.S [x]) = V.str (SX.S [x])) = true := decide_eq_true rfl
        walk_at "sq go"
        rw [ex2]
        walk_at "sq go"
        refine ⟨some (.str (SX.S [x])), ?_, bH, ?_⟩
        · rw [er]
          simp only [rnS, if_pos]
          rfl
        · rw [er, hl]
          simp only [rnS, if_pos]
      · have ex2 : decide (V.str (SX.S [x]) = V.str (SX.S [c])) = false := by rw [chr_S, decide_eq_false_iff_not]; exact ex
        walk_at "sq go"
        rw [ex2]
        walk_at "sq go"
        refine ifD (fun z => ?_) (fun z => ?_)
        · have z0 : ¬ g = 0 := by
            have z : ((0 : Nat) : Int) < (g : Nat) := z
            omega
          have lrs : rs.length ≤ 100000 := by
            have : rs.length ≤ (u.take i).length := l1
            omega
          have ll : (iv (rs.map Int.ofNat)).length < sizeLine := by
            rw [iv_len, List.length_map, sizeLine_eq]
            omega
          walk_at "sq go"
          refine ⟨some (.str (SX.S [x])), ?_, fun b y zb e => by rw [upd_ne zb]; exact bH b y zb e, ?_⟩
          · rw [er]
            simp only [rnS, if_neg ex, if_neg z0]
            rfl
          · rw [upd_same, er]
            simp only [rnS, if_neg ex, if_neg z0]
            simp
        · have z0 : g = 0 := by
            have z : ¬ ((0 : Nat) : Int) < (g : Nat) := z
            omega
          subst z0
          walk_at "sq go"
          refine ⟨some (.str (SX.S [x])), ?_, bH, ?_⟩
          · rw [er]
            simp only [rnS, if_neg ex, if_true]
            rfl
          · rw [er, hl]
            simp only [rnS, if_neg ex, if_true]
    · obtain ⟨x4, rfl, bH, hl⟩ := h.o
      rw [List.take_length] at hl ⊢
      have ea := rnF_all c u
      obtain ⟨l1, l2⟩ := rnF_len c u
      walk_at "sq go"
      refine ifD (fun z => ?_) (fun z => ?_)
      · have z0 : ¬ (rnF c u).2 = 0 := by
          have z : ((0 : Nat) : Int) < ((rnF c u).2 : Nat) := z
          omega
        rw [if_neg z0] at ea
        walk_at "sq go"
        intro e1 ne1
        have hl1 := upd_keep (o := .lst [.int ((rnF c u).2 : Nat)]) ne1 hl
        have lc : (iv ((rnF c u).1.map Int.ofNat)).length + [V.int ((rnF c u).2 : Nat)].length ≤ sizeLine := by
          rw [iv_len, List.length_map, sizeLine_eq]
          show _ + 1 ≤ _
          omega
        walk_at "sq go"
        intro e2 ne2
        have s0 := (bH.same (.refl _) nl).trans (same_new (o := .lst [.int ((rnF c u).2 : Nat)]) ne1)
        refine q e2 _ (s0.trans (same_new ne2)) (s0.free ne2) ?_
        rw [upd_same, ea]
        simp
      · have z0 : (rnF c u).2 = 0 := by
          have z : ¬ ((0 : Nat) : Int) < ((rnF c u).2 : Nat) := z
          omega
        rw [if_pos z0, List.append_nil] at ea
        walk_at "sq go"
        exact q l H' (bH.same (.refl _) nl) nl (by rw [hl, ea])
/-- what a text's object needs of its class -/
structure Liv (K : PySem.W.Frag) (C : Addr) : Prop where
  cl : Cls K C
  nC : NoAttr K C "character_now"
  nP : NoAttr K C "passed"
  nT : NoAttr K C "taken"
def ls (us : List (List Nat)) : List V := us.map fun u => V.str (SX.S u)
/-- the object of a text at o: the texts passed at p, the replacements taken at t -/
def LivF (C o dx p t : Addr) (c : Nat) (H : Hp) : Prop := H o = some (.ins C dx [("character_now", .str (SX.S [c])), ("passed", .ref p), ("taken", .ref t)])
structure LivO (C o dx p t : Addr) (c : Nat) (us : List (List Nat)) (ks : List Int) (H : Hp) : Prop where
  o : LivF C o dx p t c H
  p : H p = some (.lst (ls us))
  t : H t = some (.lst (iv ks))
theorem ls_last (a : List (List Nat)) (u : List Nat) : atI (ls (a ++ [u])) (-1) = some (.str (SX.S u)) := by
  have hix : ixN (ls (a ++ [u])).length (-1) = some a.length := by
    unfold ls ixN
    rw [List.length_map, List.length_append, List.length_singleton, if_neg (by omega), if_pos (by omega)]
    congr 1
    omega
  unfold atI
  rw [hix]
  show (ls (a ++ [u]))[a.length]? = _
  simp [ls]
abbrev s_SqueezedText___init__ : Stmt := inClass (topS 16) 0
theorem sc_SqueezedText___init__ : FnScope ["self", "text", "character"] ["self", "text", "character"] (defScope s_SqueezedText___init__) := ⟨rfl, rfl, rfl, by decide +kernel, rfl, by decide +kernel, by decide +kernel⟩

def spLInit (C : Addr) : Sp := fun vs H Q _ => ∃ (x dx : Addr) (u : List Nat) (c : Nat), vs = [.ref x, .str (SX.S u), .str (SX.S [c])] ∧ H x = some (.ins C dx []) ∧ ∀ p t H', But x H H' → H p = none → H t = none → p ≠ t → LivO C x dx p t c [u] [] H' → Q .non H'
def swp2 {α : Type} (u : α) (l : List α) : List α := match l with
  | [a, b] => [u, b, a]
  | l => u :: l
def spLInitK (C : Addr) : Sp := fun vs H Q _ => ∃ (x dx : Addr) (u : List Nat) (c : Nat), vs = [.ref x, .str (SX.S [c]), .str (SX.S u)] ∧ H x = some (.ins C dx []) ∧ ∀ p t H', But x H H' → H p = none → H t = none → p ≠ t → LivO C x dx p t c [u] [] H' → Q .non H'
theorem linit_k {C : Addr} (x : V) (zs : List V) (H : Hp) (Q : VK) (E : XK) (h : spLInitK C (x :: zs) H Q E) : zs.length = ["character", "text"].length ∧ spLInit C (swp2 x zs) H Q E := by
  obtain ⟨o, dx, u, c, e, q⟩ := h
  cases e
  exact ⟨rfl, o, dx, u, c, rfl, q⟩
theorem mak_live {C : Addr} (D : IniAt K mg C "SqueezedText" "SqueezedText.__init__" s_SqueezedText___init__ ["self", "text", "character"]) (hi : Liv K C) (B : Bt mg) (c_check_character : Cal P w K mg base 3 "check_character" spChC []) :
    Mak P w K mg base 4 "SqueezedText" C (spLInit C) ∧ MakK P w K mg base 4 "SqueezedText" C ["character", "text"] (spLInitK C) := by
  refine D.mak2 sc_SqueezedText___init__ (fun vs H Q E h => ?_) (fun f cdv A outer s H vs Q E hr h => ?_) swp2 (fun r rs => match rs with | .cons ra (.cons rb .nil) => .cons r (.cons rb (.cons ra .nil)) | .nil => .cons r .nil | .cons ra .nil => .cons r (.cons ra .nil) | .cons ra (.cons rb (.cons rc rr)) => .cons r (.cons ra (.cons rb (.cons rc rr)))) (fun kV doc pm an cdv ct u ws hl => match ws, hl with | [_, _], _ => rfl) linit_k
  · obtain ⟨x, dx, u, c, rfl, _⟩ := h
    rfl
  · obtain ⟨x, dx, u, c, rfl, hx, q⟩ := h
    obtain ⟨cl, nC, nP, nT⟩ := hi
    refine ⟨_, (pss_cons (ps_expr (pe_c c_check_character hr (by first | decide | omega) (by rfl) (pa_cons (pv 2) pa_nil)))
  (pss_cons (ps_fldK (K := K) (pv 0) (pv 2) rfl)
  (pss_cons (ps_fldK (K := K) (pv 0) (pe_lst (pa_cons (pv 1) pa_nil)) rfl)
  (pss_one (ps_fldK (K := K) (pv 0) (pe_lst pa_nil) rfl))))), ?_⟩
    walk_at "sq go"
    intro p np
    have npx : p ≠ x := fun e => by
      rw [e, upd_same] at np
      cases np
    have gp : H p = none := by
      rw [upd_ne npx] at np
      exact np
    have hx1 := upd_keep (o := .lst [.str (SX.S u)]) np (upd_same (H := H) (a := x) (o := .ins C dx (putF "character_now" (.str (SX.S [c])) [])))
    walk_at "sq go"
    refine ⟨Nat.le_of_ble_eq_true rfl, ?_⟩
    walk_at "sq go"
    intro t nt
    have ntx : t ≠ x := fun e => by
      rw [e, upd_same] at nt
      cases nt
    have ntp : t ≠ p := fun e => by
      rw [e, upd_ne npx, upd_same] at nt
      cases nt
    have gt : H t = none := by
      rw [upd_ne ntx, upd_ne ntp, upd_ne ntx] at nt
      exact nt
    have hx2 := upd_keep (o := .lst []) nt (upd_same (H := upd (upd H x (.ins C dx (putF "character_now" (.str (SX.S [c])) []))) p (.lst [.str (SX.S u)])) (a := x) (o := .ins C dx (putF "passed" (.ref p) (putF "character_now" (.str (SX.S [c])) []))))
    walk_at "sq go"
    refine ⟨Nat.le_of_ble_eq_true rfl, ?_⟩
    refine q p t _ (fun b y zb e => ?_) gp gt (Ne.symm ntp) ⟨?_, ?_, ?_⟩
    · rw [upd_ne zb, upd_ne (ne_of_none e gt), upd_ne zb, upd_ne (ne_of_none e gp), upd_ne zb]
      exact e
    · unfold LivF
      rw [upd_same]
      rfl
    · rw [upd_ne npx, upd_ne (Ne.symm ntp), upd_ne npx, upd_same]
      rfl
    · rw [upd_ne ntx, upd_same]
      rfl
abbrev s_SqueezedText_text : Stmt := inClass (topS 16) 3
theorem sc_SqueezedText_text : FnScope ["self"] ["self"] (defScope s_SqueezedText_text) := ⟨rfl, rfl, rfl, by decide +kernel, rfl, by decide +kernel, by decide +kernel⟩

def spText (C : Addr) : Sp := fun vs H Q _ => ∃ (x dx p t : Addr) (c : Nat) (us : List (List Nat)) (ks : List Int) (u : List Nat), vs = [.ref x] ∧ LivO C x dx p t c us ks H ∧ Keep (us.getLast? = some u ∧ Q (.str (SX.S u)) H)
theorem prp_text {C : Addr} (D : PrpAt K C "text" "SqueezedText.text" s_SqueezedText_text ["self"]) (hi : Liv K C) (B : Bt mg) : Prp P w K mg base 1 C "text" (spText C) := by
  refine D.prp hi.cl sc_SqueezedText_text (fun vs H Q E h => ?_) (fun f cdv A outer s H vs Q E hr h => ?_)
  · obtain ⟨x, dx, p, t, c, us, ks, u, rfl, _⟩ := h
    rfl
  · obtain ⟨x, dx, p, t, c, us, ks, u, rfl, ⟨ho, hp, ht⟩, ⟨eu, q⟩⟩ := h
    obtain ⟨cl, nC, nP, nT⟩ := hi
    unfold LivF at ho
    obtain ⟨a, rfl⟩ := List.getLast?_eq_some_iff.mp eu
    have el : atI (ls (a ++ [u])) (-1) = some (.str (SX.S u)) := ls_last a u
    have hpS := seqL_of (K := K) hp
    refine ⟨_, (pss_one (ps_ret (pe_ix (ix_listK (K := K)) (pe_fldK (K := K) (pv 0)) (pe_un un_neg pe_int) (fun _ _ => rfl)))), ?_⟩
    walk_at "sq go"
    exact q
abbrev s_SqueezedText_replacements : Stmt := inClass (topS 16) 4
theorem sc_SqueezedText_replacements : FnScope ["self"] ["self"] (defScope s_SqueezedText_replacements) := ⟨rfl, rfl, rfl, by decide +kernel, rfl, by decide +kernel, by decide +kernel⟩

def spReps (C : Addr) : Sp := fun vs H Q _ => ∃ (x dx p t : Addr) (c : Nat) (us : List (List Nat)) (ks : List Int), vs = [.ref x] ∧ LivO C x dx p t c us ks H ∧ ∀ l, H l = none → Q (.ref l) (upd H l (.lst (iv ks)))
theorem prp_reps {C : Addr} (D : PrpAt K C "replacements" "SqueezedText.replacements" s_SqueezedText_replacements ["self"]) (hi : Liv K C) (B : Bt mg) : Prp P w K mg base 1 C "replacements" (spReps C) := by
  refine D.prp hi.cl sc_SqueezedText_replacements (fun vs H Q E h => ?_) (fun f cdv A outer s H vs Q E hr h => ?_)
  · obtain ⟨x, dx, p, t, c, us, ks, rfl, _⟩ := h
    rfl
  · obtain ⟨x, dx, p, t, c, us, ks, rfl, ⟨ho, hp, ht⟩, q⟩ := h
    obtain ⟨cl, nC, nP, nT⟩ := hi
    unfold LivF at ho
    have htS := seqL_of (K := K) ht
    refine ⟨_, (pss_one (ps_ret (pe_callTy (list_ofK (K := K)) (by rfl) B.list (by decide +kernel) (pa_cons (pe_fldK (K := K) (pv 0)) pa_nil)))), ?_⟩
    walk_at "sq go"
    exact q
abbrev s_SqueezedText_longest : Stmt := inClass (topS 16) 5
theorem sc_SqueezedText_longest : FnScope ["self"] ["self"] (defScope s_SqueezedText_longest) := ⟨rfl, rfl, rfl, by decide +kernel, rfl, by decide +kernel, by decide +kernel⟩

/-- the runs of a text, and 0 -/
def rn0 (c : Nat) (u : List Nat) : List Int := (rn c 0 u).map Int.ofNat ++ [0]
def spLong (C : Addr) : Sp := fun vs H Q _ => ∃ (x dx p t : Addr) (c : Nat) (us : List (List Nat)) (ks : List Int) (u : List Nat), vs = [.ref x] ∧ LivO C x dx p t c us ks H ∧ Keep (us.getLast? = some u ∧ u.length ≤ 100000 ∧ ∀ m H', m ∈ rn0 c u → (∀ y ∈ rn0 c u, y ≤ m) → Same H H' → Q (.int m) H')
theorem prp_long {C : Addr} (D : PrpAt K C "longest" "SqueezedText.longest" s_SqueezedText_longest ["self"]) (hi : Liv K C) (B : Bt mg) (c_runs_in : Cal P w K mg base 1 "runs_in" spRunsIn []) : Prp P w K mg base 2 C "longest" (spLong C) := by
  refine D.prp hi.cl sc_SqueezedText_longest (fun vs H Q E h => ?_) (fun f cdv A outer s H vs Q E hr h => ?_)
  · obtain ⟨x, dx, p, t, c, us, ks, u, rfl, _⟩ := h
    rfl
  · obtain ⟨x, dx, p, t, c, us, ks, u, rfl, ⟨ho, hp, ht⟩, ⟨eu, lu, q⟩⟩ := h
    obtain ⟨cl, nC, nP, nT⟩ := hi
    unfold LivF at ho
    obtain ⟨a, rfl⟩ := List.getLast?_eq_some_iff.mp eu
    have el : atI (ls (a ++ [u])) (-1) = some (.str (SX.S u)) := ls_last a u
    have hpS := seqL_of (K := K) hp
    refine ⟨_, (pss_one (ps_ret (pe_callB (cr_maxK (K := K) rfl) (by rfl) B.max (by decide +kernel) (pa_cons (pe_op op_cat (pe_c c_runs_in hr (by first | decide | omega) (by rfl) (pa_cons (pe_ix (ix_listK (K := K)) (pe_fldK (K := K) (pv 0)) (pe_un un_neg pe_int) (fun _ _ => rfl)) (pa_cons (pe_fldK (K := K) (pv 0)) pa_nil))) (pe_lst (pa_cons pe_int pa_nil))) pa_nil)))), ?_⟩
    walk_at "sq go"
    refine ⟨⟨lu⟩, fun l H1 s1 nl hl => ?_⟩
    have lrn := rn_len c u 0
    walk_at "sq go"
    intro e1 ne1
    have hl1 := upd_keep (o := .lst [.int 0]) ne1 hl
    have lc : (iv ((rn c 0 u).map Int.ofNat)).length + [V.int 0].length ≤ sizeLine := by
      rw [iv_len, List.length_map, sizeLine_eq]
      show _ + 1 ≤ _
      omega
    walk_at "sq go"
    rw [iv_app]
    intro e2 ne2
    have h2 := seqL_of (K := K) (xs := iv (rn0 c u)) (upd_same (a := e2) (H := upd H1 e1 (.lst [.int 0])) (o := .lst (iv (rn0 c u))))
    have s2 := s1.trans ((same_new (o := .lst [.int 0]) ne1).trans (same_new (o := .lst (iv (rn0 c u))) ne2))
    show rMax K [.ref e2] (upd (upd H1 e1 (.lst [.int 0])) e2 (.lst (iv (rn0 c u)))) _
    exact ⟨e2, rn0 c u, rfl, h2, by simp [rn0], fun m m1 m2 => q m _ m1 m2 s2⟩
abbrev s_SqueezedText_squeeze : Stmt := inClass (topS 16) 6
theorem sc_SqueezedText_squeeze : FnScope ["self", "replacements", "found", "replacement"] ["self", "replacements"] (defScope s_SqueezedText_squeeze) := ⟨rfl, rfl, rfl, by decide +kernel, rfl, by decide +kernel, by decide +kernel⟩

def onT (c : Nat) (u : List Nat) (ns : List Int) : List (List Nat) := (List.range ns.length).map fun i => sqT c (ns.take (i + 1)) u
theorem onT_take {c : Nat} {u : List Nat} {ns : List Int} {i : Nat} (h : i < ns.length) : (onT c u ns).take (i + 1) = (onT c u ns).take i ++ [sqT c (ns.take (i + 1)) u] := by
  rw [List.take_add_one]
  congr 1
  unfold onT
  rw [List.getElem?_map, List.getElem?_range h]
  rfl
theorem onT_len (c : Nat) (u : List Nat) (ns : List Int) : (onT c u ns).length = ns.length := by simp [onT]
theorem onT_last (c : Nat) (u : List Nat) (ns : List Int) (a : List (List Nat)) : ∀ i, i ≤ ns.length → ∃ b, a ++ [u] ++ (onT c u ns).take i = b ++ [sqT c (ns.take i) u] ∧ b.length = a.length + i
  | 0, _ => ⟨a, by simp [sqT_nil], rfl⟩
  | i + 1, h => ⟨a ++ [u] ++ (onT c u ns).take i, by rw [onT_take (by omega)]; simp, by
    rw [List.length_append, List.length_append, List.length_take, onT_len, List.length_singleton]
    omega⟩
theorem ls_app (a : List (List Nat)) (u : List Nat) : ls a ++ [V.str (SX.S u)] = ls (a ++ [u]) := by simp [ls]
theorem ls_len (a : List (List Nat)) : (ls a).length = a.length := by simp [ls]
def spSqz (C : Addr) : Sp := fun vs H Q _ => ∃ (x dx p t tp : Addr) (c : Nat) (us : List (List Nat)) (ks ns : List Int) (u : List Nat), vs = [.ref x, .ref tp] ∧ LivO C x dx p t c us ks H ∧ H tp = some (.tup (iv ns)) ∧
  Keep (us.getLast? = some u ∧ u.length ≤ 100000 ∧ (∀ x ∈ u, x < 0x110000) ∧ c < 0x110000 ∧ Mid ns ∧ us.length ≤ 10000 ∧ ns.length ≤ 1000 ∧ ks.length ≤ 10000 ∧ ∀ p' t' H', But x H H' → H p' = none → H t' = none → p' ≠ t' → LivO C x dx p' t' c (us ++ onT c u ns) (ks ++ ns) H' → Q .non H')
theorem met_sqz {C : Addr} (D : MetAtR K C "squeeze" "SqueezedText.squeeze" s_SqueezedText_squeeze "self" "replacements") (hi : Liv K C) (B : Bt mg) (c_check_list : Cal P w K mg base 3 "check_list" (spClC K) []) (c_squeeze_text : Cal P w K mg base 4 "squeeze_text" (spTxC K) []) :
    MetR P w K mg base 5 C "squeeze" (spStar (spSqz C)) := by
  refine D.met hi.cl sc_SqueezedText_squeeze (fun f cdv A outer s H vs Q E hr h => ?_)
  obtain ⟨x, dx, p, t, tp, c, us, ks, ns, u, rfl, ⟨ho, hp, ht⟩, htp, ⟨eu, lu, cu, hc, mid, lus, lns, lks, q⟩⟩ := h
  obtain ⟨cl, nC, nP, nT⟩ := hi
  unfold LivF at ho
  obtain ⟨a, rfl⟩ := List.getLast?_eq_some_iff.mp eu
  have hpS := seqL_of (K := K) hp
  have two : Two ns := fun k hk => (mid k hk).1
  refine ⟨_, (pss_cons (ps_expr (pe_c c_check_list hr (by first | decide | omega) (by rfl) (pa_cons (pe_callTy (list_ofT (K := K)) (by rfl) B.list (by decide +kernel) (pa_cons (pv 1) pa_nil)) pa_nil)))
  (pss_cons (ps_set (i := 2) sc_SqueezedText_squeeze.nd rfl (Or.inl rfl) (pe_callTy (list_ofK (K := K)) (by rfl) B.list (by decide +kernel) (pa_cons (pe_fldK (K := K) (pv 0)) pa_nil)))
  (pss_cons (ps_for PassesOwn.never rfl (pi_tup (pv 1)) (pg_name (i := 3) sc_SqueezedText_squeeze.nd rfl (Or.inl rfl))
   (pss_one (ps_expr (pe_bm PySem.F.plainAttrs_list PySem.F.slot_list_append PySem.F.type_list_append mt_append (pv 2) (pa_cons (pe_c c_squeeze_text hr (by first | decide | omega) (by rfl) (pa_cons (pe_ix (ix_listK (K := K)) (pv 2) (pe_un un_neg pe_int) (fun _ _ => rfl)) (pa_cons (pe_fldK (K := K) (pv 0)) (pa_cons (pe_lst (pa_cons (pv 3) pa_nil)) pa_nil)))) pa_nil)))))
  (pss_cons (ps_fldK (K := K) (pv 0) (pv 2) rfl)
  (pss_one (ps_fldK (K := K) (pv 0) (pe_op op_cat (pe_fldK (K := K) (pv 0)) (pe_callTy (list_ofT (K := K)) (by rfl) B.list (by decide +kernel) (pa_cons (pv 1) pa_nil))) rfl)))))), ?_⟩
  walk_at "sq go"
  intro l nl
  have h1 := seqL_of (K := K) (xs := iv ns) (upd_same (a := l) (H := H) (o := .lst (iv ns)))
  have s0 := same_new (o := .lst (iv ns)) nl
  walk_at "sq go"
  refine ⟨⟨two, fun H1 s1 => ?_⟩⟩
  have s01 := s0.trans s1
  have ho1 := s01 _ _ ho
  have hp1 := seqL_of (K := K) (s01 _ _ hp)
  walk_at "sq go"
  intro F nF
  have gF := s01.free nF
  have s2 := s01.trans (same_new (o := .lst (ls (a ++ [u]))) nF)
  have hF : upd H1 F (.lst (ls (a ++ [u]))) F = some (.lst (ls (a ++ [u]))) := upd_same
  generalize upd H1 F (.lst (ls (a ++ [u]))) = H2 at s2 hF ⊢
  have htp2 := s2 _ _ htp
  walk_at "sq go"
  refine ⟨⟨_, SqT.of htp2⟩, ?_⟩
  refine for_tup (K := K) (a := tp) (xs := iv ns) (fun i σ H' => Keep (∃ x3, σ = [some (.ref x), some (.ref tp), some (.ref F), x3] ∧ But F H2 H' ∧ H' F = some (.lst (ls (a ++ [u] ++ (onT c u ns).take i))))) ⟨_, rfl, fun b y _ e => e, by rw [hF]; simp⟩ (fun i σ H' _ h => ?_) (fun i y σ H' hx h => ?_) (fun σ H' h => ?_)
  · obtain ⟨_, _, bt, _⟩ := h.o
    exact SqT.of (bt _ _ (fun z => by rw [z, gF] at htp; cases htp) htp2)
  · obtain ⟨x3, rfl, bt, hF'⟩ := h.o
    obtain ⟨k, hk, rfl⟩ := iv_get hx
    have li := (List.getElem?_eq_some_iff.mp hk).1
    obtain ⟨b, eb, lb⟩ := onT_last c u ns a i (by omega)
    rw [eb] at hF'
    have elb : atI (ls (b ++ [sqT c (ns.take i) u])) (-1) = some (.str (SX.S (sqT c (ns.take i) u))) := ls_last b _
    have t1 : Two (ns.take i) := fun k hk => two k (List.mem_of_mem_take hk)
    have hFS := seqL_of (K := K) hF'
    have ho' := bt _ _ (fun z => by rw [z, gF] at ho; cases ho) (s2 _ _ ho)
    walk_at "sq go"
    intro e1 ne1
    have h3 := seqL_of (K := K) (xs := iv [k]) (upd_same (a := e1) (H := H') (o := .lst (iv [k])))
    walk_at "sq go"
    refine ⟨⟨Nat.le_trans (sqT_len t1 u) lu, sqT_mem hc cu, fun y hy => by rw [List.mem_singleton.mp hy]; exact mid k (List.mem_of_getElem? hk), fun H4 s4 => ?_⟩⟩
    have s14 := (same_new (o := .lst (iv [k])) ne1).trans s4
    have hF4 := s14 _ _ hF'
    have lF : (ls (b ++ [sqT c (ns.take i) u])).length < sizeLine := by
      rw [ls_len, List.length_append, lb, List.length_singleton, sizeLine_eq]
      have : (a ++ [u]).length = a.length + 1 := by simp
      omega
    walk_at "sq go"
    refine ⟨some (.int k), rfl, fun b2 y zb e => by rw [upd_ne zb]; exact s14 _ _ (bt b2 y zb e), ?_⟩
    rw [upd_same, ls_app, sqT_comp t1, show ns.take i ++ [k] = ns.take (i + 1) by rw [List.take_add_one, hk]; rfl, ← eb, onT_take (by omega)]
    simp
  · obtain ⟨x3, rfl, bt, hF'⟩ := h.o
    rw [iv_len, show (onT c u ns).take ns.length = onT c u ns by rw [List.take_of_length_le (by rw [onT_len]; exact Nat.le_refl _)]] at hF'
    have nxF : x ≠ F := fun z => by rw [z, gF] at ho; cases ho
    have ho' := bt _ _ nxF (s2 _ _ ho)
    have ntF : t ≠ F := fun z => by rw [z, gF] at ht; cases ht
    have ht' := bt _ _ ntF (s2 _ _ ht)
    have htp' := bt _ _ (fun z => by rw [z, gF] at htp; cases htp) htp2
    walk_at "sq go"
    refine ⟨Nat.le_of_ble_eq_true rfl, ?_⟩
    have ntx : t ≠ x := fun z => by rw [z, ho] at ht; cases ht
    have ntpx : tp ≠ x := fun z => by rw [z, ho] at htp; cases htp
    have nFx : F ≠ x := Ne.symm nxF
    have ho3 : upd H' x (.ins C dx (putF "passed" (.ref F) [("character_now", .str (SX.S [c])), ("passed", .ref p), ("taken", .ref t)])) x = some (.ins C dx [("character_now", .str (SX.S [c])), ("passed", .ref F), ("taken", .ref t)]) := by
      rw [upd_same]
      rfl
    have b3 : But x H' (upd H' x (.ins C dx (putF "passed" (.ref F) [("character_now", .str (SX.S [c])), ("passed", .ref p), ("taken", .ref t)]))) := fun b y zb e => by
      rw [upd_ne zb]
      exact e
    have ht3 := b3 _ _ ntx ht'
    have htp3 := b3 _ _ ntpx htp'
    have hF3 := b3 _ _ nFx hF'
    have hb3 : But x H (upd H' x (.ins C dx (putF "passed" (.ref F) [("character_now", .str (SX.S [c])), ("passed", .ref p), ("taken", .ref t)]))) := fun b y zb e => b3 _ _ zb (bt _ _ (fun z => by rw [z, gF] at e; cases e) (s2 _ _ e))
    generalize upd H' x (.ins C dx (putF "passed" (.ref F) [("character_now", .str (SX.S [c])), ("passed", .ref p), ("taken", .ref t)])) = H5 at ho3 ht3 htp3 hF3 hb3 ⊢
    have htpT := SqT.of (K := K) htp3
    walk_at "sq go"
    intro R nR
    have htR := upd_keep (o := .lst (iv ns)) nR ht3
    have lc : (iv ks).length + (iv ns).length ≤ sizeLine := by
      rw [iv_len, iv_len, sizeLine_eq]
      omega
    walk_at "sq go"
    have ek : iv ks ++ iv ns = iv (ks ++ ns) := (List.map_append ..).symm
    rw [ek]
    intro T nT
    have hoR := upd_keep (o := .lst (iv ns)) nR ho3
    have ho4 := upd_keep (o := .lst (iv (ks ++ ns))) nT hoR
    have nTx : T ≠ x := fun z => by rw [z, hoR] at nT; cases nT
    have hFR := upd_keep (o := .lst (iv ns)) nR hF3
    have nTF : T ≠ F := fun z => by rw [z, hFR] at nT; cases nT
    have gT : H T = none := by
      cases e : H T with
      | none => rfl
      | some o =>
        rw [upd_keep nR (hb3 T o nTx e)] at nT
        cases nT
    walk_at "sq go"
    refine ⟨Nat.le_of_ble_eq_true rfl, ?_⟩
    refine q F T _ (fun b y zb e => ?_) gF gT (Ne.symm nTF) ⟨?_, ?_, ?_⟩
    · rw [upd_ne zb]
      exact upd_keep nT (upd_keep nR (hb3 b y zb e))
    · unfold LivF
      rw [upd_same]
      rfl
    · rw [upd_ne nFx]
      exact upd_keep nT hFR
    · rw [upd_ne nTx, upd_same]
theorem cut_last (xs : List V) : cutV xs none (some (-1)) = xs.dropLast := by
  unfold cutV
  have e : HT.sIx xs.length xs.length (some (-1)) = xs.length - 1 := by
    unfold HT.sIx
    show (if (-1 : Int) < 0 then (-1 + (xs.length : Int)).toNat else min (-1 : Int).toNat xs.length) = xs.length - 1
    rw [if_pos (by decide)]
    omega
  rw [HT.sIx_none, List.drop_zero, Nat.sub_zero, e]
  exact (List.dropLast_eq_take).symm
theorem ls_drop (us : List (List Nat)) : (ls us).dropLast = ls us.dropLast := by simp [ls, List.map_dropLast]
theorem iv_dropL (ks : List Int) : (iv ks).dropLast = iv ks.dropLast := by simp [List.map_dropLast]
abbrev s_SqueezedText_undo : Stmt := inClass (topS 16) 7
theorem sc_SqueezedText_undo : FnScope ["self"] ["self"] (defScope s_SqueezedText_undo) := ⟨rfl, rfl, rfl, by decide +kernel, rfl, by decide +kernel, by decide +kernel⟩

def spUndo (C CU : Addr) : Sp := fun vs H Q E => ∃ (x dx p t : Addr) (c : Nat) (us : List (List Nat)) (ks : List Int), vs = [.ref x] ∧ LivO C x dx p t c us ks H ∧
  Keep (us ≠ [] ∧ us.length ≤ 10000 ∧ ks.length ≤ 10000 ∧ (ks = [] → ∀ d H', Same H H' → H' d = some (.xd [("value", .int 0)]) → E (.ref CU) (some d) H') ∧ (ks ≠ [] → ∀ p' t' H', But x H H' → H p' = none → H t' = none → p' ≠ t' → LivO C x dx p' t' c us.dropLast ks.dropLast H' → Q .non H'))
theorem met_undo {C CU : Addr} (D : MetAt K C "undo" "SqueezedText.undo" s_SqueezedText_undo ["self"]) (hi : Liv K C) (B : Bt mg) (c_NothingToUndo : Rai P w K mg base 1 "NothingToUndo" CU) : MetX P w K mg base 3 C "undo" (spUndo C CU) := by
  refine D.metX hi.cl sc_SqueezedText_undo (fun vs H Q E h => ?_) (fun f cdv A outer s H vs Q E hr h tk => ?_)
  · obtain ⟨x, dx, p, t, c, us, ks, rfl, _⟩ := h
    rfl
  · obtain ⟨x, dx, p, t, c, us, ks, rfl, ⟨ho, hp, ht⟩, ⟨une, lus, lks, qe, q⟩⟩ := h
    obtain ⟨cl, nC, nP, nT⟩ := hi
    unfold LivF at ho
    have hpS := seqL_of (K := K) hp
    have htS := seqL_of (K := K) ht
    refine ⟨_, (pss_cons (ps_if (pt_cmpR (op_eqDK (K := K) hr.units) (pe_fldK (K := K) (pv 0)) (pe_lst pa_nil) (nomark _)) (pss_one (ps_rx c_NothingToUndo hr (by first | decide | omega) (by rfl) tk pe_int)) pss_nil)
  (pss_cons (ps_fldK (K := K) (pv 0) (pe_slice (sl_listK (K := K)) (pe_fldK (K := K) (pv 0)) po_none (po_some (pe_un un_neg pe_int))) rfl)
  (pss_one (ps_fldK (K := K) (pv 0) (pe_slice (sl_listK (K := K)) (pe_fldK (K := K) (pv 0)) po_none (po_some (pe_un un_neg pe_int))) rfl)))), ?_⟩
    walk_at "sq go"
    intro e1 ne1
    refine r_eqI (ys := []) (xs := ks) ((same_new ne1).seq htS) (seqL_of upd_same) ?_
    have s1 := same_new (o := .lst []) ne1
    generalize upd H e1 (.lst []) = H1 at s1 ⊢
    walk_at "sq go"
    refine ifD (fun z => ?_) (fun z => ?_)
    · walk_at "sq go"
      intro d nd
      exact qe z d _ (s1.trans (same_new nd)) upd_same
    · have ho1 := s1 _ _ ho
      have hpS1 := seqL_of (K := K) (s1 _ _ hp)
      walk_at "sq go"
      rw [cut_last, ls_drop]
      intro F nF
      have gF := s1.free nF
      have ntx : t ≠ x := fun z => by rw [z, ho] at ht; cases ht
      have nxF : x ≠ F := fun z => by rw [← z, ho1] at nF; cases nF
      have ho2 := upd_keep (o := .lst (ls us.dropLast)) nF ho1
      have ht2 := upd_keep (o := .lst (ls us.dropLast)) nF (s1 _ _ ht)
      have hF2 : upd H1 F (.lst (ls us.dropLast)) F = some (.lst (ls us.dropLast)) := upd_same
      have s2 := s1.trans (same_new (o := .lst (ls us.dropLast)) nF)
      generalize upd H1 F (.lst (ls us.dropLast)) = H2 at ho2 ht2 hF2 s2 ⊢
      walk_at "sq go"
      refine ⟨Nat.le_of_ble_eq_true rfl, ?_⟩
      have ho3 : upd H2 x (.ins C dx (putF "passed" (.ref F) [("character_now", .str (SX.S [c])), ("passed", .ref p), ("taken", .ref t)])) x = some (.ins C dx [("character_now", .str (SX.S [c])), ("passed", .ref F), ("taken", .ref t)]) := by
        rw [upd_same]
        rfl
      have b3 : But x H2 (upd H2 x (.ins C dx (putF "passed" (.ref F) [("character_now", .str (SX.S [c])), ("passed", .ref p), ("taken", .ref t)]))) := fun b y zb e => by
        rw [upd_ne zb]
        exact e
      have ht3 := b3 _ _ ntx ht2
      have hF3 := b3 _ _ (Ne.symm nxF) hF2
      have hb3 : But x H (upd H2 x (.ins C dx (putF "passed" (.ref F) [("character_now", .str (SX.S [c])), ("passed", .ref p), ("taken", .ref t)]))) := fun b y zb e => b3 _ _ zb (s2 _ _ e)
      generalize upd H2 x (.ins C dx (putF "passed" (.ref F) [("character_now", .str (SX.S [c])), ("passed", .ref p), ("taken", .ref t)])) = H5 at ho3 ht3 hF3 hb3 ⊢
      have ht3S := seqL_of (K := K) ht3
      walk_at "sq go"
      rw [cut_last, iv_dropL]
      intro T nT
      have ho4 := upd_keep (o := .lst (iv ks.dropLast)) nT ho3
      have nTx : T ≠ x := fun z => by rw [z, ho3] at nT; cases nT
      have nTF : T ≠ F := fun z => by rw [z, hF3] at nT; cases nT
      have gT : H T = none := by
        cases e : H T with
        | none => rfl
        | some o =>
          rw [hb3 T o nTx e] at nT
          cases nT
      walk_at "sq go"
      refine ⟨Nat.le_of_ble_eq_true rfl, ?_⟩
      refine q z F T _ (fun b y zb e => ?_) gF gT (Ne.symm nTF) ⟨?_, ?_, ?_⟩
      · rw [upd_ne zb]
        exact upd_keep nT (hb3 b y zb e)
      · unfold LivF
        rw [upd_same]
        rfl
      · rw [upd_ne (Ne.symm nxF)]
        exact upd_keep nT hF3
      · rw [upd_ne nTx, upd_same]
abbrev s_SqueezedText_runs : Stmt := inClass (topS 16) 8
theorem sc_SqueezedText_runs : GScope ["self", "length"] ["self"] (defScope s_SqueezedText_runs) := ⟨rfl, rfl, rfl, by decide +kernel, rfl, by decide +kernel, by decide +kernel⟩

def spRunsG (C : Addr) : SpG := fun vs H cont _ => ∃ (x dx p t : Addr) (c : Nat) (us : List (List Nat)) (ks : List Int) (u : List Nat), vs = [.ref x] ∧ LivO C x dx p t c us ks H ∧ Keep (us.getLast? = some u ∧ u.length ≤ 100000 ∧ ∀ H', Same H H' → cont (iv ((rn c 0 u).map Int.ofNat)) H')
theorem gen_runs {C : Addr} (D : MetAt K C "runs" "SqueezedText.runs" s_SqueezedText_runs ["self"]) (hi : Liv K C) (B : Bt mg) (c_runs_in : Cal P w K mg base 1 "runs_in" spRunsIn []) : MetG P w K mg base 2 C "runs" (spRunsG C) := by
  refine D.gen hi.cl sc_SqueezedText_runs (fun vs H Q E h => ?_) (fun f cdv A outer s H vs Q E pn hr tk po h => ?_)
  · obtain ⟨x, dx, p, t, c, us, ks, u, rfl, _⟩ := h
    rfl
  · obtain ⟨x, dx, p, t, c, us, ks, u, rfl, ⟨ho, hp, ht⟩, ⟨eu, lu, q⟩⟩ := h
    obtain ⟨cl, nC, nP, nT⟩ := hi
    unfold LivF at ho
    obtain ⟨a, rfl⟩ := List.getLast?_eq_some_iff.mp eu
    have el : atI (ls (a ++ [u])) (-1) = some (.str (SX.S u)) := ls_last a u
    have hpS := seqL_of (K := K) hp
    refine ⟨_, (gss_cons (gs_for po rfl (pi_listK (K := K) (pe_c c_runs_in hr (by first | decide | omega) (by rfl) (pa_cons (pe_ix (ix_listK (K := K)) (pe_fldK (K := K) (pv 0)) (pe_un un_neg pe_int) (fun _ _ => rfl)) (pa_cons (pe_fldK (K := K) (pv 0)) pa_nil)))) (pg_name (i := 1) sc_SqueezedText_runs.nd rfl (Or.inl rfl))
   (gss_cons (gs_yield (pv 1))
  gss_nil))
  gss_nil), ?_⟩
    walk_at "sq go"
    refine ⟨⟨lu⟩, fun l H2 s2 nl hl => ?_⟩
    have lrn := rn_len c u 0
    walk_at "sq go"
    refine gfor_list (K := K) (a := l) (xs := iv ((rn c 0 u).map Int.ofNat)) (fun i ys σ H' => Keep (∃ y, σ = [some (.ref x), y] ∧ ys = iv (((rn c 0 u).map Int.ofNat).take i) ∧ H' = H2)) ⟨none, rfl, rfl, rfl⟩ (fun i ys σ H' _ h => ?_) (fun i y ys σ H' hx h => ?_) (fun ys σ H' h => ?_)
    · obtain ⟨_, _, _, rfl⟩ := h.o
      exact seqL_of hl
    · obtain ⟨_, rfl, rfl, rfl⟩ := h.o
      obtain ⟨v, hv, rfl⟩ := iv_get hx
      have lz : (iv (((rn c 0 u).map Int.ofNat).take i)).length < sizeLine := by
        rw [iv_len, List.length_take, List.length_map, sizeLine_eq]
        omega
      walk_at "sq go"
      refine ⟨_, rfl, ?_, rfl⟩
      rw [iv_app, List.take_add_one, hv]
      rfl
    · obtain ⟨_, rfl, rfl, rfl⟩ := h.o
      rw [iv_len, List.take_length]
      exact q _ s2

abbrev s_law_pool : Stmt := topS 18
theorem sc_law_pool : FnScope ["script", "at", "cell"] ["script", "at"] (defScope s_law_pool) := ⟨rfl, rfl, rfl, by decide +kernel, rfl, by decide +kernel, by decide +kernel⟩

def spPool (K : PySem.W.Frag) : Sp := fun vs H Q _ => ∃ (p : Addr) (ns : List Int) (i : Int), vs = [.ref p, .int i] ∧ SqL K H p (iv ns) ∧ Keep (0 ≤ i ∧ i < 100) ∧ ∀ r H', Same H H' → Sep (rg3 r 0) H H' → Q (.ref r) H'
theorem cal_pool (D : DefAt K mg "_law_pool" s_law_pool ["script", "at"]) (B : Bt mg) : Cal P w K mg base 1 "_law_pool" (spPool K) [] := by
  refine D.cal sc_law_pool (fun vs H Q E h => ?_) (fun f cdv A outer s H vs Q E hr h => ?_)
  · obtain ⟨p, ns, i, rfl, _⟩ := h
    rfl
  · obtain ⟨p, ns, i, rfl, hS, ⟨i0, i1⟩, q⟩ := h
    refine ⟨_, (pss_cons (ps_set (i := 2) sc_law_pool.nd rfl (Or.inl rfl) pe_int)
  (pss_cons (ps_if (pt_cmpR op_lt (pv 1) (pe_callB (len_seqK (K := K)) (by rfl) B.len boot_len (pa_cons (pv 0) pa_nil)) (nomark _)) (pss_one (ps_set (i := 2) sc_law_pool.nd rfl (Or.inl rfl) (pe_ix (ix_listK (K := K)) (pv 0) (pv 1) (fun _ _ => rfl)))) pss_nil)
  (pss_one (ps_ret (pe_lst (pa_cons (pe_callB (call_max2 rfl) (by rfl) B.max (by decide +kernel) (pa_cons pe_int (pa_cons (pe_op op_sub (pe_callB call_abs (by rfl) B.abs (by decide +kernel) (pa_cons (pv 2) pa_nil)) (pe_op op_powW pe_int pe_int)) pa_nil))) (pa_cons (pe_op op_add (pe_op op_mod (pv 2) pe_int) (pe_op op_mulW pe_int (pe_op op_add (pv 1) pe_int))) (pa_cons pe_int pa_nil)))))))), ?_⟩
    have wm : CMulW 3367900279 (i + 1) := Sm.wide (a := 32) (b := 10) (by unfold Sm; decide) (by unfold Sm; omega) (by decide) (by decide) (by decide)
    have el : (iv ns).length = ns.length := iv_len _
    have last : ∀ c d : Int, 0 ≤ d → ∀ r : Addr, H r = none → Q (.ref r) (upd H r (.lst [.int d, .int (c % 2305843009213693951 + 3367900279 * (i + 1)), .int 0])) := fun c d d0 r nr => by
      have y0 := Int.emod_nonneg c (show (2305843009213693951 : Int) ≠ 0 by decide)
      have y1 := Int.emod_lt_of_pos c (show (0 : Int) < 2305843009213693951 by decide)
      exact q r _ (same_new nr) ⟨⟨_, _, _, upd_same, d0, by omega, by omega, by decide, by decide⟩, same_new nr, fun x hx => by rw [show x = r from hx]; exact nr⟩
    walk_at "sq go"
    refine ifD (fun h => ?_) (fun h => ?_)
    · obtain ⟨n, gx⟩ := atI_iv (ns := ns) i0 (by omega)
      walk_at "sq go"
      exact last n _ (by split <;> omega)
    · walk_at "sq go"
      exact last 0 _ (by split <;> omega)

/-! ### the source of draws: a list of three ints -/
abbrev s_law_draw : Stmt := topS 19
theorem sc_law_draw : FnScope ["pool", "many", "drawn", "mixed"] ["pool", "many"] (defScope s_law_draw) := ⟨rfl, rfl, rfl, by decide +kernel, rfl, by decide +kernel, by decide +kernel⟩

theorem calW_draw (D : DefAt K mg "_law_draw" s_law_draw ["pool", "many"]) (B : Bt mg) : CalW P w K mg base 1 "_law_draw" rc0 spDraw3 rz0 := by
  refine D.calW sc_law_draw (fun vs H Q E h => ?_) (fun f cdv A outer s H us vs Q E hr rv raw h => ?_)
  · obtain ⟨r, m, N, G, rfl, _⟩ := h
    rfl
  · obtain ⟨r, m, N, G, rfl, hS, ⟨hm, hmb, hN⟩, q⟩ := h
    obtain ⟨a, b, c, gr, a0, b0, b1, c0, c1⟩ := id hS.inv
    have cm : CDivW a m := div_ok hm hmb
    refine ⟨_, fun _ => True, BW.ofP (pss_cons (ps_if (pt_cmpR op_gt (pe_ix (ix_listK (K := K)) (pv 0) pe_int (fun _ _ => rfl)) pe_int (nomark _)) (pss_cons (ps_set (i := 2) sc_law_draw.nd rfl (Or.inl rfl) (pe_op op_mod (pe_ix (ix_listK (K := K)) (pv 0) pe_int (fun _ _ => rfl)) (pv 1)))
  (pss_cons (ps_asg (pe_op op_fdivW (pe_ix (ix_listK (K := K)) (pv 0) pe_int (fun _ _ => rfl)) (pv 1)) (pg_sub (pv 0) pe_int set_list))
  (pss_one (ps_ret (pv 2))))) pss_nil)
  (pss_cons (ps_asg (pe_op op_add (pe_ix (ix_listK (K := K)) (pv 0) pe_int (fun _ _ => rfl)) pe_int) (pg_sub (pv 0) pe_int set_list))
  (pss_cons (ps_set (i := 3) sc_law_draw.nd rfl (Or.inl rfl) (pe_op op_mod (pe_op op_powW (pe_op op_add (pe_ix (ix_listK (K := K)) (pv 0) pe_int (fun _ _ => rfl)) (pe_op op_mulW pe_int (pe_ix (ix_listK (K := K)) (pv 0) pe_int (fun _ _ => rfl)))) pe_int) pe_int))
  (pss_cons (ps_set (i := 3) sc_law_draw.nd rfl (Or.inl rfl) (pe_op op_mod (pe_op op_powW (pe_op op_add (pv 3) (pe_op op_mulW pe_int (pe_ix (ix_listK (K := K)) (pv 0) pe_int (fun _ _ => rfl)))) pe_int) pe_int))
  (pss_one (ps_ret (pe_op op_mod (pe_op op_fdivW (pv 3) pe_int) (pv 1)))))))), fun _ _ => trivial, ?_⟩
    have k1 : Sm 62 (c + 1) := by unfold Sm; omega
    have k2 : Sm 30 (15493301) := by unfold Sm; decide
    have k3 : Sm 25 (32454031) := by unfold Sm; decide
    have w1 : CMulW (15493301) (c + 1) := k2.wide k1 (by decide) (by decide) (by decide)
    have w2 : CMulW (32454031) (c + 1) := k3.wide k1 (by decide) (by decide) (by decide)
    have s1 : Sm 101 (b + 15493301 * (c + 1)) := (show Sm 100 b by unfold Sm; omega).add ((k2.mul k1).mono (by decide))
    have p1 : CPowW (b + 15493301 * (c + 1)) 3 := pow_ok s1 (by decide) (by decide) (by decide) (by decide)
    have p2 : ∀ y : Int, CPowW (y % 162259276829213363391578010288127 + 32454031 * (c + 1)) 5 := fun y => by
      have y0 := Int.emod_nonneg y (show (162259276829213363391578010288127 : Int) ≠ 0 by decide)
      have y1 := Int.emod_lt_of_pos y (show (0 : Int) < 162259276829213363391578010288127 by decide)
      exact pow_ok ((show Sm 107 (y % 162259276829213363391578010288127) by unfold Sm; omega).add ((k3.mul k1).mono (by decide))) (by decide) (by decide) (by decide) (by decide)
    have p3 := p2 ((b + 15493301 * (c + 1)) ^ (3 : Int).toNat)
    have v0 : ∀ y : Int, 0 ≤ y % m := fun y => Int.emod_nonneg y (show m ≠ 0 by omega)
    have v1 : ∀ y : Int, y % m < m := fun y => Int.emod_lt_of_pos y hm
    walk_at "sq go"
    refine ifD (fun h => ?_) (fun h => ?_)
    · walk_at "sq go"
      exact q _ _ (v0 _) (v1 _) (Sep3.redo hS ⟨a / m, b, c, upd_same, Int.ediv_nonneg a0 (by omega), b0, b1, c0, by omega⟩)
    · walk_at "sq go"
      exact q _ _ (v0 _) (v1 _) (Sep3.redo hS ⟨a, b, c + 1, upd_same, a0, b0, b1, by omega, by omega⟩)

abbrev s_law_list : Stmt := topS 20
theorem sc_law_list : FnScope ["pool", "most", "far", "found", "turn", "wide"] ["pool", "most", "far"] (defScope s_law_list) := ⟨rfl, rfl, rfl, by decide +kernel, rfl, by decide +kernel, by decide +kernel⟩

/-- replacements from 2 to wide -/
def Row (ns : List Int) (wide : Int) : Prop := ∀ k ∈ ns, (2 : Int) ≤ k ∧ k ≤ wide
theorem Row.two {ns : List Int} {w : Int} (h : Row ns w) : Two ns := fun k hk => (h k hk).1
theorem Row.mid {ns : List Int} {w : Int} (h : Row ns w) (hw : w < 2 ^ 240) : Mid ns := fun k hk => ⟨(h k hk).1, Int.lt_of_le_of_lt (h k hk).2 hw⟩
theorem Row.mono {ns : List Int} {w w' : Int} (h : Row ns w) (hw : w ≤ w') : Row ns w' := fun k hk => ⟨(h k hk).1, Int.le_trans (h k hk).2 hw⟩
theorem Row.nil (w : Int) : Row [] w := fun _ z => nomatch z
theorem Row.snoc {ns : List Int} {w v : Int} (h : Row ns w) (v2 : 2 ≤ v) (vw : v ≤ w) : Row (ns ++ [v]) w := fun k hk => by
  rcases List.mem_append.mp hk with z | z
  · exact h k z
  · rw [List.mem_singleton.mp z]
    exact ⟨v2, vw⟩
def spList3 : Sp := fun vs H Q _ => ∃ (r : Addr) (most far N : Int) (G : Hp), vs = [.ref r, .int most, .int far] ∧ Sep (rg3 r N) G H ∧ Keep (0 ≤ most ∧ most ≤ 1000 ∧ 2 ≤ far ∧ far < 2 ^ 100 ∧ N < 2 ^ 59) ∧
  ∀ p ns H', G p = none → ns.length ≤ most.toNat → Row ns far → Sep (rg3 r (N + 2 * most + 1)) (upd G p (.lst (iv ns))) H' → Q (.ref p) H'
theorem cal_list (D : DefAt K mg "_law_list" s_law_list ["pool", "most", "far"]) (B : Bt mg) (c_law_draw : Cal P w K mg base 1 "_law_draw" spDraw3 []) : Cal P w K mg base 2 "_law_list" spList3 [] := by
  refine D.cal sc_law_list (fun vs H Q E h => ?_) (fun f cdv A outer s H vs Q E hr h => ?_)
  · obtain ⟨r, most, far, N, G, rfl, _⟩ := h
    rfl
  · obtain ⟨r, most, far, N, G, rfl, hS, ⟨m0, m1, f2, fb, hN⟩, q⟩ := h
    refine ⟨_, (pss_cons (ps_set (i := 3) sc_law_list.nd rfl (Or.inl rfl) (pe_lst pa_nil))
  (pss_cons (ps_for PassesOwn.never rfl (pi_range1 (by rfl) B.range (pa_cons (pe_c c_law_draw hr (by first | decide | omega) (by rfl) (pa_cons (pv 0) (pa_cons (pe_op op_add (pv 1) pe_int) pa_nil))) pa_nil)) (pg_name (i := 4) sc_law_list.nd rfl (Or.inl rfl))
   (pss_cons (ps_set (i := 5) sc_law_list.nd rfl (Or.inl rfl) (pe_callB (call_min2 rfl) (by rfl) B.min (by decide +kernel) (pa_cons (pe_op op_sub (pv 2) pe_int) (pa_cons (pe_ix (ix_listK (K := K)) (pe_lst (pa_cons pe_int (pa_cons pe_int (pa_cons pe_int (pa_cons (pe_op op_sub (pv 2) pe_int) pa_nil))))) (pe_c c_law_draw hr (by first | decide | omega) (by rfl) (pa_cons (pv 0) (pa_cons pe_int pa_nil))) (fun _ _ => rfl)) pa_nil))))
  (pss_one (ps_expr (pe_bm PySem.F.plainAttrs_list PySem.F.slot_list_append PySem.F.type_list_append mt_append (pv 3) (pa_cons (pe_op op_add pe_int (pe_c c_law_draw hr (by first | decide | omega) (by rfl) (pa_cons (pv 0) (pa_cons (pv 5) pa_nil)))) pa_nil))))))
  (pss_one (ps_ret (pv 3))))), ?_⟩
    walk_at "sq go"
    intro p np
    have gp : G p = none := hS.free np
    have hS1 := hS.new np (.lst [])
    walk_at "sq go"
    refine ⟨⟨by omega, by omega, by omega⟩, fun tn H2 t0 t1 hS2 => ?_⟩
    walk_at "sq go"
    refine for_range (lo := 0) (n := tn.toNat) (fun i σ H' => Keep (∃ ns x y, σ = [some (.ref r), some (.int most), some (.int far), some (.ref p), x, y] ∧ Sep (rg3 r (N + 1 + 2 * i)) (upd G p (.lst (iv ns))) H' ∧ ns.length = i ∧ Row ns far))
      ⟨[], none, none, rfl, Sep3.mono hS2 (by omega), rfl, Row.nil _⟩ (fun i σ H' hi h => ?_) (fun σ H' h => ?_)
    · obtain ⟨ns, x, y, rfl, hs, hl, hrow⟩ := h.o
      walk_at "sq go"
      intro e ne
      have hs1 := hs.on (same_new (o := .lst [.int 2, .int 5, .int 30, .int (far - 1)]) ne)
      have ge : upd H' e (.lst [.int 2, .int 5, .int 30, .int (far - 1)]) e = some (.lst [.int 2, .int 5, .int 30, .int (far - 1)]) := upd_same
      have hs1' := hs.new (o := .lst [.int 2, .int 5, .int 30, .int (far - 1)]) ne
      walk_at "sq go"
      refine ⟨⟨by omega, by omega, by omega⟩, fun wy K1 w0 w1 hs2 => ?_⟩
      have npe : p ≠ e := fun z => by
        have := hs.free ne
        rw [← z, upd_same] at this
        cases this
      have ge2 : K1 e = some (.lst [.int 2, .int 5, .int 30, .int (far - 1)]) := hs2.get upd_same
      have pick : ∃ v, atI [V.int 2, V.int 5, V.int 30, V.int (far - 1)] wy = some (.int v) ∧ 1 ≤ v := by
        rcases (show wy = 0 ∨ wy = 1 ∨ wy = 2 ∨ wy = 3 by omega) with z | z | z | z <;> rw [z]
        · exact ⟨_, atI_nat (j := 0) rfl, by omega⟩
        · exact ⟨_, atI_nat (j := 1) rfl, by omega⟩
        · exact ⟨_, atI_nat (j := 2) rfl, by omega⟩
        · exact ⟨_, atI_nat (j := 3) rfl, by omega⟩
      obtain ⟨v, ev, v1⟩ := pick
      walk_at "sq go"
      refine ⟨⟨by split <;> omega, by split <;> omega, by omega⟩, fun b K2 b0 b1 hs3 => ?_⟩
      have hb : 2 + b ≤ far := by
        split at b1 <;> omega
      have hp : K2 p = some (.lst (iv ns)) := hs3.get (upd_off npe upd_same)
      have hs4 := (hs3.weak (same_new (o := .lst [.int 2, .int 5, .int 30, .int (far - 1)]) (hs.free ne))).put upd_same (.lst (iv ns ++ [.int (2 + b)]))
      rw [upd_upd, iv_app] at hs4
      walk_at "sq go"
      rw [iv_app]
      exact ⟨ns ++ [2 + b], _, _, rfl, Sep3.mono hs4 (by omega), by simp [hl], hrow.snoc (by omega) hb⟩
    · obtain ⟨ns, x, y, rfl, hs, hl, hrow⟩ := h.o
      walk_at "sq go"
      exact q p ns H' gp (by omega) hrow (Sep3.mono hs (by omega))

/-! ### a text with runs of a sign -/
abbrev s_law_text : Stmt := topS 21
theorem sc_law_text : FnScope ["pool", "most", "sign", "found", "turn", "long", "letter"] ["pool", "most"] (defScope s_law_text) := ⟨rfl, rfl, rfl, by decide +kernel, rfl, by decide +kernel, by decide +kernel⟩

/-- the signs and the letters -/
def Asc (u : List Nat) : Prop := ∀ x ∈ u, 32 ≤ x ∧ x < 127
theorem Asc.nil : Asc [] := fun _ h => nomatch h
theorem Asc.app {a b : List Nat} (h : Asc a) (k : Asc b) : Asc (a ++ b) := fun x hx => by
  rcases List.mem_append.mp hx with z | z
  · exact h x z
  · exact k x z
theorem Asc.rep {c : Nat} (h : 32 ≤ c ∧ c < 127) (n : Nat) : Asc (List.replicate n c) := fun x hx => by rw [List.eq_of_mem_replicate hx]; exact h
theorem flat_one : ∀ ys : List Nat, (ys.map fun y => [y]).flatten = ys
  | [] => rfl
  | y :: r => by rw [List.map_cons, List.flatten_cons, flat_one r]; rfl
theorem sum_one : ∀ ys : List Nat, (ys.map fun _ => 1).sum = ys.length
  | [] => rfl
  | y :: r => by rw [List.map_cons, List.sum_cons, sum_one r, List.length_cons, Nat.add_comm]
theorem sign_at {v : Int} (h0 : 0 ≤ v) (h1 : v < 5) : ∃ c, atI (Str.ofString " a.x#").cps.toList v = some c ∧ 32 ≤ c ∧ c < 126 := by
  rcases (show v = 0 ∨ v = 1 ∨ v = 2 ∨ v = 3 ∨ v = 4 by omega) with z | z | z | z | z <;> rw [z]
  · exact ⟨32, by decide +kernel, by decide, by decide⟩
  · exact ⟨97, by decide +kernel, by decide, by decide⟩
  · exact ⟨46, by decide +kernel, by decide, by decide⟩
  · exact ⟨120, by decide +kernel, by decide, by decide⟩
  · exact ⟨35, by decide +kernel, by decide, by decide⟩
theorem letter_at {v : Int} (h0 : 0 ≤ v) (h1 : v < 10) : ∃ c, atI (Str.ofString "bcde 1 .xa").cps.toList v = some c ∧ 32 ≤ c ∧ c < 126 := by
  rcases (show v = 0 ∨ v = 1 ∨ v = 2 ∨ v = 3 ∨ v = 4 ∨ v = 5 ∨ v = 6 ∨ v = 7 ∨ v = 8 ∨ v = 9 by omega) with z | z | z | z | z | z | z | z | z | z <;> rw [z]
  · exact ⟨98, by decide +kernel, by decide, by decide⟩
  · exact ⟨99, by decide +kernel, by decide, by decide⟩
  · exact ⟨100, by decide +kernel, by decide, by decide⟩
  · exact ⟨101, by decide +kernel, by decide, by decide⟩
  · exact ⟨32, by decide +kernel, by decide, by decide⟩
  · exact ⟨49, by decide +kernel, by decide, by decide⟩
  · exact ⟨32, by decide +kernel, by decide, by decide⟩
  · exact ⟨46, by decide +kernel, by decide, by decide⟩
  · exact ⟨120, by decide +kernel, by decide, by decide⟩
  · exact ⟨97, by decide +kernel, by decide, by decide⟩
theorem pick5 {a b c d e : Int} {w : Int} {P : Int → Prop} (h0 : 0 ≤ w) (h1 : w < 5) (pa : P a) (pb : P b) (pc : P c) (pd : P d) (pe : P e) : ∃ v, atI [V.int a, .int b, .int c, .int d, .int e] w = some (.int v) ∧ P v := by
  rcases (show w = 0 ∨ w = 1 ∨ w = 2 ∨ w = 3 ∨ w = 4 by omega) with z | z | z | z | z <;> rw [z]
  · exact ⟨a, atI_nat (j := 0) rfl, pa⟩
  · exact ⟨b, atI_nat (j := 1) rfl, pb⟩
  · exact ⟨c, atI_nat (j := 2) rfl, pc⟩
  · exact ⟨d, atI_nat (j := 3) rfl, pd⟩
  · exact ⟨e, atI_nat (j := 4) rfl, pe⟩
def spText3 : Sp := fun vs H Q _ => ∃ (r : Addr) (most N : Int) (G : Hp), vs = [.ref r, .int most] ∧ Sep (rg3 r N) G H ∧ Keep (0 ≤ most ∧ most ≤ 2000 ∧ N < 2 ^ 58) ∧
  ∀ l o u c H', G l = none → u.length ≤ most.toNat → Asc u → 32 ≤ c ∧ c < 126 → Sep (rg3 r (N + 100)) (upd G l (.frz o (.lst [.str (SX.S u), .str (SX.S [c])]))) H' → Q (.ref l) H'
theorem calW_text (D : DefAt K mg "_law_text" s_law_text ["pool", "most"]) (B : Bt mg) (cw_law_draw : CalW P w K mg base 1 "_law_draw" rc0 spDraw3 rz0) : CalW P w K mg base 2 "_law_text" rc0 spText3 rzT := by
  have c_law_draw := cw_law_draw.cal fun _ _ => trivial
  refine D.calW sc_law_text (fun vs H Q E h => ?_) (fun f cdv A outer s H us vs Q E hr rv raw h => ?_)
  · obtain ⟨r, most, N, G, rfl, _⟩ := h
    rfl
  · obtain ⟨r, most, N, G, rfl, hS, ⟨m0, m2, hN⟩, q⟩ := h
    refine ⟨_, _, bw_zs (x := "sign") (zs_ixs (i := 2) cw_law_draw hr (by decide) (by rfl) (pa_cons (pv 0) (pa_cons pe_int pa_nil)) sc_law_text.nd rfl rfl) (fun Bq ob c T S => by
      have hF : FOk (pinX (cxOf CX0 P w K mg base ["pool", "most", "sign", "found", "turn", "long", "letter"] "_law_text" (defScope s_law_text) f cdv A outer s H E).nox Bq ob) (GF (pinX (cxOf CX0 P w K mg base ["pool", "most", "sign", "found", "turn", "long", "letter"] "_law_text" (defScope s_law_text) f cdv A outer s H E).nox Bq ob).env.locals "sign" c T) := gf_ok
      exact kp_next (ks_set (i := 3) (gf_st (by decide)) sc_law_text.nd rfl rfl (ke_str hF)) (kp_next (ks_for PassesOwn.never (ki_range1 hF rfl (by rfl) B.range (ka_cons (ke_c hF c_law_draw hr (by first | decide | omega) (by rfl) (ka_cons (kv 0) (ka_cons (ke_int hF) ka_nil))) ka_nil)) (kg_name (i := 4) (gf_st (by decide)) sc_law_text.nd rfl rfl)
   (kss_cons (ks_set (i := 5) (gf_st (by decide)) sc_law_text.nd rfl rfl (ke_ix (FIx.of hF S (ix_listK (K := K)) (fun _ _ => (ix_listK (K := K)))) (ke_lst hF (ka_cons (ke_int hF) (ka_cons (ke_int hF) (ka_cons (ke_op (FOp.of hF S op_add (fun _ _ => op_add)) (ke_int hF) (ke_c hF c_law_draw hr (by first | decide | omega) (by rfl) (ka_cons (kv 0) (ka_cons (ke_int hF) ka_nil)))) (ka_cons (ke_op (FOp.of hF S op_add (fun _ _ => op_add)) (ke_int hF) (ke_c hF c_law_draw hr (by first | decide | omega) (by rfl) (ka_cons (kv 0) (ka_cons (ke_int hF) ka_nil)))) (ka_cons (ke_c hF c_law_draw hr (by first | decide | omega) (by rfl) (ka_cons (kv 0) (ka_cons (ke_int hF) ka_nil))) ka_nil)))))) (ke_c hF c_law_draw hr (by first | decide | omega) (by rfl) (ka_cons (kv 0) (ka_cons (ke_int hF) ka_nil))) (fun _ _ => rfl))) (kss_cons (ks_set (i := 3) (gf_st (by decide)) sc_law_text.nd rfl rfl (ke_op (FOp.of hF S op_add_str (fun _ _ => op_add_str)) (kv 3) (ke_op (FOp.of hF S op_rep_strL (fun _ _ => op_rep_strL)) (kv 2) (kv 5)))) (kss_one (ks_set (i := 3) (gf_st (by decide)) sc_law_text.nd rfl rfl (ke_op (FOp.of hF S op_add_str (fun _ _ => op_add_str)) (kv 3) (ke_m1 PySem.F.slot_str_join PySem.F.type_str_join (FMt.of hF S (mt_joinL (K := K)) (fun _ _ => (mt_joinL (K := K)))) (ke_str hF) (ke_lc (own := [ ("letter", 6) ]) (g := gName 6) hF (by rfl) sc_law_text.nd (ki_range1 hF rfl (by rfl) B.range (ka_cons (ke_c hF c_law_draw hr (by first | decide | omega) (by rfl) (ka_cons (kv 0) (ka_cons (ke_int hF) ka_nil))) ka_nil)) (blkOk_by (own := [ ("letter", 6) ]) (N := ["pool", "most", "sign", "found", "turn", "long", "letter"]) (sc := defScope s_law_text) (by decide +kernel)) (fun _ _ _ _ _ => (pg_name (i := 6) sc_law_text.nd rfl (Or.inl rfl))) (fun _ _ _ _ _ => pts_nil) (fun _ _ _ _ _ => (pe_ix ix_str pe_str (pe_c c_law_draw hr (by first | decide | omega) (by rfl) (pa_cons (pv 0) (pa_cons pe_int pa_nil))) (fun _ _ => rfl))))))))))) (kp_ret (i := 2) (ke_slice hF (FSl.of hF S sl_str (fun _ _ => sl_str)) (kv 3) ko_none (ko_some (kv 1))) rfl rfl))), fun _ _ => trivial, ?_⟩
    walk_at "sq go"
    refine ⟨⟨by decide, by decide, by omega⟩, fun v H1 v0 v1 hs1 => ?_⟩
    obtain ⟨c, ec, c0, c1⟩ := sign_at v0 v1
    walk_at "sq go"
    have eS : (Str.mk #[c]) = SX.S [c] := rfl
    rw [eS]
    refine ⟨⟨by decide, by decide, by omega⟩, fun k H2 k0 k1 hs2 => ?_⟩
    walk_at "sq go"
    have eE : (Str.ofString "") = SX.S [] := by decide +kernel
    rw [eE]
    refine for_range (lo := 0) (n := k.toNat) (fun i σ H' => Keep (∃ u x4 x5 x6, σ = [some (.ref r), some (.int most), some (.str (SX.S [c])), some (.str (SX.S u)), x4, x5, x6] ∧ Sep (rg3 r (N + 2 + 8 * i)) G H' ∧ Asc u ∧ u.length ≤ 310 * i)) ⟨[], _, _, _, rfl, Sep3.mono hs2 (by omega), Asc.nil, by simp⟩ (fun i σ H' hi h => ?_) (fun σ H' h => ?_)
    · obtain ⟨u, x4, x5, x6, rfl, hs, au, lu⟩ := h.o
      walk_at "sq go"
      refine ⟨⟨by decide, by decide, by omega⟩, fun b1 J1 b10 b11 hs3 => ?_⟩
      walk_at "sq go"
      refine ⟨⟨by decide, by decide, by omega⟩, fun b2 J2 b20 b21 hs4 => ?_⟩
      walk_at "sq go"
      refine ⟨⟨by decide, by decide, by omega⟩, fun b3 J3 b30 b31 hs5 => ?_⟩
      walk_at "sq go"
      intro e ne
      have hs6 := hs5.new ne (.lst [.int 1, .int 2, .int (1 + b1), .int (1 + b2), .int b3])
      walk_at "sq go"
      refine ⟨⟨by decide, by decide, by omega⟩, fun w J4 w0 w1 hs7 => ?_⟩
      have he := hs7.get upd_same
      obtain ⟨long, el, l0, l3⟩ := pick5 (a := 1) (b := 2) (c := 1 + b1) (d := 1 + b2) (e := b3) (P := fun v => 0 ≤ v ∧ v ≤ 300) w0 w1 (by decide) (by decide) (by omega) (by omega) (by omega)
      have hs8 := hs7.weak (same_new (o := .lst [.int 1, .int 2, .int (1 + b1), .int (1 + b2), .int b3]) (hs5.free ne))
      have ml : ([c] : List Nat).length * long.toNat ≤ 10000000 := by
        simp only [List.length_cons, List.length_nil]
        omega
      walk_at "sq go"
      rw [repL_one]
      walk_at "sq go"
      have l1 : u.length + long.toNat ≤ 310 * i + 300 := by omega
      rw [SX.S_cat]
      refine ⟨by rw [SX.S_len, SX.S_len, List.length_replicate, sizeLine_eq]; omega, ?_⟩
      walk_at "sq go"
      refine ⟨⟨_, rfl⟩, ?_⟩
      walk_at "sq go"
      refine ⟨⟨by decide, by decide, by omega⟩, fun m J5 m0 m1 hs9 => ?_⟩
      walk_at "sq go"
      intro D nD
      have gD := hs9.free nD
      refine lc_range (lo := 0) (n := m.toNat) (fun t H3 => Keep (∃ ys : List Nat, Sep (rg3 r (N + 2 + 8 * i + 5 + t)) (upd G D (.lst (ys.map fun y => V.str (SX.S [y])))) H3 ∧ Asc ys ∧ ys.length = t)) ⟨[], Sep3.mono (hs9.new nD (.lst [])) (by omega), Asc.nil, rfl⟩ (fun t H3 ht h => ?_) (fun H3 h => ?_)
      · obtain ⟨ys, hsD, ay, ly⟩ := h.o
        walk_at "sq go"
        refine ⟨⟨by decide, by decide, by omega⟩, fun z J6 z0 z1 hsE => ?_⟩
        obtain ⟨y, ey, y0, y1⟩ := letter_at z0 z1
        have hD6 := hsE.get upd_same
        have lz : (ys.map fun y => V.str (SX.S [y])).length < sizeLine := by
          rw [List.length_map, sizeLine_eq]
          omega
        walk_at "sq go"
        have eY : (Str.mk #[y]) = SX.S [y] := rfl
        rw [eY]
        have hsF := hsE.put upd_same (.lst ((ys.map fun y => V.str (SX.S [y])) ++ [.str (SX.S [y])]))
        rw [upd_upd] at hsF
        refine ⟨ys ++ [y], ?_, ay.app (Asc.rep (n := 1) ⟨y0, by omega⟩), by simp [ly]⟩
        have e : (ys ++ [y]).map (fun y => V.str (SX.S [y])) = (ys.map fun y => V.str (SX.S [y])) ++ [.str (SX.S [y])] := by simp
        rw [e]
        exact Sep3.mono hsF (by omega)
      · obtain ⟨ys, hsD, ay, ly⟩ := h.o
        have hD := hsD.get upd_same
        have eJ : Txt.join (SX.S []) (ys.map fun y => SX.S [y]) = SX.S ys := by
          have e : ys.map (fun y => SX.S [y]) = (ys.map fun y => [y]).map SX.S := by simp
          rw [e, SX.join_S, joinL_nil, flat_one]
        refine ⟨SX.S [], D, ys.map fun y => SX.S [y], rfl, rfl, ?_, ?_, ?_⟩
        · rw [List.map_map]
          exact seqL_of hD
        · have e : (ys.map fun y => SX.S [y]).map (·.length) = ys.map fun _ => 1 := by
            rw [List.map_map]
            exact List.map_congr_left fun y _ => SX.S_len _
          have e2 : (ys.map fun _ => 1).sum = ys.length := sum_one ys
          rw [e, e2, List.length_map, SX.S_len, List.length_nil]
          omega
        · rw [eJ]
          walk_at "sq go"
          rw [SX.S_cat]
          refine ⟨by rw [SX.S_len, SX.S_len, List.length_append, List.length_replicate, sizeLine_eq]; omega, ?_⟩
          walk_at "sq go"
          refine ⟨_, _, _, _, rfl, Sep3.mono (hsD.weak (same_new gD)) (by omega), (au.app (Asc.rep ⟨c0, by omega⟩ _)).app ay, ?_⟩
          rw [List.length_append, List.length_append, List.length_replicate]
          omega
    · obtain ⟨u, x4, x5, x6, rfl, hs, au, lu⟩ := h.o
      walk_at "sq go"
      rw [C8.cutS_slice, SX.slice_to m0]
      refine ⟨by rw [SX.S_len, sizeLine_eq]; omega, _, _, rfl, rfl, fun l o nl => ?_⟩
      walk_at "sq go"
      refine q l o _ c _ (hs.free nl) ?_ (fun x hx => au x (List.mem_of_mem_take hx)) ⟨c0, c1⟩ (Sep3.mono (hs.new nl _) (by omega))
      rw [List.length_take]
      omega

/-! ### replacing, with the token of the sign known -/
abbrev s_law_replaced : Stmt := topS 22
theorem sc_law_replaced : FnScope ["written", "sign", "numbers", "number"] ["written", "sign", "numbers"] (defScope s_law_replaced) := ⟨rfl, rfl, rfl, by decide +kernel, rfl, by decide +kernel, by decide +kernel⟩

def spRepl1 (K : PySem.W.Frag) : Sp := fun vs H Q _ => ∃ (u : List Nat) (c : Nat) (p : Addr) (k : Int), vs = [.str (SX.S u), .str (SX.S [c]), .ref p] ∧ SqL K H p (iv [k]) ∧ Keep (2 ≤ k ∧ k ≤ 1000000 ∧ u.length ≤ 100000) ∧ ∀ H', Same H H' → Q (.str (SX.S (sqT c [k] u))) H'
theorem calW_repl (D : DefAt K mg "_law_replaced" s_law_replaced ["written", "sign", "numbers"]) (B : Bt mg) : CalW P w K mg base 1 "_law_replaced" rcS (spRepl1 K) rz0 := by
  refine D.calW sc_law_replaced (fun vs H Q E h => ?_) (fun f cdv A outer s H us vs Q E hr rv raw h => ?_)
  · obtain ⟨u, c, p, k, rfl, _⟩ := h
    rfl
  · obtain ⟨u, c, p, k, rfl, hS, ⟨k2, k6, ul⟩, q⟩ := h
    obtain ⟨cs, T, eu, t0, t1⟩ := raw
    refine ⟨_, GF s.heap.objs.size "sign" cs T, BW.ofK (by
      have hF : FOk (cxOf CX0 P w K mg base ["written", "sign", "numbers", "number"] "_law_replaced" (defScope s_law_replaced) f cdv A outer s H E).nox (GF s.heap.objs.size "sign" cs T) := gf_ok
      exact (kss_cons (ks_for PassesOwn.never (ki_list (K := K) hF rfl (kv 2)) (kg_name (i := 3) (gf_st (by decide)) sc_law_replaced.nd rfl rfl)
   (kss_one (ks_set (i := 0) (gf_st (by decide)) sc_law_replaced.nd rfl rfl (ke_repl (iw := 0) (n := 3) (i := 1) rfl (by first | exact Or.inl rfl | exact Or.inr (Or.inl rfl)) rfl (by first | exact Or.inl rfl | exact Or.inr (Or.inl rfl)) rfl rfl)))) (kss_one (ks_ret (kv 0))))), fun z ez => gf_ent ez rfl eu rfl t0 t1, ?_⟩
    walk_at "sq go"
    refine for_list (K := K) (a := p) (xs := iv [k]) (fun i σ H' => Keep (∃ x, σ = [some (.str (SX.S (sqT c ([k].take i) u))), some (.str (SX.S [c])), some (.ref p), x] ∧ H' = H)) ⟨_, by rw [List.take_zero, sqT_nil]; rfl, rfl⟩ (fun i σ H' _ h => ?_) (fun i x σ H' hx h => ?_) (fun σ H' h => ?_)
    · obtain ⟨_, _, rfl⟩ := h.o
      exact hS
    · obtain ⟨y, rfl, rfl⟩ := h.o
      obtain ⟨k', hk, rfl⟩ := iv_get hx
      obtain rfl : i = 0 := by
        have := (List.getElem?_eq_some_iff.mp hk).1
        simpa using this
      obtain rfl : k = k' := Option.some.inj hk
      rw [List.take_zero, sqT_nil]
      refine ⟨u, c, k, rfl, rfl, rfl, ⟨k2, k6, ul⟩, _, rfl, rfl⟩
    · obtain ⟨y, rfl, rfl⟩ := h.o
      walk_at "sq go"
      exact q _ (.refl _)

/-! ### == of two objects -/
structure OwnC (K : PySem.W.Frag) (C : Addr) : Prop where
  o : OwnE K C
  cl : Cls K C
  ha : PySem.W.findIn K (.ref C) "__class__" = some (some (.builtin "object.__class__"))
  hn : PySem.W.specialIn K (.builtin "object.__class__") "__get__" = some (some (.builtin "getset_descriptor.__get__"))
  ht : PySem.W.takesIn K (.builtin "object.__class__") = some true
  k1 : PySem.W.kitOne K (.ref C) (.ref C) = some true
  kn : PySem.W.kitOne K (.type "NoneType") (.ref C) = some false
  ks : PySem.W.kitOne K (.type "str") (.ref C) = some false
  ki : PySem.W.kitOne K (.type "int") (.ref C) = some false
  kl : PySem.W.kitOne K (.type "list") (.ref C) = some false
  kt : PySem.W.kitOne K (.type "tuple") (.ref C) = some false
  sn : PySem.W.subIn K (.ref C) (.type "NoneType") = some false
  ss : PySem.W.subIn K (.ref C) (.type "str") = some false
  si : PySem.W.subIn K (.ref C) (.type "int") = some false
  sl : PySem.W.subIn K (.ref C) (.type "list") = some false
  st : PySem.W.subIn K (.ref C) (.type "tuple") = some false
  nf : PySem.W.notFirst K C (.type "str") = true
theorem ownc_mk {h : Heap} {C : Addr} {x : Str} (_ : K.In h) (_ : mg x = some (.ref C)) (cl : Cls K C) (ob : PySem.W.mroIn K C (.type "object") = some true) (ne : PySem.W.findIn K (.ref C) "__ne__" = some (some (.builtin "object.__ne__"))) (ha : PySem.W.findIn K (.ref C) "__class__" = some (some (.builtin "object.__class__")))
    (hn : PySem.W.specialIn K (.builtin "object.__class__") "__get__" = some (some (.builtin "getset_descriptor.__get__"))) (ht : PySem.W.takesIn K (.builtin "object.__class__") = some true) (k1 : PySem.W.kitOne K (.ref C) (.ref C) = some true)
    (kn : PySem.W.kitOne K (.type "NoneType") (.ref C) = some false) (ks : PySem.W.kitOne K (.type "str") (.ref C) = some false) (ki : PySem.W.kitOne K (.type "int") (.ref C) = some false) (kl : PySem.W.kitOne K (.type "list") (.ref C) = some false) (kt : PySem.W.kitOne K (.type "tuple") (.ref C) = some false)
    (sn : PySem.W.subIn K (.ref C) (.type "NoneType") = some false) (ss : PySem.W.subIn K (.ref C) (.type "str") = some false) (si : PySem.W.subIn K (.ref C) (.type "int") = some false) (sl : PySem.W.subIn K (.ref C) (.type "list") = some false) (st : PySem.W.subIn K (.ref C) (.type "tuple") = some false)
    (nf : PySem.W.notFirst K C (.type "str") = true) : OwnC K C := ⟨⟨ob, ne⟩, cl, ha, hn, ht, k1, kn, ks, ki, kl, kt, sn, ss, si, sl, st, nf⟩
local macro_rules | `(tactic| walk_at "sq side") => `(tactic| first
  | ((with_reducible show LivO _ _ _ _ _ _ _ _ _); assumption)
  | ((with_reducible show TyX _ _ _ _); assumption)
  | ((with_reducible show PySem.W.kitOne _ _ _ = some _); assumption)
  | ((with_reducible show PySem.W.findIn _ _ _ = some _); assumption))
theorem LivO.at {C o dx p t : Addr} {c : Nat} {us : List (List Nat)} {ks : List Int} {H : Hp} (h : LivO C o dx p t c us ks H) : H o = some (.ins C dx [("character_now", .str (SX.S [c])), ("passed", .ref p), ("taken", .ref t)]) := h.o
theorem LivO.same {C o dx p t : Addr} {c : Nat} {us : List (List Nat)} {ks : List Int} {H H' : Hp} (h : LivO C o dx p t c us ks H) (s : Same H H') : LivO C o dx p t c us ks H' := ⟨s _ _ h.o, s _ _ h.p, s _ _ h.t⟩
abbrev s_SqueezedText___eq__ : Stmt := inClass (topS 16) 1
theorem sc_SqueezedText___eq__ : FnScope ["self", "other"] ["self", "other"] (defScope s_SqueezedText___eq__) := ⟨rfl, rfl, rfl, by decide +kernel, rfl, by decide +kernel, by decide +kernel⟩

def NotC (K : PySem.W.Frag) (C : Addr) (y : V) (H : Hp) : Prop := ∃ tb, TyX K H y tb ∧ PySem.W.kitOne K tb (.ref C) = some false
def spEqO (K : PySem.W.Frag) (C : Addr) : Sp := fun vs H Q _ => ∃ (x dx p t : Addr) (c : Nat) (us : List (List Nat)) (ks : List Int) (y : V), vs = [.ref x, y] ∧ LivO C x dx p t c us ks H ∧
  Keep ((∃ (x2 d2 p2 t2 : Addr) (c2 : Nat) (us2 : List (List Nat)) (ks2 : List Int) (u u2 : List Nat) (r r2 : List (List Nat)), y = .ref x2 ∧ LivO C x2 d2 p2 t2 c2 us2 ks2 H ∧ us = u :: r ∧ us2 = u2 :: r2 ∧ Q (.bl (decide (c = c2 ∧ u = u2 ∧ ks = ks2))) H) ∨ (NotC K C y H ∧ Q (.bl false) H))
theorem met_eq {C : Addr} (D : MetAt K C "__eq__" "SqueezedText.__eq__" s_SqueezedText___eq__ ["self", "other"]) (hi : Liv K C) (B : Bt mg) (oc : OwnC K C) (m_SqueezedText : mg "SqueezedText" = some (.ref C)) : Met P w K mg base 1 C "__eq__" (spEqO K C) := by
  refine D.met hi.cl sc_SqueezedText___eq__ (fun vs H Q E h => ?_) (fun f cdv A outer s H vs Q E hr h => ?_)
  · obtain ⟨x, dx, p, t, c, us, ks, y, rfl, _⟩ := h
    rfl
  · obtain ⟨x, dx, p, t, c, us, ks, y, rfl, hL, ⟨h⟩⟩ := h
    obtain ⟨cl, nC, nP, nT⟩ := hi
    have ho := hL.at
    have k1 := oc.k1
    refine ⟨_, (pss_cons (ps_if (PW.pt (pw_or (pt_not (pt_val (pe_callB (isiK (K := K)) (by rfl) B.isinstance (by decide +kernel) (pa_cons (pv 1) (pa_cons (pe_glob (v := .ref _) (by rfl) m_SqueezedText rfl) pa_nil))))) (pw_or1 (pt_cmpR op_ne (pe_fldK (K := K) (pv 0)) (pe_fldK (K := K) (pv 1)) (nomark _))))) (pss_one (ps_ret pe_bl)) pss_nil)
  (pss_one (ps_ret (pe_and (pe_cmpR op_eq (pe_ix (ix_listK (K := K)) (pe_fldK (K := K) (pv 0)) pe_int (fun _ _ => rfl)) (pe_ix (ix_listK (K := K)) (pe_fldK (K := K) (pv 1)) pe_int (fun _ _ => rfl)) (nomark _)) (pe_one (pe_cmpR (op_eqDK (K := K) hr.units) (pe_fldK (K := K) (pv 0)) (pe_fldK (K := K) (pv 1)) (nomark _))))))), ?_⟩
    rcases h with ⟨x2, d2, p2, t2, c2, us2, ks2, u, u2, r, r2, rfl, hL2, rfl, rfl, q⟩ | ⟨⟨tb, ty, kt⟩, q⟩
    · have ho2 := hL2.at
      have ty : TyX K H (.ref x2) (.ref C) := .base (.ins ho2 cl oc.ha oc.hn oc.ht oc.o.ob)
      have a1 : atI (ls (u :: r)) 0 = some (.str (SX.S u)) := atI_nat (j := 0) rfl
      have a2 : atI (ls (u2 :: r2)) 0 = some (.str (SX.S u2)) := atI_nat (j := 0) rfl
      have s1 := seqL_of (K := K) hL.p
      have s2 := seqL_of (K := K) hL2.p
      walk_at "sq go"
      by_cases ec : c = c2
      · subst ec
        rw [show (!decide (V.str (SX.S [c]) = V.str (SX.S [c]))) = false by rw [decide_eq_true rfl]; rfl]
        walk_at "sq go"
        by_cases eu : u = u2
        · subst eu
          rw [decide_eq_true rfl]
          walk_at "sq go"
          refine r_eqI (seqL_of hL.t) (seqL_of hL2.t) ?_
          simpa using q
        · rw [show decide (V.str (SX.S u) = V.str (SX.S u2)) = false by
            rw [decide_eq_false_iff_not]
            exact fun z => eu (SX.S_inj (V.str.inj z))]
          walk_at "sq go"
          simpa [eu] using q
      · rw [show (!decide (V.str (SX.S [c]) = V.str (SX.S [c2]))) = true by
          rw [Bool.not_eq_true', decide_eq_false_iff_not]
          exact fun z => ec (by have := SX.S_inj (V.str.inj z); simpa using this)]
        have q : Q (.bl false) H := by simpa [ec] using q
        walk_at "sq go"
        exact q
    · walk_at "sq go"
      exact q

/-! ### two objects and what the law keeps for them -/
def two (w : Bool) (a b : V) : List V := match w with
  | true => [b, a]
  | false => [a, b]
def wI (w : Bool) : Int := match w with
  | true => 1
  | false => 0
def wN (w : Bool) : Nat := match w with
  | true => 1
  | false => 0
theorem two_at (w : Bool) (a b : V) : atI (two w a b) (wI w) = some a := by cases w <;> rfl
theorem two_ix (w : Bool) (a b : V) : ixN (two w a b).length (wI w) = some (wN w) := by cases w <;> rfl
theorem two_set (w : Bool) (a b a' : V) : (two w a b).set (wN w) a' = two w a' b := by cases w <;> rfl
theorem two_swap (w : Bool) (a b : V) : two w a b = two (!w) b a := by cases w <;> rfl
structure LS where
  x : Addr
  dx : Addr
  us : List (List Nat)
  ks : List Int
structure TS2 where
  s : Addr
  us : List (List Nat)
  ks : List Int
section
variable {C st ud lv : Addr} {c : Nat}
structure Lv (C : Addr) (c : Nat) (st ud : Addr) (L : LS) (H : Hp) : Prop where
  ex : ∃ p t, LivO C L.x L.dx p t c L.us L.ks H ∧ (p ≠ st ∧ p ≠ ud) ∧ (t ≠ st ∧ t ≠ ud)
structure Tb (st ud : Addr) (T : TS2) (H : Hp) : Prop where
  ex : ∃ pp nn, H T.s = some (.lst [.ref pp, .ref nn]) ∧ H pp = some (.lst (ls T.us)) ∧ H nn = some (.lst (iv T.ks)) ∧ (T.s ≠ st ∧ T.s ≠ ud) ∧ (pp ≠ st ∧ pp ≠ ud) ∧ (nn ≠ st ∧ nn ≠ ud)
theorem Lv.mv {L : LS} {H H' : Hp} (h : Lv C c st ud L H) (kx : ∀ u, H L.x = some u → H' L.x = some u) (k : ∀ a xs, a ≠ st → a ≠ ud → H a = some (.lst xs) → H' a = some (.lst xs)) : Lv C c st ud L H' := by
  obtain ⟨p, t, hL, ⟨p1, p2⟩, t1, t2⟩ := h.ex
  exact ⟨p, t, ⟨kx _ hL.o, k _ _ p1 p2 hL.p, k _ _ t1 t2 hL.t⟩, ⟨p1, p2⟩, t1, t2⟩
theorem Tb.mv {T : TS2} {H H' : Hp} (h : Tb st ud T H) (k : ∀ a xs, a ≠ st → a ≠ ud → H a = some (.lst xs) → H' a = some (.lst xs)) : Tb st ud T H' := by
  obtain ⟨pp, nn, h1, h2, h3, ⟨a1, a2⟩, ⟨b1, b2⟩, c1, c2⟩ := h.ex
  exact ⟨pp, nn, k _ _ a1 a2 h1, k _ _ b1 b2 h2, k _ _ c1 c2 h3, ⟨a1, a2⟩, ⟨b1, b2⟩, c1, c2⟩
structure S19 (G : Hp) (C : Addr) (c : Nat) (lv st ud : Addr) (w : Bool) (LA LB : LS) (TA TB : TS2) (a b : Int) (H : Hp) : Prop where
  same : Same G H
  gl : H lv = some (.lst (two w (.ref LA.x) (.ref LB.x)))
  gs : H st = some (.lst (two w (.ref TA.s) (.ref TB.s)))
  gu : H ud = some (.lst (two w (.int a) (.int b)))
  la : Lv C c st ud LA H
  lb : Lv C c st ud LB H
  ta : Tb st ud TA H
  tb : Tb st ud TB H
  na : G LA.x = none
  nb : G LB.x = none
  ns : G st = none
  nu : G ud = none
  ne : LA.x ≠ LB.x
  ls : lv ≠ st
  lu : lv ≠ ud
  su : st ≠ ud
variable {G H H' : Hp} {w : Bool} {LA LB : LS} {TA TB : TS2} {a b : Int}
theorem S19.swap (h : S19 G C c lv st ud w LA LB TA TB a b H) : S19 G C c lv st ud (!w) LB LA TB TA b a H :=
  ⟨h.same, by rw [← two_swap]; exact h.gl, by rw [← two_swap]; exact h.gs, by rw [← two_swap]; exact h.gu, h.lb, h.la, h.tb, h.ta, h.nb, h.na, h.ns, h.nu, h.ne.symm, h.ls, h.lu, h.su⟩
theorem S19.on (h : S19 G C c lv st ud w LA LB TA TB a b H) (s : Same H H') : S19 G C c lv st ud w LA LB TA TB a b H' :=
  ⟨h.same.trans s, s _ _ h.gl, s _ _ h.gs, s _ _ h.gu, h.la.mv (fun _ e => s _ _ e) fun _ _ _ _ e => s _ _ e, h.lb.mv (fun _ e => s _ _ e) fun _ _ _ _ e => s _ _ e, h.ta.mv fun _ _ _ _ e => s _ _ e, h.tb.mv fun _ _ _ _ e => s _ _ e, h.na, h.nb, h.ns, h.nu, h.ne, h.ls, h.lu, h.su⟩
theorem ne_obj {G' : Hp} {a b : Addr} {u v : HO} (h : G' a = some u) (h2 : G' b = some v) (n : u ≠ v) : a ≠ b := fun e => by
  rw [e, h2] at h
  exact n (Option.some.inj h).symm
theorem nn {G : Hp} {a b : Addr} {u : HO} (h : G a = none) (h2 : G b = some u) : a ≠ b := fun e => by
  rw [e, h2] at h
  cases h
theorem Lv.xl {L : LS} (h : Lv C c st ud L H) {a : Addr} {xs : List V} (e : H a = some (.lst xs)) : a ≠ L.x := by
  obtain ⟨p, t, hL, _⟩ := h.ex
  exact ne_obj e hL.at (fun z => by cases z)
/-- the object at x has been changed -/
theorem S19.obj {us' : List (List Nat)} {ks' : List Int} {p t : Addr} (h : S19 G C c lv st ud w LA LB TA TB a b H) (bt : But LA.x H H') (np : H p = none) (nt : H t = none) (hL : LivO C LA.x LA.dx p t c us' ks' H') : S19 G C c lv st ud w ⟨LA.x, LA.dx, us', ks'⟩ LB TA TB a b H' := by
  have k : ∀ {a : Addr} {xs : List V}, H a = some (.lst xs) → H' a = some (.lst xs) := fun e => bt _ _ (h.la.xl e) e
  exact ⟨fun b u e => bt _ _ (nn h.na e).symm (h.same _ _ e), k h.gl, k h.gs, k h.gu, ⟨p, t, hL, ⟨nn np h.gs, nn np h.gu⟩, nn nt h.gs, nn nt h.gu⟩, h.lb.mv (fun u e => bt _ _ h.ne.symm e) fun _ _ _ _ e => k e, h.ta.mv fun _ _ _ _ e => k e, h.tb.mv fun _ _ _ _ e => k e, h.na, h.nb, h.ns, h.nu, h.ne, h.ls, h.lu, h.su⟩
/-- what has been used is told -/
theorem S19.use (h : S19 G C c lv st ud w LA LB TA TB a b H) (a' : Int) : S19 G C c lv st ud w LA LB TA TB a' b (upd H ud (.lst (two w (.int a') (.int b)))) := by
  have k : ∀ {a : Addr} {u : HO}, a ≠ ud → H a = some u → upd H ud (.lst (two w (.int a') (.int b))) a = some u := fun n e => by rw [upd_ne n]; exact e
  exact ⟨fun b u e => k (nn h.nu e).symm (h.same _ _ e), k h.lu h.gl, k h.su h.gs, upd_same, h.la.mv (fun u e => k (h.la.xl h.gu).symm e) fun _ _ _ n e => k n e, h.lb.mv (fun u e => k (h.lb.xl h.gu).symm e) fun _ _ _ n e => k n e, h.ta.mv fun _ _ _ n e => k n e, h.tb.mv fun _ _ _ n e => k n e, h.na, h.nb, h.ns, h.nu, h.ne, h.ls, h.lu, h.su⟩
/-- a new row of the table -/
theorem S19.row {s pp qq : Addr} {us' : List (List Nat)} {ks' : List Int} (h : S19 G C c lv st ud w LA LB TA TB a b H) (h1 : H s = some (.lst [.ref pp, .ref qq])) (h2 : H pp = some (.lst (Sq.ls us'))) (h3 : H qq = some (.lst (iv ks'))) (n1 : s ≠ st ∧ s ≠ ud) (n2 : pp ≠ st ∧ pp ≠ ud) (n3 : qq ≠ st ∧ qq ≠ ud) :
    S19 G C c lv st ud w LA LB ⟨s, us', ks'⟩ TB a b (upd H st (.lst (two w (.ref s) (.ref TB.s)))) := by
  have k : ∀ {a : Addr} {u : HO}, a ≠ st → H a = some u → upd H st (.lst (two w (.ref s) (.ref TB.s))) a = some u := fun n e => by rw [upd_ne n]; exact e
  exact ⟨fun b u e => k (nn h.ns e).symm (h.same _ _ e), k h.ls h.gl, upd_same, k h.su.symm h.gu, h.la.mv (fun u e => k (h.la.xl h.gs).symm e) fun _ _ n _ e => k n e, h.lb.mv (fun u e => k (h.lb.xl h.gs).symm e) fun _ _ n _ e => k n e,
    ⟨pp, qq, k n1.1 h1, k n2.1 h2, k n3.1 h3, n1, n2, n3⟩, h.tb.mv fun _ _ n _ e => k n e, h.na, h.nb, h.ns, h.nu, h.ne, h.ls, h.lu, h.su⟩
end
/-- an object changed by a call, in the quiet part of the heap -/
theorem Sep.obj {R : Rg} {G H H' : Hp} {C x dx p t p' t' : Addr} {c : Nat} {us us' : List (List Nat)} {ks ks' : List Int} (s : Sep R G H) (hL : LivO C x dx p t c us ks G) (b : But x H H') (n1 : H p' = none) (n2 : H t' = none) (ne : p' ≠ t') (L : LivO C x dx p' t' c us' ks' H') :
    ∃ G', Sep R G' H' ∧ But x G G' ∧ G p' = none ∧ G t' = none ∧ LivO C x dx p' t' c us' ks' G' := by
  have g1 := s.free n1
  have g2 := s.free n2
  have s1 := s.but hL.at b L.at
  have s2 := Sep.add s n1 s1 L.p
  have s3 := Sep.add s n2 s2 L.t
  have px : p' ≠ x := nn g1 hL.at
  have tx : t' ≠ x := nn g2 hL.at
  refine ⟨_, s3, fun y u ny e => ?_, g1, g2, ⟨?_, ?_, upd_same⟩⟩
  · rw [upd_ne (nn g2 e).symm, upd_ne (nn g1 e).symm, upd_ne ny]
    exact e
  · unfold LivF
    rw [upd_ne tx.symm, upd_ne px.symm, upd_same]
  · rw [upd_ne ne, upd_same]
/-- the sizes -/
structure Sz (n : Nat) (us : List (List Nat)) (ks : List Int) : Prop where
  l : us.length = ks.length + 1
  k : ks.length ≤ n
  u : ∀ v ∈ us, v.length ≤ 2000 ∧ ∀ y ∈ v, y < 0x110000
theorem Sz.last {n : Nat} {us : List (List Nat)} {ks : List Int} (h : Sz n us ks) : ∃ u, us.getLast? = some u ∧ u.length ≤ 2000 ∧ ∀ y ∈ u, y < 0x110000 := by
  cases e : us.getLast? with
  | none =>
    rw [List.getLast?_eq_none_iff] at e
    have := h.l
    rw [e] at this
    cases this
  | some u => exact ⟨u, rfl, h.u u (List.mem_of_getLast? e)⟩
theorem onT_mem {c : Nat} {u v : List Nat} {ns : List Int} (h : v ∈ onT c u ns) : ∃ i, v = sqT c (ns.take i) u := by
  unfold onT at h
  obtain ⟨i, _, e⟩ := List.mem_map.mp h
  exact ⟨_, e.symm⟩
theorem Sz.on {n c : Nat} {us : List (List Nat)} {ks ns : List Int} {u : List Nat} (h : Sz n us ks) (e : us.getLast? = some u) (hc : c < 0x110000) (t : Two ns) (l : ns.length ≤ 15) : Sz (n + 15) (us ++ onT c u ns) (ks ++ ns) := by
  have hu := h.u u (List.mem_of_getLast? e)
  refine ⟨by rw [List.length_append, List.length_append, onT_len, h.l]; omega, by rw [List.length_append]; have := h.k; omega, fun v hv => ?_⟩
  rcases List.mem_append.mp hv with z | z
  · exact h.u v z
  · obtain ⟨i, rfl⟩ := onT_mem z
    exact ⟨Nat.le_trans (sqT_len (fun k hk => t k (List.mem_of_mem_take hk)) u) hu.1, sqT_mem hc hu.2⟩
theorem Sz.un {n : Nat} {us : List (List Nat)} {ks : List Int} (h : Sz n us ks) (e : ks ≠ []) : Sz n us.dropLast ks.dropLast := by
  have z : ks.length ≠ 0 := fun z => e (List.length_eq_zero_iff.mp z)
  refine ⟨by rw [List.length_dropLast, List.length_dropLast, h.l]; omega, by rw [List.length_dropLast]; have := h.k; omega, fun v hv => h.u v ((List.dropLast_sublist us).subset hv)⟩
theorem Sz.mono {n m : Nat} {us : List (List Nat)} {ks : List Int} (h : Sz n us ks) (l : n ≤ m) : Sz m us ks := ⟨h.l, Nat.le_trans h.k l, h.u⟩
/-! a word and a value -/
def dW (s : Str) (n : Int) : PyData := .list [.str s, .int n]
theorem dp_W {H : Hp} {a : Addr} {s : Str} {n : Int} (h : H a = some (.lst [.str s, .int n])) : Dp K H (.ref a) (dW s n) := .lst (seqL_of h) (.cons (.str s) (.cons (.int n) .nil))
theorem shaped_W {s : Str} {n : Int} (h : PyData.strOk s = true) : SeqAt.shaped (dW s n) = true := by
  unfold SeqAt.shaped dW
  simp only [PyData.canLay0, PyData.canLayAll0, PyData.depth, PyData.depthAll, h]
  rfl
theorem eqv_W (s : Str) (n : Int) : PyData.eqv (dW s n) (dW s n) = true := by simp [dW, PyData.eqv, PyData.eqvAll]
def dN (s : Str) : PyData := .list [.str s, .none]
theorem dp_N {H : Hp} {a : Addr} {s : Str} (h : H a = some (.lst [.str s, .non])) : Dp K H (.ref a) (dN s) := .lst (seqL_of h) (.cons (.str s) (.cons .non .nil))
theorem shaped_N {s : Str} (h : PyData.strOk s = true) : SeqAt.shaped (dN s) = true := by
  unfold SeqAt.shaped dN
  simp only [PyData.canLay0, PyData.canLayAll0, PyData.depth, PyData.depthAll, h]
  rfl
theorem eqv_N (s : Str) : PyData.eqv (dN s) (dN s) = true := by simp [dN, PyData.eqv, PyData.eqvAll]
theorem r_neDD {x y : V} {d : PyData} {H : Hp} {Q : VK} (h1 : Dp K H x d) (h2 : Dp K H y d) (sh : SeqAt.shaped d = true) (e : PyData.eqv d d = true) (q : Q (.bl false) H) : rNeQ K x y H Q :=
  rNeQ_of ⟨d, d, h1, h2, sh, sh, by rw [e]; exact q⟩
/-- a new object -/
theorem made19 {R : Rg} {G H H' : Hp} {C x dx p t : Addr} {c : Nat} {us : List (List Nat)} {ks : List Int} (s : Sep R G H) (nx : H x = none) (ndx : H dx = none) (ne : dx ≠ x) (b : But x (upd (upd H dx (.own x)) x (.ins C dx [])) H') (n1 : upd (upd H dx (.own x)) x (.ins C dx []) p = none) (n2 : upd (upd H dx (.own x)) x (.ins C dx []) t = none) (pt : p ≠ t) (L : LivO C x dx p t c us ks H') :
    ∃ G', Sep R G' H' ∧ Same G G' ∧ G x = none ∧ LivO C x dx p t c us ks G' := by
  have nx2 : upd H dx (.own x) x = none := by
    rw [upd_ne (Ne.symm ne)]
    exact nx
  have s1 := (s.on (same_new (o := .own x) ndx)).new nx2 (.ins C dx [])
  have gx := s.free nx
  have g1 := s1.free n1
  have g2 := s1.free n2
  have px : p ≠ x := nn g1 upd_same
  have tx : t ≠ x := nn g2 upd_same
  rw [upd_ne px] at g1
  rw [upd_ne tx] at g2
  have s2 := s1.but upd_same b L.at
  rw [upd_upd] at s2
  have s3 := Sep.add s1 n1 s2 L.p
  have s4 := Sep.add s1 n2 s3 L.t
  refine ⟨_, s4, fun y u e => ?_, gx, ⟨?_, ?_, upd_same⟩⟩
  · rw [upd_ne (nn g2 e).symm, upd_ne (nn g1 e).symm, upd_ne (nn gx e).symm]
    exact e
  · unfold LivF
    rw [upd_ne tx.symm, upd_ne px.symm, upd_same]
  · rw [upd_ne pt, upd_same]
/-- what holds ahead of each turn -/
def In19 (G : Hp) (C : Addr) (c : Nat) (lv st ud : Addr) (n : Nat) (H : Hp) : Prop := ∃ xa da sa ua ka xb db sb ub kb a b, S19 G C c lv st ud false ⟨xa, da, ua, ka⟩ ⟨xb, db, ub, kb⟩ ⟨sa, ua, ka⟩ ⟨sb, ub, kb⟩ a b H ∧ Sz n ua ka ∧ Sz n ub kb
theorem In19.pick {G : Hp} {C : Addr} {c : Nat} {lv st ud : Addr} {n : Nat} {H : Hp} {w : Int} (h : In19 G C c lv st ud n H) (hw : w = 0 ∨ w = 1) : ∃ o xa da sa ua ka xb db sb ub kb a b, w = wI o ∧ S19 G C c lv st ud o ⟨xa, da, ua, ka⟩ ⟨xb, db, ub, kb⟩ ⟨sa, ua, ka⟩ ⟨sb, ub, kb⟩ a b H ∧ Sz n ua ka ∧ Sz n ub kb := by
  obtain ⟨xa, da, sa, ua, ka, xb, db, sb, ub, kb, a, b, S, za, zb⟩ := h
  rcases hw with e | e
  · exact ⟨false, xa, da, sa, ua, ka, xb, db, sb, ub, kb, a, b, e, S, za, zb⟩
  · exact ⟨true, xb, db, sb, ub, kb, xa, da, sa, ua, ka, b, a, e, S.swap, zb, za⟩
theorem In19.of {G : Hp} {C : Addr} {c : Nat} {lv st ud : Addr} {n : Nat} {H : Hp} {o : Bool} {xa da sa : Addr} {ua : List (List Nat)} {ka : List Int} {xb db sb : Addr} {ub : List (List Nat)} {kb : List Int} {a b : Int} (S : S19 G C c lv st ud o ⟨xa, da, ua, ka⟩ ⟨xb, db, ub, kb⟩ ⟨sa, ua, ka⟩ ⟨sb, ub, kb⟩ a b H) (za : Sz n ua ka) (zb : Sz n ub kb) : In19 G C c lv st ud n H := by
  cases o
  · exact ⟨_, _, _, _, _, _, _, _, _, _, _, _, S, za, zb⟩
  · exact ⟨_, _, _, _, _, _, _, _, _, _, _, _, S.swap, zb, za⟩
theorem cut_neg1 (xs : List V) : cutV xs none (some (-1)) = xs.dropLast := by
  unfold cutV
  have e : HT.sIx xs.length xs.length (some (-1)) = xs.length - 1 := by
    show ((-1 : Int) + (xs.length : Int)).toNat = xs.length - 1
    omega
  rw [e, HT.sIx_none, List.drop_zero, Nat.sub_zero, List.dropLast_eq_take]
theorem cut_most {us : List (List Nat)} {n : Nat} (h : us.length = n + 2) : cutV (ls us) none (some (if ((ls us).length : Int) - 1 > 1 then ((ls us).length : Int) - 1 else 1)) = ls us.dropLast := by
  have e : (if ((ls us).length : Int) - 1 > 1 then ((ls us).length : Int) - 1 else 1) = ((n + 1 : Nat) : Int) := by
    rw [ls_len, h]
    split <;> omega
  rw [e, cut_to]
  unfold ls
  rw [← List.map_take, List.dropLast_eq_take, h]
  rfl
theorem cut_one (u : List Nat) : cutV (ls [u]) none (some (if ((ls [u]).length : Int) - 1 > 1 then ((ls [u]).length : Int) - 1 else 1)) = ls [u] := by
  have e : (if ((ls [u]).length : Int) - 1 > 1 then ((ls [u]).length : Int) - 1 else 1) = ((1 : Nat) : Int) := by
    rw [ls_len]
    rfl
  rw [e, cut_to]
  rfl
theorem iv_drop1 (ks : List Int) : (iv ks).dropLast = iv ks.dropLast := by
  unfold iv
  rw [List.map_dropLast]

/-! ### an object, squeezed in one of two ways -/
local macro_rules | `(tactic| walk_at "sq side") => `(tactic| first
  | ((with_reducible show LivO _ _ _ _ _ _ _ _ _); assumption)
  | ((with_reducible show CDivW _ _); assumption)
  | ((with_reducible show RgC _ _ _ _); assumption)
  | ((with_reducible show atI _ _ = some _); assumption))
def spUndoC (C : Addr) : Sp := fun vs H Q _ => ∃ (x dx p t : Addr) (c : Nat) (us : List (List Nat)) (ks : List Int), vs = [.ref x] ∧ LivO C x dx p t c us ks H ∧
  Keep (us ≠ [] ∧ us.length ≤ 10000 ∧ ks.length ≤ 10000 ∧ ks ≠ [] ∧ ∀ p' t' H', But x H H' → H p' = none → H t' = none → p' ≠ t' → LivO C x dx p' t' c us.dropLast ks.dropLast H' → Q .non H')
theorem undo_calm {C CU : Addr} (c : MetX P w K mg base 3 C "undo" (spUndo C CU)) : Met P w K mg base 3 C "undo" (spUndoC C) := c.calm fun vs H Q E h => by
  obtain ⟨x, dx, p, t, c, us, ks, rfl, hL, ⟨a, b, d, e, q⟩⟩ := h
  exact ⟨x, dx, p, t, c, us, ks, rfl, hL, ⟨a, b, d, fun z => absurd z e, fun _ => q⟩⟩
theorem star_fin {C x dx p t : Addr} {c : Nat} {us : List (List Nat)} {ks ns : List Int} {u : List Nat} {H : Hp} {Q : VK} {E : XK} (hL : LivO C x dx p t c us ks H) (eu : us.getLast? = some u) (lu : u.length ≤ 100000) (cu : ∀ x ∈ u, x < 0x110000) (cc : c < 0x110000) (hm : Mid ns) (lus : us.length ≤ 10000) (l9 : ns.length ≤ 1000) (lks : ks.length ≤ 10000)
    (fin : ∀ p' t' H', But x H H' → H p' = none → H t' = none → p' ≠ t' → LivO C x dx p' t' c (us ++ onT c u ns) (ks ++ ns) H' → Q .non H') : ∀ tp, H tp = none → spSqz C [.ref x, .ref tp] (upd H tp (.tup (iv ns))) Q E := fun tp ntp => by
  have s := same_new (o := .tup (iv ns)) ntp
  refine ⟨x, dx, p, t, tp, c, us, ks, ns, u, rfl, hL.same s, upd_same, ⟨eu, lu, cu, cc, hm, lus, l9, lks, fun p' t' H' b n1 n2 ne hL' => fin p' t' H' (fun y v ny e => b y v ny (s _ _ e)) (s.free n1) (s.free n2) ne hL'⟩⟩
theorem same_but {x : Addr} {G G1 G2 : Hp} (s : Same G G1) (b : But x G1 G2) (n : G x = none) : Same G G2 := fun y v e => b y v (nn n e).symm (s _ _ e)
/-- an object in the quiet part -/
structure Ob (G : Hp) (C : Addr) (x dx : Addr) (c : Nat) (u : List Nat) (ks : List Int) (G1 : Hp) : Prop where
  s : Same G G1
  n : G x = none
  ex : ∃ p t us, LivO C x dx p t c (u :: us) ks G1 ∧ Sz 20 (u :: us) ks
theorem Ob.on {G G1 G2 : Hp} {C x dx : Addr} {c : Nat} {u : List Nat} {ks : List Int} (h : Ob G C x dx c u ks G1) (s : Same G1 G2) : Ob G C x dx c u ks G2 := by
  obtain ⟨p, t, us, hL, z⟩ := h.ex
  exact ⟨h.s.trans s, h.n, p, t, us, hL.same s, z⟩
/-- one call of squeeze -/
theorem Ob.sqz {R : Rg} {G G1 H1 : Hp} {C x dx : Addr} {c : Nat} {u : List Nat} {ks ns : List Int} {Q : VK} {E : XK} (hs : Sep R G1 H1) (h : Ob G C x dx c u ks G1) (hc : c < 0x110000) (hm : ∀ k ∈ ns, (2 : Int) ≤ k ∧ k ≤ 1000000) (l : (ks ++ ns).length ≤ 8)
    (fin : ∀ G2 H2, Sep R G2 H2 → Ob G C x dx c u (ks ++ ns) G2 → Q .non H2) : ∀ tp, H1 tp = none → spSqz C [.ref x, .ref tp] (upd H1 tp (.tup (iv ns))) Q E := by
  obtain ⟨p, t, us, hL, z⟩ := h.ex
  obtain ⟨v, ev, lv, cv⟩ := z.last
  have z1 := z.l
  rw [List.length_append] at l
  refine star_fin (hL.same hs.same) ev (by omega) cv hc (fun k hk => ⟨(hm k hk).1, by have := (hm k hk).2; omega⟩) (by omega) (by omega) (by omega) fun p' t' H' b n1 n2 ne L => ?_
  obtain ⟨G2, hs2, b2, _, _, L2⟩ := hs.obj hL b n1 n2 ne L
  have z2 := z.on ev hc (fun k hk => (hm k hk).1) (show ns.length ≤ 15 by omega)
  exact fin G2 H' hs2 ⟨same_but h.s b2 h.n, h.n, p', t', us ++ onT c v ns, L2, ⟨z2.l, by rw [List.length_append]; omega, z2.u⟩⟩
theorem Ob.get {R : Rg} {G G1 H1 : Hp} {C x dx : Addr} {c : Nat} {u : List Nat} {ks : List Int} (h : Ob G C x dx c u ks G1) (hs : Sep R G1 H1) : ∃ p t, H1 x = some (.ins C dx [("character_now", .str (SX.S [c])), ("passed", .ref p), ("taken", .ref t)]) := by
  obtain ⟨p, t, us, hL, z⟩ := h.ex
  exact ⟨p, t, hs.get hL.at⟩
theorem Ob.und {R : Rg} {G G1 H1 : Hp} {C x dx p t : Addr} {c : Nat} {u : List Nat} {us : List (List Nat)} {ks : List Int} {Q : Hp → Prop} (hs : Sep R G1 H1) (hS : Same G G1) (n : G x = none) (hL : LivO C x dx p t c (u :: us) ks G1) (z : Sz 20 (u :: us) ks) (ne : ks ≠ [])
    (fin : ∀ G2 H2, Sep R G2 H2 → Ob G C x dx c u ks.dropLast G2 → Q H2) : (u :: us) ≠ [] ∧ (u :: us).length ≤ 10000 ∧ ks.length ≤ 10000 ∧ ks ≠ [] ∧ ∀ p' t' H', But x H1 H' → H1 p' = none → H1 t' = none → p' ≠ t' → LivO C x dx p' t' c (u :: us).dropLast ks.dropLast H' → Q H' := by
  have z1 := z.l
  have z2 := z.k
  have zu := z.un ne
  have nus : us ≠ [] := fun e => by
    rw [e] at z1
    exact ne (List.length_eq_zero_iff.mp (by simpa using z1.symm))
  have e : (u :: us).dropLast = u :: us.dropLast := List.dropLast_cons_of_ne_nil nus
  refine ⟨List.cons_ne_nil _ _, by omega, by omega, ne, fun p' t' H' b n1 n2 pt L => ?_⟩
  obtain ⟨G2, hs2, b2, _, _, L2⟩ := hs.obj hL b n1 n2 pt L
  rw [e] at L2 zu
  exact fin G2 H' hs2 ⟨same_but hS b2 n, n, p', t', us.dropLast, L2, zu⟩
theorem rg_half : ∀ m : Nat, m ≤ 8 → RgC 0 ((m : Nat) - 1) 2 (m / 2) := by
  intro m hm
  match m, hm with
  | 0, _ => exact ⟨by decide, by decide, by decide +kernel, by decide +kernel⟩
  | 1, _ => exact ⟨by decide, by decide, by decide +kernel, by decide +kernel⟩
  | 2, _ => exact ⟨by decide, by decide, by decide +kernel, by decide +kernel⟩
  | 3, _ => exact ⟨by decide, by decide, by decide +kernel, by decide +kernel⟩
  | 4, _ => exact ⟨by decide, by decide, by decide +kernel, by decide +kernel⟩
  | 5, _ => exact ⟨by decide, by decide, by decide +kernel, by decide +kernel⟩
  | 6, _ => exact ⟨by decide, by decide, by decide +kernel, by decide +kernel⟩
  | 7, _ => exact ⟨by decide, by decide, by decide +kernel, by decide +kernel⟩
  | 8, _ => exact ⟨by decide, by decide, by decide +kernel, by decide +kernel⟩
  | n + 9, h => omega
abbrev s_law_object : Stmt := topS 23
theorem sc_law_object : FnScope ["pool", "written", "sign", "numbers", "live", "number", "spot"] ["pool", "written", "sign", "numbers"] (defScope s_law_object) := ⟨rfl, rfl, rfl, by decide +kernel, rfl, by decide +kernel, by decide +kernel⟩

def spObj (C : Addr) : Sp := fun vs H Q _ => ∃ (r q : Addr) (u : List Nat) (c : Nat) (ns : List Int) (N : Int) (G : Hp), vs = [.ref r, .str (SX.S u), .str (SX.S [c]), .ref q] ∧ Sep (rg3 r N) G H ∧ G q = some (.lst (iv ns)) ∧
  Keep (u.length ≤ 2000 ∧ (∀ y ∈ u, y < 0x110000) ∧ c < 0x110000 ∧ (∀ k ∈ ns, (2 : Int) ≤ k ∧ k ≤ 1000000) ∧ ns.length ≤ 8 ∧ N < 2 ^ 58) ∧ ∀ x dx G' H', Sep (rg3 r (N + 1)) G' H' → Ob G C x dx c u ns G' → Q (.ref x) H'
theorem cal_object {C : Addr} (D : DefAt K mg "_law_object" s_law_object ["pool", "written", "sign", "numbers"]) (B : Bt mg) (c_law_draw : Cal P w K mg base 1 "_law_draw" spDraw3 []) (c_SqueezedText : Mak P w K mg base 4 "SqueezedText" C (spLInit C)) (c_squeeze : MetR P w K mg base 5 C "squeeze" (spStar (spSqz C))) (c_undo : Met P w K mg base 3 C "undo" (spUndoC C)) : Cal P w K mg base 6 "_law_object" (spObj C) [] := by
  refine D.cal sc_law_object (fun vs H Q E h => ?_) (fun f cdv A outer s H vs Q E hr h => ?_)
  · obtain ⟨r, q, u, c, ns, N, G, rfl, _⟩ := h
    rfl
  · obtain ⟨r, q, u, c, ns, N, G, rfl, hS, hq, ⟨lu, cu, hc, row, ln, hN⟩, fin⟩ := h
    refine ⟨_, (pss_cons (ps_set (i := 4) sc_law_object.nd rfl (Or.inl rfl) (pe_mk c_SqueezedText hr (by first | decide | omega) (by rfl) (pa_cons (pv 1) (pa_cons (pv 2) pa_nil))))
  (pss_cons (ps_if (pt_cmpR op_eq (pe_c c_law_draw hr (by first | decide | omega) (by rfl) (pa_cons (pv 0) (pa_cons pe_int pa_nil))) pe_int (nomark _)) (pss_cons (ps_for PassesOwn.never rfl (pi_listK (K := K) (pv 3)) (pg_name (i := 5) sc_law_object.nd rfl (Or.inl rfl))
   (pss_one (ps_expr (pe_mR c_squeeze hr (by first | decide | omega) (pv 4) (pa_cons (pv 5) pa_nil)))))
  (pss_one (ps_ret (pv 4)))) pss_nil)
  (pss_cons (ps_expr (pe_mR c_squeeze hr (by first | decide | omega) (pv 4) (pa_cons pe_int (pa_cons pe_int pa_nil))))
  (pss_cons (ps_expr (pe_m0 c_undo hr (by first | decide | omega) (pv 4)))
  (pss_cons (ps_expr (pe_m0 c_undo hr (by first | decide | omega) (pv 4)))
  (pss_cons (ps_for PassesOwn.never rfl (pi_range3 (by rfl) B.range (pa_cons pe_int (pa_cons (pe_op op_sub (pe_callB (len_seqK (K := K)) (by rfl) B.len boot_len (pa_cons (pv 3) pa_nil)) pe_int) (pa_cons pe_int pa_nil)))) (pg_name (i := 6) sc_law_object.nd rfl (Or.inl rfl))
   (pss_one (ps_expr (pe_mR c_squeeze hr (by first | decide | omega) (pv 4) (pa_cons (pe_ix (ix_listK (K := K)) (pv 3) (pv 6) (fun _ _ => rfl)) (pa_cons (pe_ix (ix_listK (K := K)) (pv 3) (pe_op op_add (pv 6) pe_int) (fun _ _ => rfl)) pa_nil))))))
  (pss_cons (ps_if (pt_cmpR op_eq (pe_op op_mod (pe_callB (len_seqK (K := K)) (by rfl) B.len boot_len (pa_cons (pv 3) pa_nil)) pe_int) pe_int (nomark _)) (pss_one (ps_expr (pe_mR c_squeeze hr (by first | decide | omega) (pv 4) (pa_cons (pe_ix (ix_listK (K := K)) (pv 3) (pe_un un_neg pe_int) (fun _ _ => rfl)) pa_nil)))) pss_nil)
  (pss_one (ps_ret (pv 4)))))))))), ?_⟩
    walk_at "sq go"
    intro x0 d0 nx0 nd0 ne0
    have hx0 : upd (upd H d0 (.own x0)) x0 (.ins C d0 []) x0 = some (.ins C d0 []) := upd_same
    walk_at "sq go"
    intro p0 t0 H6 b0 np0 nt0 pt0 L0
    obtain ⟨G1, hS1, k1, gx0, M0⟩ := made19 hS nx0 nd0 ne0 b0 np0 nt0 pt0 L0
    have O1 : Ob G C x0 d0 c u [] G1 := ⟨k1, gx0, p0, t0, [], M0, ⟨rfl, Nat.zero_le _, fun z hz => by
      obtain rfl := List.mem_singleton.mp hz
      exact ⟨lu, cu⟩⟩⟩
    clear b0 np0 nt0 L0 hx0 M0
    walk_at "sq go"
    refine ⟨⟨by decide, by decide, by omega⟩, fun z H7 z0 z1 hS2 => ?_⟩
    walk_at "sq go"
    refine ifD (fun ez => ?_) (fun nz => ?_)
    · walk_at "sq go"
      refine for_list (K := K) (a := q) (xs := iv ns) (fun i σ H' => Keep (∃ G' x5, σ = [some (.ref r), some (.str (SX.S u)), some (.str (SX.S [c])), some (.ref q), some (.ref x0), x5, none] ∧ Sep (rg3 r (N + 1)) G' H' ∧ Ob G C x0 d0 c u (ns.take i) G')) ⟨_, _, rfl, hS2, by rw [List.take_zero]; exact O1⟩ (fun i σ H' _ h => ?_) (fun i y σ H' hx h => ?_) (fun σ H' h => ?_)
      · obtain ⟨G', x5, rfl, hs, O⟩ := h.o
        exact seqL_of (hs.get (O.s _ _ hq))
      · obtain ⟨G', x5, rfl, hs, O⟩ := h.o
        obtain ⟨k, hk, rfl⟩ := iv_get hx
        obtain ⟨p1, t1, hx1⟩ := O.get hs
        have mk := row k (List.mem_of_getElem? hk)
        walk_at "sq go"
        refine O.sqz (ns := [k]) hs hc (fun y hy => by rw [List.mem_singleton.mp hy]; exact mk) (by rw [List.length_append, List.length_take]; have := (List.getElem?_eq_some_iff.mp hk).1; simp only [List.length_cons, List.length_nil]; omega) fun G2 H2 hs2 O2 => ⟨G2, _, rfl, hs2, by rw [List.take_add_one, hk]; exact O2⟩
      · obtain ⟨G', x5, rfl, hs, O⟩ := h.o
        rw [iv_len, List.take_length] at O
        walk_at "sq go"
        exact fin x0 d0 G' H' hs O
    · obtain ⟨p1, t1, hx1⟩ := O1.get hS2
      walk_at "sq go"
      refine O1.sqz (ns := [2, 5]) hS2 hc (by decide) (by decide) fun G2 H2 hs2 O2 => ?_
      obtain ⟨p2, t2, us2, hL2, zz2⟩ := O2.ex
      have jL2 := hL2.same hs2.same
      have jo2 := jL2.at
      walk_at "sq go"
      refine ⟨Ob.und hs2 O2.s O2.n hL2 zz2 (by simp) fun G3 H3 hs3 O3 => ?_⟩
      obtain ⟨p3, t3, us3, hL3, zz3⟩ := O3.ex
      have jL3 := hL3.same hs3.same
      have jo3 := jL3.at
      walk_at "sq go"
      refine ⟨Ob.und hs3 O3.s O3.n hL3 zz3 (by simp) fun G4 H4 hs4 O4 => ?_⟩
      have O4 : Ob G C x0 d0 c u (ns.take (2 * 0)) G4 := O4
      have hq4 := hs4.get (O4.s _ _ hq)
      have rg := rg_half ns.length ln
      have el := iv_len ns
      rw [← el] at rg
      walk_at "sq go"
      refine for_rangeC (lo := 0) (c := 2) (n := (iv ns).length / 2) (fun i σ H' => Keep (∃ G' x6, σ = [some (.ref r), some (.str (SX.S u)), some (.str (SX.S [c])), some (.ref q), some (.ref x0), none, x6] ∧ Sep (rg3 r (N + 1)) G' H' ∧ Ob G C x0 d0 c u (ns.take (2 * i)) G')) ⟨G4, _, rfl, hs4, O4⟩ (fun i σ H' hi h => ?_) (fun σ H' h => ?_)
      · obtain ⟨G', x6, rfl, hs, O⟩ := h.o
        rw [el] at hi
        have i1 : 2 * i < ns.length := by omega
        have i2 : 2 * i + 1 < ns.length := by omega
        obtain ⟨k1, e1⟩ : ∃ k, ns[2 * i]? = some k := ⟨_, List.getElem?_eq_getElem i1⟩
        obtain ⟨k2, e2⟩ : ∃ k, ns[2 * i + 1]? = some k := ⟨_, List.getElem?_eq_getElem i2⟩
        have a1 : atI (iv ns) (0 + (i : Nat) * 2) = some (.int k1) := by
          rw [show ((0 : Int) + (i : Nat) * 2) = ((2 * i : Nat) : Int) by push_cast; omega]
          exact atI_nat (by rw [List.getElem?_map, e1]; rfl)
        have a2 : atI (iv ns) (0 + (i : Nat) * 2 + 1) = some (.int k2) := by
          rw [show ((0 : Int) + (i : Nat) * 2 + 1) = ((2 * i + 1 : Nat) : Int) by push_cast; omega]
          exact atI_nat (by rw [List.getElem?_map, e2]; rfl)
        have hq' := seqL_of (K := K) (hs.get (O.s _ _ hq))
        obtain ⟨p5, t5, hx5⟩ := O.get hs
        have m1 := row k1 (List.mem_of_getElem? e1)
        have m2 := row k2 (List.mem_of_getElem? e2)
        walk_at "sq go"
        refine O.sqz (ns := [k1, k2]) hs hc (fun y hy => by
          rcases List.mem_cons.mp hy with z | z
          · rw [z]; exact m1
          · rw [List.mem_singleton.mp z]; exact m2) (by rw [List.length_append, List.length_take]; simp only [List.length_cons, List.length_nil]; omega) fun G2 H2 hs2 O2 => ⟨G2, _, rfl, hs2, ?_⟩
        rw [show 2 * (i + 1) = 2 * i + 1 + 1 by omega, List.take_add_one, List.take_add_one, e1, e2]
        simpa using O2
      · obtain ⟨G', x6, rfl, hs, O⟩ := h.o
        rw [el] at O
        have hq' := seqL_of (K := K) (hs.get (O.s _ _ hq))
        have cm : CDivW ((iv ns).length : Int) 2 := div_ok (by decide) (by decide)
        walk_at "sq go"
        refine ifD (fun ez => ?_) (fun nz => ?_)
        · have od : ns.length % 2 = 1 := by
            rw [el] at ez
            have := V.int.inj ez
            omega
          obtain ⟨a, kl, rfl⟩ : ∃ a kl, ns = a ++ [kl] := by
            rcases List.eq_nil_or_concat ns with z | ⟨a, kl, z⟩
            · rw [z] at od
              cases od
            · exact ⟨a, kl, by rw [z, List.concat_eq_append]⟩
          have la : 2 * ((a ++ [kl]).length / 2) = a.length := by
            rw [List.length_append, List.length_singleton] at od ⊢
            omega
          rw [la, List.take_left] at O
          have al : atI (iv (a ++ [kl])) (-1) = some (.int kl) := by
            have hix : ixN (iv (a ++ [kl])).length (-1) = some a.length := by
              unfold ixN
              rw [iv_len, List.length_append, List.length_singleton, if_neg (by omega), if_pos (by omega)]
              congr 1
              omega
            unfold atI
            rw [hix]
            show (iv (a ++ [kl]))[a.length]? = _
            simp [iv]
          obtain ⟨p5, t5, hx5⟩ := O.get hs
          have m1 := row kl (by simp)
          walk_at "sq go"
          refine O.sqz (ns := [kl]) hs hc (fun y hy => by rw [List.mem_singleton.mp hy]; exact m1) ln fun G2 H2 hs2 O2 => ?_
          walk_at "sq go"
          exact fin x0 d0 G2 H2 hs2 O2
        · have ev : 2 * (ns.length / 2) = ns.length := by
            rw [el] at nz
            have : ¬ ((ns.length : Nat) : Int) % 2 = 1 := fun z => nz (congrArg V.int z)
            omega
          rw [ev, List.take_length] at O
          walk_at "sq go"
          exact fin x0 d0 G' H' hs O

/-! ### the turn of the law, kept with the sign -/
abbrev s_law_right : Stmt := topS 24
theorem sc_law_right : FnScope ["pool", "written", "sign", "numbers", "one", "turn", "at", "others", "way", "begun", "mark", "two", "due"] ["pool"] (defScope s_law_right) := ⟨rfl, rfl, rfl, by decide +kernel, rfl, by decide +kernel, by decide +kernel⟩

def bdS (st : Stmt) : List Stmt := match st with
  | .For _ _ b _ _ => b
  | .If _ b _ _ => b
  | _ => []
def orS (st : Stmt) : List Stmt := match st with
  | .If _ _ b _ => b
  | _ => []
def atS (l : List Stmt) (i : Nat) : Stmt := l.getD i (.Pass ⟨0, 0, 0, 0⟩)
def bdT : List Stmt := bdS (atS (defBody s_law_right) 2)
def KB21 (P : Program) (w : World) (K : PySem.W.Frag) (mg : Str → Option Value) (base : Heap) (body : List Stmt) (t : TS) : Prop := ∀ (f : Addr) (cdv : Value) (A : Around) (outer : List Env) (s : Shared) (H : Hp) (E : XK) (Bq : Addr) (ob : Obj) (ch : Str) (T : Nat),
  Room 7 (A.deeper (envOfC "_law_right" (defScope s_law_right) s.heap.objs.size f cdv)) → Spare (pinX (cxOf CX0 P w K mg base ["pool", "written", "sign", "numbers", "one", "turn", "at", "others", "way", "begun", "mark", "two", "due"] "_law_right" (defScope s_law_right) f cdv A outer s H E).nox Bq ob) Bq →
  KSs (pinX (cxOf CX0 P w K mg base ["pool", "written", "sign", "numbers", "one", "turn", "at", "others", "way", "begun", "mark", "two", "due"] "_law_right" (defScope s_law_right) f cdv A outer s H E).nox Bq ob) (GF (pinX (cxOf CX0 P w K mg base ["pool", "written", "sign", "numbers", "one", "turn", "at", "others", "way", "begun", "mark", "two", "due"] "_law_right" (defScope s_law_right) f cdv A outer s H E).nox Bq ob).env.locals "sign" ch T) body t
def stB (r : Addr) (u : List Nat) (c : Nat) (q one : Addr) (x5 x6 x7 x8 x9 x10 x11 x12 : Option V) : L2.St := [some (.ref r), some (.str (SX.S u)), some (.str (SX.S [c])), some (.ref q), some (.ref one), x5, x6, x7, x8, x9, x10, x11, x12]

local macro_rules | `(tactic| walk_at "sq side") => `(tactic| first
  | ((with_reducible show LivO _ _ _ _ _ _ _ _ _); assumption)
  | ((with_reducible show Oth _ _ _ _); assumption)
  | ((with_reducible show atI _ _ = some _); assumption))
theorem snd21 {C : Addr} (B : Bt mg) (oC : OwnE K C) (c_law_draw : Cal P w K mg base 1 "_law_draw" spDraw3 []) (c_law_replaced : CalW P w K mg base 1 "_law_replaced" rcS (spRepl1 K) rz0) (c_law_object : Cal P w K mg base 6 "_law_object" (spObj C) []) (c_eq : Met P w K mg base 1 C "__eq__" (spEqO K C)) : ∃ t, KB21 P w K mg base (bdT.drop 4) t ∧
    ∀ (D : Ends) (G GX JX : Hp) (r q x1 d1 : Addr) (c : Nat) (NX : Int) (u : List Nat) (ns : List Int) (x5 x6 x7 x9 x10 x11 x12 : Option V) (wq : Addr) (ws : List Int), GX wq = some (.lst (iv ws)) → (∀ k ∈ ws, (2 : Int) ≤ k ∧ k ≤ 1000000) → ws.length ≤ 8 → Sep (rg3 r NX) GX JX → Ob G C x1 d1 c u ns GX → GX q = some (.lst (iv ns)) → u.length ≤ 200 → Asc u → 32 ≤ c ∧ c < 126 → NX < 2 ^ 57 + 100 → (∀ k ∈ ns, (2 : Int) ≤ k ∧ k ≤ 1000000) → ns.length ≤ 6 →
      (∀ GT JT y9 y10 y11 y12, Sep (rg3 r (NX + 3)) GT JT → Same GX GT → D.nx (stB r u c q x1 x5 x6 x7 (some (.ref wq)) y9 y10 y11 y12) JT) →
      t D (stB r u c q x1 x5 x6 x7 (some (.ref wq)) x9 x10 x11 x12) JX := by
  refine ⟨_, fun f cdv A outer s H E Bq ob ch T hr S => by
      have hF : FOk (pinX (cxOf CX0 P w K mg base ["pool", "written", "sign", "numbers", "one", "turn", "at", "others", "way", "begun", "mark", "two", "due"] "_law_right" (defScope s_law_right) f cdv A outer s H E).nox Bq ob) (GF (pinX (cxOf CX0 P w K mg base ["pool", "written", "sign", "numbers", "one", "turn", "at", "others", "way", "begun", "mark", "two", "due"] "_law_right" (defScope s_law_right) f cdv A outer s H E).nox Bq ob).env.locals "sign" ch T) := gf_ok
      exact (kss_cons (ks_set (i := 9) (gf_st (by decide)) sc_law_right.nd rfl rfl (ke_ix (FIx.of hF S (ix_listK (K := K)) (fun _ _ => (ix_listK (K := K)))) (ke_lst hF (ka_cons (kv 1) (ka_cons (kv 1) (ka_cons (ke_op (FOp.of hF S op_add_str (fun _ _ => op_add_str)) (kv 1) (ke_str hF)) (ka_cons (ke_cT (i := 2) c_law_replaced hr (by first | decide | omega) (by rfl) (kv 1) rfl rfl (ke_lst hF (ka_cons (ke_int hF) ka_nil))) ka_nil))))) (ke_c hF c_law_draw hr (by first | decide | omega) (by rfl) (ka_cons (kv 0) (ka_cons (ke_int hF) ka_nil))) (fun _ _ => rfl))) (kss_cons (ks_set (i := 10) (gf_st (by decide)) sc_law_right.nd rfl rfl (ke_ix (FIx.of hF S (ix_listK (K := K)) (fun _ _ => (ix_listK (K := K)))) (ke_lst hF (ka_cons (kv 2) (ka_cons (kv 2) (ka_cons (kv 2) (ka_cons (ke_str hF) ka_nil))))) (ke_c hF c_law_draw hr (by first | decide | omega) (by rfl) (ka_cons (kv 0) (ka_cons (ke_int hF) ka_nil))) (fun _ _ => rfl))) (kss_cons (ks_set (i := 11) (gf_st (by decide)) sc_law_right.nd rfl rfl (ke_c hF c_law_object hr (by first | decide | omega) (by rfl) (ka_cons (kv 0) (ka_cons (kv 9) (ka_cons (kv 10) (ka_cons (kv 8) ka_nil)))))) (kss_cons (ks_set (i := 12) (gf_st (by decide)) sc_law_right.nd rfl rfl (ke_and (ke_cmp (FOp.of hF S op_eq (fun _ _ => op_eq)) (kv 9) (kv 1) (nomark _)) (ke_and (ke_cmp (FOp.of hF S (op_eqDK (K := K) hr.units) (fun _ _ => (op_eqDK (K := K) hr.units))) (kv 8) (kv 3) (nomark _)) (ke_one (ke_cmp (FOp.of hF S op_eq (fun _ _ => op_eq)) (kv 10) (kv 2) (nomark _)))))) (kss_one (ks_if (KW.kt (kw_or (kt_cmp (FOp.of hF S op_ne (fun _ _ => op_ne)) (ke_cmp (FOp.of hF S (op_ownK (K := K) (k := 1) (j := 7) c_eq hr (by decide)) (fun _ _ => (op_ownK (K := K) (k := 1) (j := 7) c_eq hr (by decide)))) (kv 4) (kv 11) (nomark _)) (kv 12) (nomark _)) (kw_or (kt_cmp (FOp.of hF S op_ne (fun _ _ => op_ne)) (ke_cmp (FOp.of hF S (op_ownK (K := K) (k := 1) (j := 7) c_eq hr (by decide)) (fun _ _ => (op_ownK (K := K) (k := 1) (j := 7) c_eq hr (by decide)))) (kv 11) (kv 4) (nomark _)) (kv 12) (nomark _)) (kw_or1 (kt_cmp (FOp.of hF S op_eq (fun _ _ => op_eq)) (ke_cmp (FOp.of hF S (op_ownNeK (K := K) (k := 1) (j := 7) c_eq oC hr (by decide)) (fun _ _ => (op_ownNeK (K := K) (k := 1) (j := 7) c_eq oC hr (by decide)))) (kv 4) (kv 11) (nomark _)) (kv 12) (nomark _)))))) (kss_one (ks_ret ke_bl)) kss_nil)))))), ?_⟩
  intro D G GX JX r q x1 d1 c NX u ns x5 x6 x7 x9 x10 x11 x12 wq ws gw rws lws hs O hq lu au hc hNX row ln fin
  have el : (iv ns).length = ns.length := iv_len _
  have eb : (Str.ofString "b") = SX.S [98] := by decide +kernel
  have et : (Str.ofString "~") = SX.S [126] := by decide +kernel
  walk_at "sq go"
  rw [eb, SX.S_cat]
  refine ⟨by rw [SX.S_len, SX.S_len, sizeLine_eq]; simp only [List.length_cons, List.length_nil]; omega, ?_⟩
  walk_at "sq go"
  intro e4 n_e4
  have hs15 := hs.on (same_new (o := .lst [.int 2]) n_e4)
  have h4 := seqL_of (K := K) (xs := iv [2]) (upd_same (a := e4) (H := JX) (o := .lst (iv [2])))
  walk_at "sq go"
  refine ⟨⟨by decide, by decide, by omega⟩, fun J14 s14 => ?_⟩
  have hs16 := hs15.on s14
  walk_at "sq go"
  intro lb n_lb
  have g_lb := hs16.free n_lb
  have hs17 := hs16.new n_lb (.lst [.str (SX.S u), .str (SX.S u), .str (SX.S (u ++ [98])), .str (SX.S (sqT c [2] u))])
  walk_at "sq go"
  refine ⟨⟨by decide, by decide, by omega⟩, fun bd J17 bd0 bd1 hs18 => ?_⟩
  have j_lb := hs18.get upd_same
  have two2 : Two [2] := fun k hk => by rw [List.mem_singleton.mp hk]; decide
  have cu : ∀ y ∈ u, y < 0x110000 := fun y hy => by have := au y hy; omega
  obtain ⟨bu, ebu, lbu, cbu⟩ : ∃ bu, atI [V.str (SX.S u), .str (SX.S u), .str (SX.S (u ++ [98])), .str (SX.S (sqT c [2] u))] bd = some (.str (SX.S bu)) ∧ bu.length ≤ 2000 ∧ ∀ y ∈ bu, y < 0x110000 := by
    rcases (show bd = 0 ∨ bd = 1 ∨ bd = 2 ∨ bd = 3 by omega) with z | z | z | z <;> rw [z]
    · exact ⟨u, atI_nat (j := 0) rfl, by omega, cu⟩
    · exact ⟨u, atI_nat (j := 1) rfl, by omega, cu⟩
    · refine ⟨u ++ [98], atI_nat (j := 2) rfl, by rw [List.length_append, List.length_singleton]; omega, fun y hy => ?_⟩
      rcases List.mem_append.mp hy with z | z
      · exact cu y z
      · rw [List.mem_singleton.mp z]
        decide
    · exact ⟨sqT c [2] u, atI_nat (j := 3) rfl, by have := sqT_len (c := c) two2 u; omega, sqT_mem (by omega) cu⟩
  have hs19 := hs18.weak (same_new (o := .lst [.str (SX.S u), .str (SX.S u), .str (SX.S (u ++ [98])), .str (SX.S (sqT c [2] u))]) g_lb)
  clear hs15 hs16 hs17 hs18 h4
  walk_at "sq go"
  rw [et]
  intro lm n_lm
  have g_lm := hs19.free n_lm
  have hs20 := hs19.new n_lm (.lst [.str (SX.S [c]), .str (SX.S [c]), .str (SX.S [c]), .str (SX.S [126])])
  walk_at "sq go"
  refine ⟨⟨by decide, by decide, by omega⟩, fun md J20 md0 md1 hs21 => ?_⟩
  have j_lm := hs21.get upd_same
  obtain ⟨mc, emc, cmc⟩ : ∃ mc, atI [V.str (SX.S [c]), .str (SX.S [c]), .str (SX.S [c]), .str (SX.S [126])] md = some (.str (SX.S [mc])) ∧ mc < 0x110000 := by
    rcases (show md = 0 ∨ md = 1 ∨ md = 2 ∨ md = 3 by omega) with z | z | z | z <;> rw [z]
    · exact ⟨c, atI_nat (j := 0) rfl, by omega⟩
    · exact ⟨c, atI_nat (j := 1) rfl, by omega⟩
    · exact ⟨c, atI_nat (j := 2) rfl, by omega⟩
    · exact ⟨126, atI_nat (j := 3) rfl, by decide⟩
  have hs22 := hs21.weak (same_new (o := .lst [.str (SX.S [c]), .str (SX.S [c]), .str (SX.S [c]), .str (SX.S [126])]) g_lm)
  clear hs19 hs20 hs21
  walk_at "sq go"
  refine ⟨⟨lbu, cbu, cmc, rws, lws, by omega⟩, fun x2 d2 G2 J22 hs23 O2 => ?_⟩
  have O1 := O.on O2.s
  obtain ⟨p1, t1, us1, hL1, zz1⟩ := O1.ex
  obtain ⟨p2, t2, us2, hL2, zz2⟩ := O2.ex
  have L1 := hL1.same hs23.same
  have L2 := hL2.same hs23.same
  have A1 := L1.at
  have A2 := L2.at
  have oth1 : Oth K C (.ref x1) J22 := .inl ⟨x1, d1, _, rfl, A1⟩
  have oth2 : Oth K C (.ref x2) J22 := .inl ⟨x2, d2, _, rfl, A2⟩
  have j_wq := seqL_of (K := K) (hs23.get (O2.s _ _ gw))
  have j_q := seqL_of (K := K) (hs23.get (O2.s _ _ hq))
  walk_at "sq go"
  by_cases e1 : bu = u
  · rw [show decide (V.str (SX.S bu) = V.str (SX.S u)) = true by rw [e1]; exact decide_eq_true rfl]
    walk_at "sq go"
    refine r_eqI j_wq j_q ?_
    by_cases e2 : ws = ns
    · rw [decide_eq_true e2]
      walk_at "sq go"
      by_cases e3 : mc = c
      · rw [show decide (V.str (SX.S [mc]) = V.str (SX.S [c])) = true by rw [e3]; exact decide_eq_true rfl]
        have EB1 : decide (c = mc ∧ u = bu ∧ ns = ws) = true := by simp [e1, e2, e3]
        have EB2 : decide (mc = c ∧ bu = u ∧ ws = ns) = true := by simp [e1, e2, e3]
        walk_at "sq go"
        refine ⟨.inl ⟨x2, d2, p2, t2, mc, bu :: us2, ws, u, bu, us1, us2, rfl, L2, rfl, rfl, _, rfl, ?_⟩⟩
        rw [EB1]
        rw [show (if false = true then !true else true) = true from rfl]
        walk_at "sq go"
        refine ⟨.inl ⟨x1, d1, p1, t1, c, u :: us1, ns, bu, u, us2, us1, rfl, L1, rfl, rfl, _, rfl, ?_⟩⟩
        rw [EB2, show (if false = true then !true else true) = true from rfl]
        walk_at "sq go"
        refine ⟨.inl ⟨x2, d2, p2, t2, mc, bu :: us2, ws, u, bu, us1, us2, rfl, L2, rfl, rfl, _, rfl, ?_⟩⟩
        rw [EB1, show (if true = true then !true else true) = !true from rfl]
        walk_at "sq go"
        exact fin _ _ _ _ _ _ (Sep3.mono hs23 (by omega)) O2.s
      · rw [show decide (V.str (SX.S [mc]) = V.str (SX.S [c])) = false by
          rw [decide_eq_false_iff_not]
          exact fun z => e3 (by have := SX.S_inj (V.str.inj z); simpa using this)]
        have e3' : ¬ c = mc := fun z => e3 z.symm
        have EB1 : decide (c = mc ∧ u = bu ∧ ns = ws) = false := by simp [e1, e2, e3, e3']
        have EB2 : decide (mc = c ∧ bu = u ∧ ws = ns) = false := by simp [e1, e2, e3, e3']
        walk_at "sq go"
        refine ⟨.inl ⟨x2, d2, p2, t2, mc, bu :: us2, ws, u, bu, us1, us2, rfl, L2, rfl, rfl, _, rfl, ?_⟩⟩
        rw [EB1]
        rw [show (if false = true then !false else false) = false from rfl]
        walk_at "sq go"
        refine ⟨.inl ⟨x1, d1, p1, t1, c, u :: us1, ns, bu, u, us2, us1, rfl, L1, rfl, rfl, _, rfl, ?_⟩⟩
        rw [EB2, show (if false = true then !false else false) = false from rfl]
        walk_at "sq go"
        refine ⟨.inl ⟨x2, d2, p2, t2, mc, bu :: us2, ws, u, bu, us1, us2, rfl, L2, rfl, rfl, _, rfl, ?_⟩⟩
        rw [EB1, show (if true = true then !false else false) = !false from rfl]
        walk_at "sq go"
        exact fin _ _ _ _ _ _ (Sep3.mono hs23 (by omega)) O2.s
    · rw [decide_eq_false e2]
      have e2' : ¬ ns = ws := fun z => e2 z.symm
      have EB1 : decide (c = mc ∧ u = bu ∧ ns = ws) = false := by simp [e1, e2, e2']
      have EB2 : decide (mc = c ∧ bu = u ∧ ws = ns) = false := by simp [e1, e2, e2']
      walk_at "sq go"
      refine ⟨.inl ⟨x2, d2, p2, t2, mc, bu :: us2, ws, u, bu, us1, us2, rfl, L2, rfl, rfl, _, rfl, ?_⟩⟩
      rw [EB1]
      rw [show (if false = true then !false else false) = false from rfl]
      walk_at "sq go"
      refine ⟨.inl ⟨x1, d1, p1, t1, c, u :: us1, ns, bu, u, us2, us1, rfl, L1, rfl, rfl, _, rfl, ?_⟩⟩
      rw [EB2, show (if false = true then !false else false) = false from rfl]
      walk_at "sq go"
      refine ⟨.inl ⟨x2, d2, p2, t2, mc, bu :: us2, ws, u, bu, us1, us2, rfl, L2, rfl, rfl, _, rfl, ?_⟩⟩
      rw [EB1, show (if true = true then !false else false) = !false from rfl]
      walk_at "sq go"
      exact fin _ _ _ _ _ _ (Sep3.mono hs23 (by omega)) O2.s
  · rw [show decide (V.str (SX.S bu) = V.str (SX.S u)) = false by
      rw [decide_eq_false_iff_not]
      exact fun z => e1 (SX.S_inj (V.str.inj z))]
    have e1' : ¬ u = bu := fun z => e1 z.symm
    have EB1 : decide (c = mc ∧ u = bu ∧ ns = ws) = false := by simp [e1, e1']
    have EB2 : decide (mc = c ∧ bu = u ∧ ws = ns) = false := by simp [e1, e1']
    walk_at "sq go"
    refine ⟨.inl ⟨x2, d2, p2, t2, mc, bu :: us2, ws, u, bu, us1, us2, rfl, L2, rfl, rfl, _, rfl, ?_⟩⟩
    rw [EB1]
    rw [show (if false = true then !false else false) = false from rfl]
    walk_at "sq go"
    refine ⟨.inl ⟨x1, d1, p1, t1, c, u :: us1, ns, bu, u, us2, us1, rfl, L1, rfl, rfl, _, rfl, ?_⟩⟩
    rw [EB2, show (if false = true then !false else false) = false from rfl]
    walk_at "sq go"
    refine ⟨.inl ⟨x2, d2, p2, t2, mc, bu :: us2, ws, u, bu, us1, us2, rfl, L2, rfl, rfl, _, rfl, ?_⟩⟩
    rw [EB1, show (if true = true then !false else false) = !false from rfl]
    walk_at "sq go"
    exact fin _ _ _ _ _ _ (Sep3.mono hs23 (by omega)) O2.s

local macro_rules | `(tactic| walk_at "sq side") => `(tactic| first
  | ((with_reducible show LivO _ _ _ _ _ _ _ _ _); assumption)
  | ((with_reducible show Oth _ _ _ _); assumption)
  | ((with_reducible show atI _ _ = some _); assumption))
theorem iv_ref {xs : List Int} {a : Addr} {r : List V} : iv xs ≠ V.ref a :: r := fun h => by
  cases xs <;> cases h
theorem trn21 {C : Addr} (B : Bt mg) (oC : OwnE K C) (c_law_draw : Cal P w K mg base 1 "_law_draw" spDraw3 []) (c_law_replaced : CalW P w K mg base 1 "_law_replaced" rcS (spRepl1 K) rz0) (c_law_object : Cal P w K mg base 6 "_law_object" (spObj C) []) (c_eq : Met P w K mg base 1 C "__eq__" (spEqO K C)) : ∃ t, KB21 P w K mg base bdT t ∧
    ∀ (D : Ends) (G GX JX : Hp) (r q x1 d1 : Addr) (c : Nat) (NX : Int) (u : List Nat) (ns : List Int) (x5 x6 x7 x8 x9 x10 x11 x12 : Option V), Sep (rg3 r NX) GX JX → Ob G C x1 d1 c u ns GX → GX q = some (.lst (iv ns)) → u.length ≤ 200 → Asc u → 32 ≤ c ∧ c < 126 → NX < 2 ^ 57 → (∀ k ∈ ns, (2 : Int) ≤ k ∧ k ≤ 1000000) → ns.length ≤ 6 →
      (∀ GT JT y6 y7 y8 y9 y10 y11 y12, Sep (rg3 r (NX + 6)) GT JT → Same GX GT → D.nx (stB r u c q x1 x5 y6 y7 y8 y9 y10 y11 y12) JT) →
      t D (stB r u c q x1 x5 x6 x7 x8 x9 x10 x11 x12) JX := by
  obtain ⟨t2, k2, q2⟩ := snd21 (K := K) B oC c_law_draw c_law_replaced c_law_object c_eq
  refine ⟨_, fun f cdv A outer s H E Bq ob ch T hr S => by
      have hF : FOk (pinX (cxOf CX0 P w K mg base ["pool", "written", "sign", "numbers", "one", "turn", "at", "others", "way", "begun", "mark", "two", "due"] "_law_right" (defScope s_law_right) f cdv A outer s H E).nox Bq ob) (GF (pinX (cxOf CX0 P w K mg base ["pool", "written", "sign", "numbers", "one", "turn", "at", "others", "way", "begun", "mark", "two", "due"] "_law_right" (defScope s_law_right) f cdv A outer s H E).nox Bq ob).env.locals "sign" ch T) := gf_ok
      exact kss_cons (ks_set (i := 6) (gf_st (by decide)) sc_law_right.nd rfl rfl (ke_c hF c_law_draw hr (by first | decide | omega) (by rfl) (ka_cons (kv 0) (ka_cons (ke_op (FOp.of hF S op_add (fun _ _ => op_add)) (ke_callB (FCall.of hF S (len_seqK (K := K)) (fun _ _ => (len_seqK (K := K)))) (by rfl) B.len boot_len (ka_cons (kv 3) ka_nil)) (ke_int hF)) ka_nil)))) (kss_cons (ks_set (i := 7) (gf_st (by decide)) sc_law_right.nd rfl rfl (ke_lst hF (ka_cons (kv 3) (ka_cons (kv 3) (ka_cons (ke_op (FOp.of hF S op_cat (fun _ _ => op_cat)) (kv 3) (ke_lst hF (ka_cons (ke_int hF) ka_nil))) (ka_cons (ke_slice hF (FSl.of hF S (sl_listK (K := K)) (fun _ _ => (sl_listK (K := K)))) (kv 3) ko_none (ko_some (kv 6))) (ka_cons (ke_op (FOp.of hF S op_cat (fun _ _ => op_cat)) (kv 3) (ke_lst hF (ka_cons (ke_op (FOp.of hF S op_powW (fun _ _ => op_powW)) (ke_int hF) (ke_int hF)) ka_nil))) ka_nil))))))) (kss_cons (ks_expr (ke_bm PySem.F.plainAttrs_list PySem.F.slot_list_append PySem.F.type_list_append (FMt.of hF S mt_append (fun _ _ => mt_append)) (kv 7) (ka_cons (ke_op (FOp.of hF S op_cat (fun _ _ => op_cat)) (ke_op (FOp.of hF S op_cat (fun _ _ => op_cat)) (ke_slice hF (FSl.of hF S (sl_listK (K := K)) (fun _ _ => (sl_listK (K := K)))) (kv 3) ko_none (ko_some (kv 6))) (ke_lst hF (ka_cons (ke_int hF) ka_nil))) (ke_slice hF (FSl.of hF S (sl_listK (K := K)) (fun _ _ => (sl_listK (K := K)))) (kv 3) (ko_some (ke_op (FOp.of hF S op_add (fun _ _ => op_add)) (kv 6) (ke_int hF))) ko_none)) ka_nil))) (kss_cons (ks_set (i := 8) (gf_st (by decide)) sc_law_right.nd rfl rfl (ke_ix (FIx.of hF S (ix_listK (K := K)) (fun _ _ => (ix_listK (K := K)))) (kv 7) (ke_c hF c_law_draw hr (by first | decide | omega) (by rfl) (ka_cons (kv 0) (ka_cons (ke_int hF) ka_nil))) (fun _ _ => rfl))) (k2 f cdv A outer s H E Bq ob ch T hr S)))), ?_⟩
  intro D G GX JX r q x1 d1 c NX u ns x5 x6 x7 x8 x9 x10 x11 x12 hs O hq lu au hc hNX row ln fin
  have el : (iv ns).length = ns.length := iv_len _
  have hq0 := hs.get hq
  walk_at "sq go"
  rw [el]
  refine ⟨⟨by omega, by omega, by omega⟩, fun at' J1 at0 at1 hs1 => ?_⟩
  obtain ⟨ai, rfl⟩ := Int.eq_ofNat_of_zero_le at0
  have s0 : Same GX GX := .refl GX
  have f_q := hq
  have lt : (ns.take ai).length ≤ 6 := by rw [List.length_take]; omega
  have ld : (ns.drop (ai + 1)).length ≤ 6 := by rw [List.length_drop]; omega
  have lt' : (iv (ns.take ai)).length ≤ 6 := by rw [iv_len]; exact lt
  have ld' : (iv (ns.drop (ai + 1))).length ≤ 6 := by rw [iv_len]; exact ld
  have lt3 : (iv (ns.take ai ++ [3])).length ≤ 7 := by rw [iv_len, List.length_append, List.length_singleton]; omega
  have j0_q := hs1.get f_q
  walk_at "sq go"
  intro e1 n_e1
  have g_e1 := hs1.free n_e1
  obtain ⟨G2, hs2, z_e1, f_e1⟩ : ∃ G', Sep (rg3 r _) G' (upd J1 e1 (.lst [.int 2])) ∧ Same GX G' ∧ G' e1 = some (.lst [.int 2]) := ⟨_, hs1.new n_e1 _, same_new g_e1, upd_same⟩
  have f_q := z_e1 _ _ f_q
  have s0 := s0.trans z_e1
  clear hs1 n_e1 g_e1 z_e1 j0_q
  generalize upd J1 e1 (.lst [.int 2]) = J2 at *
  have j1_q := hs2.get f_q
  have j1_e1 := hs2.get f_e1
  walk_at "sq go"
  rw [show iv ns ++ [V.int 2] = iv (ns ++ [2]) from iv_app ..]
  intro l1 n_l1
  have g_l1 := hs2.free n_l1
  obtain ⟨G3, hs3, z_l1, f_l1⟩ : ∃ G', Sep (rg3 r _) G' (upd J2 l1 (.lst (iv (ns ++ [2])))) ∧ Same G2 G' ∧ G' l1 = some (.lst (iv (ns ++ [2]))) := ⟨_, hs2.new n_l1 _, same_new g_l1, upd_same⟩
  have f_q := z_l1 _ _ f_q
  have f_e1 := z_l1 _ _ f_e1
  have s0 := s0.trans z_l1
  clear hs2 n_l1 g_l1 z_l1 j1_q j1_e1
  generalize upd J2 l1 (.lst (iv (ns ++ [2]))) = J3 at *
  have j2_q := hs3.get f_q
  walk_at "sq go"
  rw [show cutV (iv ns) none (some ((ai : Nat) : Int)) = iv (ns.take ai) by rw [cut_to, iv_take]]
  intro l2 n_l2
  have g_l2 := hs3.free n_l2
  obtain ⟨G4, hs4, z_l2, f_l2⟩ : ∃ G', Sep (rg3 r _) G' (upd J3 l2 (.lst (iv (ns.take ai)))) ∧ Same G3 G' ∧ G' l2 = some (.lst (iv (ns.take ai))) := ⟨_, hs3.new n_l2 _, same_new g_l2, upd_same⟩
  have f_q := z_l2 _ _ f_q
  have f_e1 := z_l2 _ _ f_e1
  have f_l1 := z_l2 _ _ f_l1
  have s0 := s0.trans z_l2
  clear hs3 n_l2 g_l2 z_l2 j2_q
  generalize upd J3 l2 (.lst (iv (ns.take ai))) = J4 at *
  have j3_q := hs4.get f_q
  walk_at "sq go"
  intro e2 n_e2
  have g_e2 := hs4.free n_e2
  obtain ⟨G5, hs5, z_e2, f_e2⟩ : ∃ G', Sep (rg3 r _) G' (upd J4 e2 (.lst [.int (10 ^ (6 : Int).toNat)])) ∧ Same G4 G' ∧ G' e2 = some (.lst [.int (10 ^ (6 : Int).toNat)]) := ⟨_, hs4.new n_e2 _, same_new g_e2, upd_same⟩
  have f_q := z_e2 _ _ f_q
  have f_e1 := z_e2 _ _ f_e1
  have f_l1 := z_e2 _ _ f_l1
  have f_l2 := z_e2 _ _ f_l2
  have s0 := s0.trans z_e2
  clear hs4 n_e2 g_e2 z_e2 j3_q
  generalize upd J4 e2 (.lst [.int (10 ^ (6 : Int).toNat)]) = J5 at *
  have j4_q := hs5.get f_q
  have j4_e2 := hs5.get f_e2
  walk_at "sq go"
  rw [show iv ns ++ [V.int (10 ^ (6 : Int).toNat)] = iv (ns ++ [10 ^ (6 : Int).toNat]) from iv_app ..]
  intro l3 n_l3
  have g_l3 := hs5.free n_l3
  obtain ⟨G6, hs6, z_l3, f_l3⟩ : ∃ G', Sep (rg3 r _) G' (upd J5 l3 (.lst (iv (ns ++ [10 ^ (6 : Int).toNat])))) ∧ Same G5 G' ∧ G' l3 = some (.lst (iv (ns ++ [10 ^ (6 : Int).toNat]))) := ⟨_, hs5.new n_l3 _, same_new g_l3, upd_same⟩
  have f_q := z_l3 _ _ f_q
  have f_e1 := z_l3 _ _ f_e1
  have f_l1 := z_l3 _ _ f_l1
  have f_l2 := z_l3 _ _ f_l2
  have f_e2 := z_l3 _ _ f_e2
  have s0 := s0.trans z_l3
  clear hs5 n_l3 g_l3 z_l3 j4_q j4_e2
  generalize upd J5 l3 (.lst (iv (ns ++ [10 ^ (6 : Int).toNat]))) = J6 at *
  walk_at "sq go"
  intro lo n_lo
  have g_lo := hs6.free n_lo
  have w_lo := s0.free g_lo
  obtain ⟨G7, hs7, z_lo, f_lo⟩ : ∃ G', Sep (rg3 r _) G' (upd J6 lo (.lst [.ref q, .ref q, .ref l1, .ref l2, .ref l3])) ∧ Same G6 G' ∧ G' lo = some (.lst [.ref q, .ref q, .ref l1, .ref l2, .ref l3]) := ⟨_, hs6.new n_lo _, same_new g_lo, upd_same⟩
  have f_q := z_lo _ _ f_q
  have f_e1 := z_lo _ _ f_e1
  have f_l1 := z_lo _ _ f_l1
  have f_l2 := z_lo _ _ f_l2
  have f_e2 := z_lo _ _ f_e2
  have f_l3 := z_lo _ _ f_l3
  have s0 := s0.trans z_lo
  clear hs6 n_lo g_lo z_lo 
  generalize upd J6 lo (.lst [.ref q, .ref q, .ref l1, .ref l2, .ref l3]) = J7 at *
  have j6_q := hs7.get f_q
  have j6_lo := hs7.get f_lo
  walk_at "sq go"
  rw [show cutV (iv ns) none (some ((ai : Nat) : Int)) = iv (ns.take ai) by rw [cut_to, iv_take]]
  intro l4 n_l4
  have g_l4 := hs7.free n_l4
  obtain ⟨G8, hs8, z_l4, f_l4⟩ : ∃ G', Sep (rg3 r _) G' (upd J7 l4 (.lst (iv (ns.take ai)))) ∧ Same G7 G' ∧ G' l4 = some (.lst (iv (ns.take ai))) := ⟨_, hs7.new n_l4 _, same_new g_l4, upd_same⟩
  have f_q := z_l4 _ _ f_q
  have f_e1 := z_l4 _ _ f_e1
  have f_l1 := z_l4 _ _ f_l1
  have f_l2 := z_l4 _ _ f_l2
  have f_e2 := z_l4 _ _ f_e2
  have f_l3 := z_l4 _ _ f_l3
  have f_lo := z_l4 _ _ f_lo
  have s0 := s0.trans z_l4
  clear hs7 n_l4 g_l4 z_l4 j6_q j6_lo
  generalize upd J7 l4 (.lst (iv (ns.take ai))) = J8 at *
  have j7_q := hs8.get f_q
  have j7_lo := hs8.get f_lo
  walk_at "sq go"
  intro e3 n_e3
  have g_e3 := hs8.free n_e3
  obtain ⟨G9, hs9, z_e3, f_e3⟩ : ∃ G', Sep (rg3 r _) G' (upd J8 e3 (.lst [.int 3])) ∧ Same G8 G' ∧ G' e3 = some (.lst [.int 3]) := ⟨_, hs8.new n_e3 _, same_new g_e3, upd_same⟩
  have f_q := z_e3 _ _ f_q
  have f_e1 := z_e3 _ _ f_e1
  have f_l1 := z_e3 _ _ f_l1
  have f_l2 := z_e3 _ _ f_l2
  have f_e2 := z_e3 _ _ f_e2
  have f_l3 := z_e3 _ _ f_l3
  have f_lo := z_e3 _ _ f_lo
  have f_l4 := z_e3 _ _ f_l4
  have s0 := s0.trans z_e3
  clear hs8 n_e3 g_e3 z_e3 j7_q j7_lo
  generalize upd J8 e3 (.lst [.int 3]) = J9 at *
  have j8_q := hs9.get f_q
  have j8_l4 := hs9.get f_l4
  have j8_e3 := hs9.get f_e3
  walk_at "sq go"
  rw [show iv (ns.take ai) ++ [V.int 3] = iv (ns.take ai ++ [3]) from iv_app ..]
  intro l5 n_l5
  have g_l5 := hs9.free n_l5
  obtain ⟨G10, hs10, z_l5, f_l5⟩ : ∃ G', Sep (rg3 r _) G' (upd J9 l5 (.lst (iv (ns.take ai ++ [3])))) ∧ Same G9 G' ∧ G' l5 = some (.lst (iv (ns.take ai ++ [3]))) := ⟨_, hs9.new n_l5 _, same_new g_l5, upd_same⟩
  have f_q := z_l5 _ _ f_q
  have f_e1 := z_l5 _ _ f_e1
  have f_l1 := z_l5 _ _ f_l1
  have f_l2 := z_l5 _ _ f_l2
  have f_e2 := z_l5 _ _ f_e2
  have f_l3 := z_l5 _ _ f_l3
  have f_lo := z_l5 _ _ f_lo
  have f_l4 := z_l5 _ _ f_l4
  have f_e3 := z_l5 _ _ f_e3
  have s0 := s0.trans z_l5
  clear hs9 n_l5 g_l5 z_l5 j8_q j8_l4 j8_e3
  generalize upd J9 l5 (.lst (iv (ns.take ai ++ [3]))) = J10 at *
  have j9_q := hs10.get f_q
  walk_at "sq go"
  rw [show cutV (iv ns) (some (((ai : Nat) : Int) + 1)) none = iv (ns.drop (ai + 1)) from (cut_from (iv ns) (ai + 1)).trans (iv_drop ..)]
  intro l6 n_l6
  have g_l6 := hs10.free n_l6
  obtain ⟨G11, hs11, z_l6, f_l6⟩ : ∃ G', Sep (rg3 r _) G' (upd J10 l6 (.lst (iv (ns.drop (ai + 1))))) ∧ Same G10 G' ∧ G' l6 = some (.lst (iv (ns.drop (ai + 1)))) := ⟨_, hs10.new n_l6 _, same_new g_l6, upd_same⟩
  have f_q := z_l6 _ _ f_q
  have f_e1 := z_l6 _ _ f_e1
  have f_l1 := z_l6 _ _ f_l1
  have f_l2 := z_l6 _ _ f_l2
  have f_e2 := z_l6 _ _ f_e2
  have f_l3 := z_l6 _ _ f_l3
  have f_lo := z_l6 _ _ f_lo
  have f_l4 := z_l6 _ _ f_l4
  have f_e3 := z_l6 _ _ f_e3
  have f_l5 := z_l6 _ _ f_l5
  have s0 := s0.trans z_l6
  clear hs10 n_l6 g_l6 z_l6 j9_q
  generalize upd J10 l6 (.lst (iv (ns.drop (ai + 1)))) = J11 at *
  have j10_l5 := hs11.get f_l5
  have j10_l6 := hs11.get f_l6
  walk_at "sq go"
  rw [show iv (ns.take ai ++ [3]) ++ iv (ns.drop (ai + 1)) = iv (ns.take ai ++ [3] ++ ns.drop (ai + 1)) by unfold iv; simp]
  intro l7 n_l7
  have g_l7 := hs11.free n_l7
  obtain ⟨G12, hs12, z_l7, f_l7⟩ : ∃ G', Sep (rg3 r _) G' (upd J11 l7 (.lst (iv (ns.take ai ++ [3] ++ ns.drop (ai + 1))))) ∧ Same G11 G' ∧ G' l7 = some (.lst (iv (ns.take ai ++ [3] ++ ns.drop (ai + 1)))) := ⟨_, hs11.new n_l7 _, same_new g_l7, upd_same⟩
  have f_q := z_l7 _ _ f_q
  have f_e1 := z_l7 _ _ f_e1
  have f_l1 := z_l7 _ _ f_l1
  have f_l2 := z_l7 _ _ f_l2
  have f_e2 := z_l7 _ _ f_e2
  have f_l3 := z_l7 _ _ f_l3
  have f_lo := z_l7 _ _ f_lo
  have f_l4 := z_l7 _ _ f_l4
  have f_e3 := z_l7 _ _ f_e3
  have f_l5 := z_l7 _ _ f_l5
  have f_l6 := z_l7 _ _ f_l6
  have s0 := s0.trans z_l7
  clear hs11 n_l7 g_l7 z_l7 j10_l5 j10_l6
  generalize upd J11 l7 (.lst (iv (ns.take ai ++ [3] ++ ns.drop (ai + 1)))) = J12 at *
  have j_lo := hs12.get f_lo
  have hs13 := hs12.put f_lo (.lst ([.ref q, .ref q, .ref l1, .ref l2, .ref l3] ++ [.ref l7]))
  have mv : ∀ {y : Addr} {ys : List Int}, G12 y = some (.lst (iv ys)) → upd G12 lo (.lst ([.ref q, .ref q, .ref l1, .ref l2, .ref l3] ++ [.ref l7])) y = some (.lst (iv ys)) := fun e => upd_off (ne_obj e f_lo (fun z => iv_ref (by injection z))) e
  have s13 : Same GX (upd G12 lo (.lst ([.ref q, .ref q, .ref l1, .ref l2, .ref l3] ++ [.ref l7]))) := fun y v e => by
    rw [upd_ne (fun z => by rw [z] at e; rw [w_lo] at e; cases e)]
    exact s0 y v e
  have h_q := mv f_q
  have h_l1 := mv f_l1
  have h_l2 := mv f_l2
  have h_l3 := mv f_l3
  have h_l7 := mv f_l7
  have h_lo : upd G12 lo (.lst ([.ref q, .ref q, .ref l1, .ref l2, .ref l3] ++ [.ref l7])) lo = some (.lst ([.ref q, .ref q, .ref l1, .ref l2, .ref l3] ++ [.ref l7])) := upd_same
  walk_at "sq go"
  refine ⟨⟨by decide, by decide, by omega⟩, fun wd J13 wd0 wd1 hs14 => ?_⟩
  clear hs12 hs13 f_q f_l1 f_l2 f_l3 f_l4 f_l5 f_l6 f_l7 f_lo f_e1 f_e2 f_e3 mv s0 w_lo
  generalize upd G12 lo (.lst ([.ref q, .ref q, .ref l1, .ref l2, .ref l3] ++ [.ref l7])) = G13 at *
  have rt : ∀ k ∈ ns.take ai, (2 : Int) ≤ k ∧ k ≤ 1000000 := fun k hk => row k (List.mem_of_mem_take hk)
  have rd : ∀ k ∈ ns.drop (ai + 1), (2 : Int) ≤ k ∧ k ≤ 1000000 := fun k hk => row k (List.mem_of_mem_drop hk)
  have ra : ∀ {xs ys : List Int}, (∀ k ∈ xs, (2 : Int) ≤ k ∧ k ≤ 1000000) → (∀ k ∈ ys, (2 : Int) ≤ k ∧ k ≤ 1000000) → ∀ k ∈ xs ++ ys, (2 : Int) ≤ k ∧ k ≤ 1000000 := fun a b k hk => by
    rcases List.mem_append.mp hk with z | z
    · exact a k z
    · exact b k z
  have r1 : ∀ v : Int, 2 ≤ v → v ≤ 1000000 → ∀ k ∈ [v], (2 : Int) ≤ k ∧ k ≤ 1000000 := fun v a b k hk => by rw [List.mem_singleton.mp hk]; exact ⟨a, b⟩
  obtain ⟨wq, ws, ew, gw, rws, lws⟩ : ∃ (wq : Addr) (ws : List Int), atI ([V.ref q, .ref q, .ref l1, .ref l2, .ref l3] ++ [.ref l7]) wd = some (.ref wq) ∧ G13 wq = some (.lst (iv ws)) ∧ (∀ k ∈ ws, (2 : Int) ≤ k ∧ k ≤ 1000000) ∧ ws.length ≤ 8 := by
    rcases (show wd = 0 ∨ wd = 1 ∨ wd = 2 ∨ wd = 3 ∨ wd = 4 ∨ wd = 5 by omega) with z | z | z | z | z | z <;> rw [z]
    · exact ⟨q, ns, atI_nat (j := 0) rfl, h_q, row, by omega⟩
    · exact ⟨q, ns, atI_nat (j := 1) rfl, h_q, row, by omega⟩
    · exact ⟨l1, _, atI_nat (j := 2) rfl, h_l1, ra row (r1 2 (by decide) (by decide)), by rw [List.length_append, List.length_singleton]; omega⟩
    · exact ⟨l2, _, atI_nat (j := 3) rfl, h_l2, rt, by omega⟩
    · exact ⟨l3, _, atI_nat (j := 4) rfl, h_l3, ra row (r1 _ (by decide) (by decide)), by rw [List.length_append, List.length_singleton]; omega⟩
    · exact ⟨l7, _, atI_nat (j := 5) rfl, h_l7, ra (ra rt (r1 3 (by decide) (by decide))) rd, by rw [List.length_append, List.length_append, List.length_singleton, List.length_take, List.length_drop]; omega⟩
  have j_lo := hs14.get h_lo
  clear rt rd ra r1 lt ld lt' ld' lt3 h_l1 h_l2 h_l3 h_l7
  have O13 := O.on s13
  walk_at "sq go"
  exact q2 D G G13 J13 r q x1 d1 c _ u ns x5 _ _ x9 x10 x11 x12 wq ws gw rws lws hs14 O13 h_q lu au hc (by omega) row ln fun GT JT y9 y10 y11 y12 hT sT => fin GT JT _ _ _ _ _ _ _ (Sep3.mono hT (by omega)) (s13.trans sT)

/-! ### nothing else is equal to an object -/
local macro_rules | `(tactic| walk_at "sq side") => `(tactic| first
  | ((with_reducible show LivO _ _ _ _ _ _ _ _ _); assumption)
  | ((with_reducible show atI _ _ = some _); assumption))
def ClV (z : V) (H : Hp) : Prop := z = .non ∨ (∃ s, z = .str s) ∨ (∃ i, z = .int i) ∨ (∃ a xs, z = .ref a ∧ H a = some (.lst xs)) ∨ ∃ a xs, z = .ref a ∧ H a = some (.tup xs)
theorem clv_same {z : V} {H H' : Hp} (h : ClV z H) (s : Same H H') : ClV z H' := by
  rcases h with e | e | e | ⟨a, xs, e, g⟩ | ⟨a, xs, e, g⟩
  · exact .inl e
  · exact .inr (.inl e)
  · exact .inr (.inr (.inl e))
  · exact .inr (.inr (.inr (.inl ⟨a, xs, e, s _ _ g⟩)))
  · exact .inr (.inr (.inr (.inr ⟨a, xs, e, s _ _ g⟩)))
theorem clv_itm {C : Addr} {z : V} {H : Hp} (oc : OwnC K C) (h : ClV z H) : Itm K C z H := by
  rcases h with rfl | ⟨s, rfl⟩ | ⟨i, rfl⟩ | ⟨a, xs, rfl, g⟩ | ⟨a, xs, rfl, g⟩
  · exact .inl ⟨_, rfl, oc.sn⟩
  · exact .inl ⟨_, rfl, oc.ss⟩
  · exact .inl ⟨_, rfl, oc.si⟩
  · exact .inr (.inl ⟨a, xs, rfl, g, oc.sl⟩)
  · exact .inr (.inr ⟨a, xs, rfl, g, oc.st⟩)
theorem clv_not {C : Addr} {z : V} {H : Hp} (oc : OwnC K C) (h : ClV z H) : NotC K C z H := by
  rcases h with rfl | ⟨s, rfl⟩ | ⟨i, rfl⟩ | ⟨a, xs, rfl, g⟩ | ⟨a, xs, rfl, g⟩
  · exact ⟨_, .base .non, oc.kn⟩
  · exact ⟨_, .base (.str _), oc.ks⟩
  · exact ⟨_, .base (.int _), oc.ki⟩
  · exact ⟨_, .base (.lst g), oc.kl⟩
  · exact ⟨_, .base (.tup g), oc.kt⟩
def spRight : Sp := fun vs H Q _ => ∃ (r : Addr) (N : Int) (G : Hp), vs = [.ref r] ∧ Sep (rg3 r N) G H ∧ Keep (N < 2 ^ 56) ∧ ∀ H', Sep (rg3 r (N + 10000)) G H' → Q (.bl true) H'
theorem calW_right {C : Addr} (D : DefAt K mg "_law_right" s_law_right ["pool"]) (B : Bt mg) (oc : OwnC K C) (c_law_draw : Cal P w K mg base 1 "_law_draw" spDraw3 []) (cw_law_text : CalW P w K mg base 2 "_law_text" rc0 spText3 rzT) (c_law_list : Cal P w K mg base 2 "_law_list" spList3 [])
    (c_law_replaced : CalW P w K mg base 1 "_law_replaced" rcS (spRepl1 K) rz0) (c_law_object : Cal P w K mg base 6 "_law_object" (spObj C) []) (c_eq : Met P w K mg base 1 C "__eq__" (spEqO K C)) (c_text : Prp P w K mg base 1 C "text" (spText C)) (c_longest : Prp P w K mg base 2 C "longest" (spLong C)) : CalW P w K mg base 8 "_law_right" rc0 spRight rz0 := by
  have oC := oc.o
  have c_law_text := cw_law_text.cal fun _ _ => trivial
  obtain ⟨tT, kT, qT⟩ := trn21 (K := K) B oC c_law_draw c_law_replaced c_law_object c_eq
  refine D.calW sc_law_right (fun vs H Q E h => ?_) (fun f cdv A outer s H us vs Q E hr rv raw h => ?_)
  · obtain ⟨r, N, G, rfl, _⟩ := h
    rfl
  · obtain ⟨r, N, G, rfl, hS, ⟨hN⟩, q⟩ := h
    refine ⟨_, _, bw_zs (x := "sign") (zs_unp (iw := 1) (i := 2) (ifr := 3) cw_law_text hr (by decide) (by rfl) (pa_cons (pv 0) (pa_cons pe_int pa_nil)) (fun _ _ => (pe_c c_law_list hr (by first | decide | omega) (by rfl) (pa_cons (pv 0) (pa_cons pe_int (pa_cons pe_int pa_nil))))) rfl sc_law_right.nd rfl rfl rfl rfl rfl rfl (by decide)) (fun Bq ob c T S => by
      have hF : FOk (pinX (cxOf CX0 P w K mg base ["pool", "written", "sign", "numbers", "one", "turn", "at", "others", "way", "begun", "mark", "two", "due"] "_law_right" (defScope s_law_right) f cdv A outer s H E).nox Bq ob) (GF (pinX (cxOf CX0 P w K mg base ["pool", "written", "sign", "numbers", "one", "turn", "at", "others", "way", "begun", "mark", "two", "due"] "_law_right" (defScope s_law_right) f cdv A outer s H E).nox Bq ob).env.locals "sign" c T) := gf_ok
      exact kp_cons (ks_set (i := 4) (gf_st (by decide)) sc_law_right.nd rfl rfl (ke_c hF c_law_object hr (by first | decide | omega) (by rfl) (ka_cons (kv 0) (ka_cons (kv 1) (ka_cons (kv 2) (ka_cons (kv 3) ka_nil)))))) (kp_cons (ks_for PassesOwn.never (ki_range1 hF rfl (by rfl) B.range (ka_cons (ke_int hF) ka_nil)) (kg_name (i := 5) (gf_st (by decide)) sc_law_right.nd rfl rfl)
    (kT f cdv A outer s H E Bq ob c T hr S)) (kp_end (pss_one (ps_ret (pe_cmpR (op_ownNotInK (K := K) (k := 1) (j := 7) c_eq hr (by decide)) (pv 4) (pe_lst (pa_cons pe_non (pa_cons (pv 1) (pa_cons (pv 3) (pa_cons (pe_tup (pa_cons (pv 1) (pa_cons (pv 2) pa_nil))) (pa_cons (pe_lst (pa_cons (pv 1) (pa_cons (pv 3) pa_nil))) (pa_cons (pe_p c_text hr (by first | decide | omega) (pv 4)) (pa_cons (pe_p c_longest hr (by first | decide | omega) (pv 4)) (pa_cons pe_int (pa_cons pe_str pa_nil)))))))))) (by rfl))))))), fun _ _ => trivial, ?_⟩
    walk_at "sq go"
    refine ⟨⟨by decide, by decide, by omega⟩, fun l o u c H1 gl ul au hc hS1 => ?_⟩
    walk_at "sq go"
    refine ⟨⟨by decide, by decide, by decide, by decide, by omega⟩, fun q1 ns H2 gq1 lns row hS2 => ?_⟩
    have hl2 : H2 l = some (.frz o (.lst [.str (SX.S u), .str (SX.S [c])])) := hS2.get (upd_keep gq1 upd_same)
    have row6 : ∀ k ∈ ns, (2 : Int) ≤ k ∧ k ≤ 1000000 := fun k hk => ⟨(row k hk).1, by have := (row k hk).2; omega⟩
    walk_at "sq go"
    intro qt nqt
    have sG : Same G (upd (upd G l (.frz o (.lst [.str (SX.S u), .str (SX.S [c])]))) q1 (.lst (iv ns))) := (same_new gl).trans (same_new gq1)
    have hq : upd (upd G l (.frz o (.lst [.str (SX.S u), .str (SX.S [c])]))) q1 (.lst (iv ns)) q1 = some (.lst (iv ns)) := upd_same
    have hS3 := hS2.on (same_new (o := .tup [.ref l, .ref q1]) nqt)
    clear hS1 hS2 hl2 gl gq1
    generalize upd (upd G l (.frz o (.lst [.str (SX.S u), .str (SX.S [c])]))) q1 (.lst (iv ns)) = GB at *
    generalize upd H2 qt (.tup [.ref l, .ref q1]) = H3 at *
    walk_at "sq go"
    have lu : u.length ≤ 200 := ul
    have l6 : ns.length ≤ 6 := lns
    refine ⟨⟨by omega, fun y hy => by have := au y hy; omega, by omega, row6, by omega, by omega⟩, fun x1 d1 GO HO hS4 O => ?_⟩
    have hqO := O.s _ _ hq
    clear hS3
    walk_at "sq go"
    refine for_range (lo := 0) (n := 6) (fun i σ H' => Keep (∃ G' x5 x6 x7 x8 x9 x10 x11 x12, σ = stB r u c q1 x1 x5 x6 x7 x8 x9 x10 x11 x12 ∧ Sep (rg3 r (N + 300 + 6 * i)) G' H' ∧ Same GO G')) ⟨_, _, _, _, _, _, _, _, _, rfl, Sep3.mono hS4 (by omega), .refl _⟩ (fun i σ H' hi h => ?_) (fun σ H' h => ?_)
    · obtain ⟨G', x5, x6, x7, x8, x9, x10, x11, x12, rfl, hs, sO⟩ := h.o
      walk_at "sq go"
      exact qT _ GB G' H' r q1 x1 d1 c (N + 300 + 6 * i) u ns _ x6 x7 x8 x9 x10 x11 x12 hs (O.on sO) (sO _ _ hqO) lu au hc (by omega) row6 l6 fun GT JT y6 y7 y8 y9 y10 y11 y12 hT sT => ⟨GT, _, y6, y7, y8, y9, y10, y11, y12, rfl, Sep3.mono hT (by push_cast; omega), sO.trans sT⟩
    · obtain ⟨G', x5, x6, x7, x8, x9, x10, x11, x12, rfl, hs, sO⟩ := h.o
      have O1 := O.on sO
      obtain ⟨p1, t1, us1, hL1, zz1⟩ := O1.ex
      have L1 := hL1.same hs.same
      have A1 := L1.at
      obtain ⟨uT, eT, lT, cT⟩ := zz1.last
      have jq := hs.get (sO _ _ hqO)
      walk_at "sq go"
      intro tp ntp
      have s1 := same_new (o := .tup [.str (SX.S u), .str (SX.S [c])]) ntp
      have ft : upd H' tp (.tup [.str (SX.S u), .str (SX.S [c])]) tp = some (.tup [.str (SX.S u), .str (SX.S [c])]) := upd_same
      generalize upd H' tp (.tup [.str (SX.S u), .str (SX.S [c])]) = I1 at *
      walk_at "sq go"
      intro lp nlp
      have s2 := same_new (o := .lst [.str (SX.S u), .ref q1]) nlp
      have fl : upd I1 lp (.lst [.str (SX.S u), .ref q1]) lp = some (.lst [.str (SX.S u), .ref q1]) := upd_same
      have ft2 := s2 _ _ ft
      generalize upd I1 lp (.lst [.str (SX.S u), .ref q1]) = I2 at *
      have s12 := s1.trans s2
      have L2 := L1.same s12
      have A2 := L2.at
      walk_at "sq go"
      refine ⟨⟨eT, ?_⟩⟩
      walk_at "sq go"
      refine ⟨⟨eT, by omega, fun m I3 mm ml s3 => ?_⟩⟩
      have s13 := s12.trans s3
      have L3 := L1.same s13
      have fq3 := s13 _ _ jq
      have ft3 := s3 _ _ ft2
      have fl3 := s3 _ _ fl
      walk_at "sq go"
      intro ll nll
      have s4 := same_new (o := .lst [.non, .str (SX.S u), .ref q1, .ref tp, .ref lp, .str (SX.S uT), .int m, .int 0, .str (Str.ofString "")]) nll
      have f4 : upd I3 ll (.lst [.non, .str (SX.S u), .ref q1, .ref tp, .ref lp, .str (SX.S uT), .int m, .int 0, .str (Str.ofString "")]) ll = some (.lst [.non, .str (SX.S u), .ref q1, .ref tp, .ref lp, .str (SX.S uT), .int m, .int 0, .str (Str.ofString "")]) := upd_same
      have fq4 := s4 _ _ fq3
      have ft4 := s4 _ _ ft3
      have fl4 := s4 _ _ fl3
      have L4 := L3.same s4
      have A4 := L4.at
      have s14 := s13.trans s4
      generalize upd I3 ll (.lst [.non, .str (SX.S u), .ref q1, .ref tp, .ref lp, .str (SX.S uT), .int m, .int 0, .str (Str.ofString "")]) = I4 at *
      have cl : ∀ z ∈ [V.non, .str (SX.S u), .ref q1, .ref tp, .ref lp, .str (SX.S uT), .int m, .int 0, .str (Str.ofString "")], ClV z I4 := by
        simp only [List.mem_cons, List.mem_nil_iff, or_false, forall_eq_or_imp, forall_eq]
        exact ⟨.inl rfl, .inr (.inl ⟨_, rfl⟩), .inr (.inr (.inr (.inl ⟨_, _, rfl, fq4⟩))), .inr (.inr (.inr (.inr ⟨_, _, rfl, ft4⟩))), .inr (.inr (.inr (.inl ⟨_, _, rfl, fl4⟩))), .inr (.inl ⟨_, rfl⟩), .inr (.inr (.inl ⟨_, rfl⟩)), .inr (.inr (.inl ⟨_, rfl⟩)), .inr (.inl ⟨_, rfl⟩)⟩
      refine ⟨x1, d1, _, ll, _, rfl, A4, rfl, f4, fun z hz => clv_itm oc (cl z hz), fun z hz I5 s5 => ⟨x1, d1, p1, t1, c, u :: us1, ns, z, rfl, L4.same s5, ⟨.inr ⟨clv_not oc (clv_same (cl z hz) s5), false, rfl, rfl, .refl _⟩⟩⟩, fun I5 s5 => ?_⟩
      exact q _ (Sep3.mono ((hs.on (s14.trans s5)).weak (sG.trans (O.s.trans sO))) (by omega))

abbrev s_law : Stmt := topS 25
theorem sc_law : FnScope ["script", "at", "pool", "turn"] ["script"] (defScope s_law) := ⟨rfl, rfl, rfl, by decide +kernel, rfl, by decide +kernel, by decide +kernel⟩

def spLaw (K : PySem.W.Frag) : Sp := fun vs H Q _ => ∃ (a : Addr) (ns : List Int), vs = [.ref a] ∧ SqL K H a (iv ns) ∧ ns.length ≤ 63 ∧ ∀ H', Q (.bl true) H'
local macro_rules | `(tactic| walk_at "sq side") => `(tactic| first
  | ((with_reducible show Oth _ _ _ _); assumption)
  | ((with_reducible show LivO _ _ _ _ _ _ _ _ _); assumption))
theorem livo_new {C x dx x2 d2 p2 t2 : Addr} {c : Nat} {us : List (List Nat)} {ks : List Int} {H H' : Hp} {v z : HO} (L : LivO C x2 d2 p2 t2 c us ks H) (nx : H x = none) (nd : H dx = none) (b : But x (upd (upd H dx v) x z) H') : LivO C x2 d2 p2 t2 c us ks H' := by
  have k : ∀ {a : Addr} {u : HO}, H a = some u → H' a = some u := fun e => b _ _ (nn nx e).symm (by rw [upd_ne (nn nx e).symm, upd_ne (nn nd e).symm]; exact e)
  exact ⟨k L.o, k L.p, k L.t⟩
theorem ok_law {C : Addr} {f : Addr} {fd : FuncData} (F : Fun K "law" "law" s_law f fd) (B : Bt mg) (oc : OwnC K C) (c_law_pool : Cal P w K mg base 1 "_law_pool" (spPool K) []) (c_law_right : Cal P w K mg base 8 "_law_right" spRight [])
    (c_SqueezedText : Mak P w K mg base 4 "SqueezedText" C (spLInit C)) (c_eq : Met P w K mg base 1 C "__eq__" (spEqO K C)) : FnG P w K mg base CX0 9 f fd ["script"] (spLaw K) := by
  have oC := oc.o
  refine okG F sc_law (fun vs H Q E h => ?_) (fun cdv A outer s H vs Q E hG hr h => ?_)
  · obtain ⟨a, ns, rfl, _⟩ := h
    rfl
  · obtain ⟨p0, ns0, rfl, hP, hl, q⟩ := h
    refine ⟨_, (pss_cons (ps_for PassesOwn.never rfl (pi_range1 (by rfl) B.range (pa_cons (pe_callB (call_max2 rfl) (by rfl) B.max (by decide +kernel) (pa_cons pe_int (pa_cons (pe_callB (call_min2 rfl) (by rfl) B.min (by decide +kernel) (pa_cons pe_int (pa_cons (pe_callB (len_seqK (K := K)) (by rfl) B.len boot_len (pa_cons (pv 0) pa_nil)) pa_nil))) pa_nil))) pa_nil)) (pg_name (i := 1) sc_law.nd rfl (Or.inl rfl))
   (pss_cons (ps_set (i := 2) sc_law.nd rfl (Or.inl rfl) (pe_c c_law_pool hr (by first | decide | omega) (by rfl) (pa_cons (pv 0) (pa_cons (pv 1) pa_nil))))
  (pss_one (ps_for PassesOwn.never rfl (pi_range1 (by rfl) B.range (pa_cons pe_int pa_nil)) (pg_name (i := 3) sc_law.nd rfl (Or.inl rfl))
   (pss_one (ps_if (pt_not (pt_val (pe_c c_law_right hr (by first | decide | omega) (by rfl) (pa_cons (pv 2) pa_nil)))) (pss_one (ps_ret pe_bl)) pss_nil))))))
  (pss_one (ps_ret (pe_and (pe_cmpR (op_ownNeK (K := K) (k := 1) (j := 8) c_eq oC hr (by decide)) (pe_mk c_SqueezedText hr (by first | decide | omega) (by rfl) (pa_cons pe_str (pa_cons pe_str pa_nil))) pe_str (nomark _)) (pe_one (pe_cmpR (op_ownK (K := K) (k := 1) (j := 8) c_eq hr (by decide)) (pe_mk c_SqueezedText hr (by first | decide | omega) (by rfl) (pa_cons pe_str (pa_cons pe_str pa_nil))) (pe_mk c_SqueezedText hr (by first | decide | omega) (by rfl) (pa_cons pe_str (pa_cons pe_str pa_nil))) (nomark _))))))), ?_⟩
    have el : (iv ns0).length = ns0.length := iv_len _
    walk_at "sq go"
    refine for_range (lo := 0) (n := _) (fun i σ H' => Keep (∃ a1 a2 a3, σ = [some (.ref p0), a1, a2, a3] ∧ Same H H' ∧ i ≤ 8)) ⟨_, _, _, rfl, .refl H, by omega⟩ (fun i σ H' hi h => ?_) (fun σ H' h => ?_)
    · obtain ⟨a1, a2, a3, rfl, s1, hi6⟩ := h.o
      have hP1 := s1.seq hP
      walk_at "sq go"
      refine ⟨⟨by omega, by omega⟩, fun r H2 s2 hS => ?_⟩
      walk_at "sq go"
      refine for_range (lo := 0) (n := _) (fun j σ H4 => Keep (∃ a3, σ = [some (.ref p0), some (.int (0 + (i : Int))), some (.ref r), a3] ∧ Sep (rg3 r (10000 * j)) H' H4)) ⟨_, rfl, Sep3.mono hS (by omega)⟩ (fun j σ H4 hj h => ?_) (fun σ H4 h => ?_)
      · obtain ⟨a3, rfl, hs⟩ := h.o
        have hj4 : j < 4 := hj
        walk_at "sq go"
        refine ⟨⟨by omega⟩, fun H5 hs5 => ?_⟩
        walk_at "sq go"
        exact ⟨_, rfl, Sep3.mono hs5 (by omega)⟩
      · obtain ⟨a3, rfl, hs⟩ := h.o
        refine ⟨_, _, _, rfl, s1.trans hs.same, ?_⟩
        (repeat' split at hi) <;> omega
    · obtain ⟨a1, a2, a3, rfl, s1, hi6⟩ := h.o
      have eE : (Str.ofString "") = SX.S [] := by decide +kernel
      have eS : (Str.ofString " ") = SX.S [32] := by decide +kernel
      have eA : (Str.ofString "a") = SX.S [97] := by decide +kernel
      have eB : (Str.ofString "b") = SX.S [98] := by decide +kernel
      walk_at "sq go"
      rw [eE, eS]
      intro x1 dx1 nx ndx ne
      have hx1 : upd (upd H' dx1 (.own x1)) x1 (.ins C dx1 []) x1 = some (.ins C dx1 []) := upd_same
      walk_at "sq go"
      intro p t H2 b2 np nt pt L
      have A1 := L.at
      have oth : Oth K C (.str (SX.S [])) H2 := .inr ⟨_, rfl, oc.nf⟩
      walk_at "sq go"
      refine ⟨.inr ⟨clv_not oc (.inr (.inl ⟨_, rfl⟩)), false, rfl, ?_⟩⟩
      walk_at "sq go"
      rw [eA, eB]
      intro x2 dx2 nx2 ndx2 ne2
      have hx2 : upd (upd H2 dx2 (.own x2)) x2 (.ins C dx2 []) x2 = some (.ins C dx2 []) := upd_same
      walk_at "sq go"
      intro p2 t2 H3 b3 np2 nt2 pt2 M
      walk_at "sq go"
      intro x3 dx3 nx3 ndx3 ne3
      have hx3 : upd (upd H3 dx3 (.own x3)) x3 (.ins C dx3 []) x3 = some (.ins C dx3 []) := upd_same
      walk_at "sq go"
      intro p3 t3 H4 b4 np3 nt3 pt3 M3
      have M2 := livo_new M nx3 ndx3 b4
      have A2 := M2.at
      have A3 := M3.at
      have oth3 : Oth K C (.ref x3) H4 := .inl ⟨x3, dx3, _, rfl, A3⟩
      walk_at "sq go"
      refine ⟨.inl ⟨x3, dx3, p3, t3, 98, [[97]], [], [97], [97], [], [], rfl, M3, rfl, rfl, _, rfl, ?_⟩⟩
      rw [decide_eq_true ⟨rfl, rfl, rfl⟩]
      exact q _
end
end Sq
open PySem PySem.W PyProof.Rows in
set_option maxRecDepth 100000 in
set_option maxHeartbeats 0 in
theorem PySem.Challenge.cw_squeezelists_k21_equal_live_texts_holds : PySem.Challenge.rw_squeezelists_k21_equal_live_texts.Holds := by
  w_on; o_law; k_head; (case hw => w_witness2)
  k_fill
  refine Sq.walk_ofG (l := PySem.Challenge.rw_squeezelists_k21_equal_live_texts) (n := 63) (k := 9) (x := "script") (sp := Sq.spLaw) rfl (by decide) rfl ⟨rfl, by decide, by decide⟩ (fun w h Y => PySem.W.kIn_of Y) ?F (fun K H a ns hl hS => ⟨a, ns, rfl, hS, hl, fun _ => rfl⟩)
  case F =>
    intro w mg fa h KX G hmg
    have B : Sq.Bt mg := by
      refine' ⟨PySem.W.mg_none_of KX G ?z0, PySem.W.mg_none_of KX G ?z1, PySem.W.mg_none_of KX G ?z2, PySem.W.mg_none_of KX G ?z3, PySem.W.mg_none_of KX G ?z4, PySem.W.mg_none_of KX G ?z5, PySem.W.mg_none_of KX G ?z6, PySem.W.mg_none_of KX G ?z7, PySem.W.mg_none_of KX G ?z8, PySem.W.mg_none_of KX G ?z9⟩
      (case z0 => k_is)
      (case z1 => k_is)
      (case z2 => k_is)
      (case z3 => k_is)
      (case z4 => k_is)
      (case z5 => k_is)
      (case z6 => k_is)
      (case z7 => k_is)
      (case z8 => k_is)
      (case z9 => k_is)
    refine' Sq.cutD (Sq.DefAt.mk1 (x := "check_list") (st := Sq.s_check_list) (ps := ["replacements"]) KX G ?a_check_list ?l_check_list ?c_check_list ?k_check_list (fun _ _ _ _ _ _ us hl => match us, hl with | [_], _ => rfl)) ?_
    (case a_check_list => k_is); (case l_check_list => k_is); (case c_check_list => k_is); (case k_check_list => k_is)
    intro D_check_list
    refine' Sq.cutD (Sq.DefAt.mk1 (x := "check_character") (st := Sq.s_check_character) (ps := ["character"]) KX G ?a_check_character ?l_check_character ?c_check_character ?k_check_character (fun _ _ _ _ _ _ us hl => match us, hl with | [_], _ => rfl)) ?_
    (case a_check_character => k_is); (case l_check_character => k_is); (case c_check_character => k_is); (case k_check_character => k_is)
    intro D_check_character
    refine' Sq.cutD (Sq.DefAt.mk1 (x := "squeezed_once") (st := Sq.s_squeezed_once) (ps := ["length", "replacement"]) KX G ?a_squeezed_once ?l_squeezed_once ?c_squeezed_once ?k_squeezed_once (fun _ _ _ _ _ _ us hl => match us, hl with | [_, _], _ => rfl)) ?_
    (case a_squeezed_once => k_is); (case l_squeezed_once => k_is); (case c_squeezed_once => k_is); (case k_squeezed_once => k_is)
    intro D_squeezed_once
    refine' Sq.cutD (Sq.DefAt.mk1 (x := "squeezed_by") (st := Sq.s_squeezed_by) (ps := ["length", "replacements"]) KX G ?a_squeezed_by ?l_squeezed_by ?c_squeezed_by ?k_squeezed_by (fun _ _ _ _ _ _ us hl => match us, hl with | [_, _], _ => rfl)) ?_
    (case a_squeezed_by => k_is); (case l_squeezed_by => k_is); (case c_squeezed_by => k_is); (case k_squeezed_by => k_is)
    intro D_squeezed_by
    refine' Sq.cutD (Sq.DefAt.mk1 (x := "pieces_of") (st := Sq.s_pieces_of) (ps := ["text", "character"]) KX G ?a_pieces_of ?l_pieces_of ?c_pieces_of ?k_pieces_of (fun _ _ _ _ _ _ us hl => match us, hl with | [_, _], _ => rfl)) ?_
    (case a_pieces_of => k_is); (case l_pieces_of => k_is); (case c_pieces_of => k_is); (case k_pieces_of => k_is)
    intro D_pieces_of
    refine' Sq.cutD (Sq.DefAt.mk1 (x := "squeezed_text") (st := Sq.s_squeezed_text) (ps := ["text", "character", "replacements"]) KX G ?a_squeezed_text ?l_squeezed_text ?c_squeezed_text ?k_squeezed_text (fun _ _ _ _ _ _ us hl => match us, hl with | [_, _, _], _ => rfl)) ?_
    (case a_squeezed_text => k_is); (case l_squeezed_text => k_is); (case c_squeezed_text => k_is); (case k_squeezed_text => k_is)
    intro D_squeezed_text
    refine' Sq.cutD (Sq.DefAt.mk1 (x := "squeeze_text") (st := Sq.s_squeeze_text) (ps := ["text", "character", "replacements"]) KX G ?a_squeeze_text ?l_squeeze_text ?c_squeeze_text ?k_squeeze_text (fun _ _ _ _ _ _ us hl => match us, hl with | [_, _, _], _ => rfl)) ?_
    (case a_squeeze_text => k_is); (case l_squeeze_text => k_is); (case c_squeeze_text => k_is); (case k_squeeze_text => k_is)
    intro D_squeeze_text
    refine' Sq.cutD (Sq.DefAt.mk1 (x := "runs_in") (st := Sq.s_runs_in) (ps := ["text", "character"]) KX G ?a_runs_in ?l_runs_in ?c_runs_in ?k_runs_in (fun _ _ _ _ _ _ us hl => match us, hl with | [_, _], _ => rfl)) ?_
    (case a_runs_in => k_is); (case l_runs_in => k_is); (case c_runs_in => k_is); (case k_runs_in => k_is)
    intro D_runs_in
    refine' Sq.cutD (Sq.DefAt.mk1 (x := "_law_pool") (st := Sq.s_law_pool) (ps := ["script", "at"]) KX G ?a_law_pool ?l_law_pool ?c_law_pool ?k_law_pool (fun _ _ _ _ _ _ us hl => match us, hl with | [_, _], _ => rfl)) ?_
    (case a_law_pool => k_is); (case l_law_pool => k_is); (case c_law_pool => k_is); (case k_law_pool => k_is)
    intro D_law_pool
    refine' Sq.cutD (Sq.DefAt.mk1 (x := "_law_draw") (st := Sq.s_law_draw) (ps := ["pool", "many"]) KX G ?a_law_draw ?l_law_draw ?c_law_draw ?k_law_draw (fun _ _ _ _ _ _ us hl => match us, hl with | [_, _], _ => rfl)) ?_
    (case a_law_draw => k_is); (case l_law_draw => k_is); (case c_law_draw => k_is); (case k_law_draw => k_is)
    intro D_law_draw
    refine' Sq.cutD (Sq.DefAt.mk1 (x := "_law_list") (st := Sq.s_law_list) (ps := ["pool", "most", "far"]) KX G ?a_law_list ?l_law_list ?c_law_list ?k_law_list (fun _ _ _ _ _ _ us hl => match us, hl with | [_, _, _], _ => rfl)) ?_
    (case a_law_list => k_is); (case l_law_list => k_is); (case c_law_list => k_is); (case k_law_list => k_is)
    intro D_law_list
    refine' Sq.cutD (Sq.DefAt.mk1 (x := "_law_text") (st := Sq.s_law_text) (ps := ["pool", "most"]) KX G ?a_law_text ?l_law_text ?c_law_text ?k_law_text (fun _ _ _ _ _ _ us hl => match us, hl with | [_, _], _ => rfl)) ?_
    (case a_law_text => k_is); (case l_law_text => k_is); (case c_law_text => k_is); (case k_law_text => k_is)
    intro D_law_text
    refine' Sq.cutD (Sq.DefAt.mk1 (x := "_law_replaced") (st := Sq.s_law_replaced) (ps := ["written", "sign", "numbers"]) KX G ?a_law_replaced ?l_law_replaced ?c_law_replaced ?k_law_replaced (fun _ _ _ _ _ _ us hl => match us, hl with | [_, _, _], _ => rfl)) ?_
    (case a_law_replaced => k_is); (case l_law_replaced => k_is); (case c_law_replaced => k_is); (case k_law_replaced => k_is)
    intro D_law_replaced
    refine' Sq.cutD (Sq.DefAt.mk1 (x := "_law_object") (st := Sq.s_law_object) (ps := ["pool", "written", "sign", "numbers"]) KX G ?a_law_object ?l_law_object ?c_law_object ?k_law_object (fun _ _ _ _ _ _ us hl => match us, hl with | [_, _, _, _], _ => rfl)) ?_
    (case a_law_object => k_is); (case l_law_object => k_is); (case c_law_object => k_is); (case k_law_object => k_is)
    intro D_law_object
    refine' Sq.cutD (Sq.DefAt.mk1 (x := "_law_right") (st := Sq.s_law_right) (ps := ["pool"]) KX G ?a_law_right ?l_law_right ?c_law_right ?k_law_right (fun _ _ _ _ _ _ us hl => match us, hl with | [_], _ => rfl)) ?_
    (case a_law_right => k_is); (case l_law_right => k_is); (case c_law_right => k_is); (case k_law_right => k_is)
    intro D_law_right
    refine' Sq.cutD (Sq.DefAt.mk1 (x := "law") (st := Sq.s_law) (ps := ["script"]) KX G ?a_law ?l_law ?c_law ?k_law (fun _ _ _ _ _ _ us hl => match us, hl with | [_], _ => rfl)) ?_
    (case a_law => k_is); (case l_law => k_is); (case c_law => k_is); (case k_law => k_is)
    intro D_law
    refine' Sq.cutD (Sq.glob_mk (x := "SqueezedText") KX G ?aC_SqueezedText) ?_
    (case aC_SqueezedText => k_is)
    intro C_SqueezedText
    refine' Sq.cutD (Sq.cls_mk KX C_SqueezedText ?pg_SqueezedText ?hd_SqueezedText ?po_SqueezedText ?sa_SqueezedText) ?_
    (case pg_SqueezedText => k_is); (case hd_SqueezedText => k_is); (case po_SqueezedText => k_is); (case sa_SqueezedText => k_is)
    intro K_SqueezedText
    refine' Sq.cutD (Sq.noat_mk (m := "character_now") KX C_SqueezedText ?n_SqueezedText_character_now) ?_
    (case n_SqueezedText_character_now => k_is)
    intro N_SqueezedText_character_now
    refine' Sq.cutD (Sq.noat_mk (m := "passed") KX C_SqueezedText ?n_SqueezedText_passed) ?_
    (case n_SqueezedText_passed => k_is)
    intro N_SqueezedText_passed
    refine' Sq.cutD (Sq.noat_mk (m := "taken") KX C_SqueezedText ?n_SqueezedText_taken) ?_
    (case n_SqueezedText_taken => k_is)
    intro N_SqueezedText_taken
    refine' Sq.cutD (Sq.IniAt.mk1 (x := "SqueezedText") (qual := "SqueezedText.__init__") (st := Sq.s_SqueezedText___init__) (ps := ["self", "text", "character"]) KX C_SqueezedText ?a_SqueezedText___init__ ?l_SqueezedText___init__ ?c_SqueezedText___init__ ?k_SqueezedText___init__ ?mk_SqueezedText___init__ ?i_SqueezedText___init__ ?kc_SqueezedText___init__ (fun _ _ _ _ _ _ us hl => match us, hl with | [_, _, _], _ => rfl)) ?_
    (case a_SqueezedText___init__ => k_is); (case l_SqueezedText___init__ => k_is); (case c_SqueezedText___init__ => k_is); (case k_SqueezedText___init__ => k_is); (case mk_SqueezedText___init__ => k_is); (case i_SqueezedText___init__ => k_is); (case kc_SqueezedText___init__ => k_is)
    intro D_SqueezedText___init__
    refine' Sq.cutD (Sq.MetAt.mk1 (m := "undo") (qual := "SqueezedText.undo") (st := Sq.s_SqueezedText_undo) (ps := ["self"]) KX C_SqueezedText ?a_SqueezedText_undo ?l_SqueezedText_undo ?c_SqueezedText_undo ?k_SqueezedText_undo ?i_SqueezedText_undo (fun _ _ _ _ _ _ us hl => match us, hl with | [_], _ => rfl)) ?_
    (case a_SqueezedText_undo => k_is); (case l_SqueezedText_undo => k_is); (case c_SqueezedText_undo => k_is); (case k_SqueezedText_undo => k_is); (case i_SqueezedText_undo => k_is)
    intro D_SqueezedText_undo
    refine' Sq.cutD (Sq.MetAt.mk1 (m := "__eq__") (qual := "SqueezedText.__eq__") (st := Sq.s_SqueezedText___eq__) (ps := ["self", "other"]) KX C_SqueezedText ?a_SqueezedText___eq__ ?l_SqueezedText___eq__ ?c_SqueezedText___eq__ ?k_SqueezedText___eq__ ?i_SqueezedText___eq__ (fun _ _ _ _ _ _ us hl => match us, hl with | [_, _], _ => rfl)) ?_
    (case a_SqueezedText___eq__ => k_is); (case l_SqueezedText___eq__ => k_is); (case c_SqueezedText___eq__ => k_is); (case k_SqueezedText___eq__ => k_is); (case i_SqueezedText___eq__ => k_is)
    intro D_SqueezedText___eq__
    refine' Sq.cutD (Sq.PrpAt.mk1 (m := "text") (qual := "SqueezedText.text") (st := Sq.s_SqueezedText_text) (ps := ["self"]) KX C_SqueezedText ?a_SqueezedText_text ?g_SqueezedText_text ?t_SqueezedText_text ?r_SqueezedText_text ?l_SqueezedText_text ?c_SqueezedText_text ?k_SqueezedText_text (fun _ _ _ _ _ _ us hl => match us, hl with | [_], _ => rfl)) ?_
    (case a_SqueezedText_text => k_is); (case g_SqueezedText_text => k_is); (case t_SqueezedText_text => k_is); (case r_SqueezedText_text => k_is); (case l_SqueezedText_text => k_is); (case c_SqueezedText_text => k_is); (case k_SqueezedText_text => k_is)
    intro D_SqueezedText_text
    refine' Sq.cutD (Sq.PrpAt.mk1 (m := "longest") (qual := "SqueezedText.longest") (st := Sq.s_SqueezedText_longest) (ps := ["self"]) KX C_SqueezedText ?a_SqueezedText_longest ?g_SqueezedText_longest ?t_SqueezedText_longest ?r_SqueezedText_longest ?l_SqueezedText_longest ?c_SqueezedText_longest ?k_SqueezedText_longest (fun _ _ _ _ _ _ us hl => match us, hl with | [_], _ => rfl)) ?_
    (case a_SqueezedText_longest => k_is); (case g_SqueezedText_longest => k_is); (case t_SqueezedText_longest => k_is); (case r_SqueezedText_longest => k_is); (case l_SqueezedText_longest => k_is); (case c_SqueezedText_longest => k_is); (case k_SqueezedText_longest => k_is)
    intro D_SqueezedText_longest
    refine' Sq.cutD (Sq.MetAtR.mk1 (m := "squeeze") (qual := "SqueezedText.squeeze") (st := Sq.s_SqueezedText_squeeze) (p1 := "self") (pv := "replacements") KX C_SqueezedText ?a_SqueezedText_squeeze ?l_SqueezedText_squeeze ?c_SqueezedText_squeeze ?k_SqueezedText_squeeze ?i_SqueezedText_squeeze (fun _ _ _ _ _ _ _ => rfl) (fun _ _ _ _ _ _ _ _ _ => rfl)) ?_
    (case a_SqueezedText_squeeze => k_is); (case l_SqueezedText_squeeze => k_is); (case c_SqueezedText_squeeze => k_is); (case k_SqueezedText_squeeze => k_is); (case i_SqueezedText_squeeze => k_is)
    intro D_SqueezedText_squeeze
    refine' Sq.cutD (Sq.glob_mk (x := "InvalidList") KX G ?aC_InvalidList) ?_
    (case aC_InvalidList => k_is)
    intro C_InvalidList
    refine' Sq.cutD (Sq.glob_mk (x := "InvalidCharacter") KX G ?aC_InvalidCharacter) ?_
    (case aC_InvalidCharacter => k_is)
    intro C_InvalidCharacter
    refine' Sq.cutD (Sq.glob_mk (x := "NothingToUndo") KX G ?aC_NothingToUndo) ?_
    (case aC_NothingToUndo => k_is)
    intro C_NothingToUndo
    have hi : Sq.Liv _ _ := ⟨K_SqueezedText, N_SqueezedText_character_now, N_SqueezedText_passed, N_SqueezedText_taken⟩
    refine' Sq.cutD (Sq.ownc_mk KX C_SqueezedText K_SqueezedText ?oc_ob ?oc_ne ?oc_ha ?oc_hn ?oc_ht ?oc_k1 ?oc_kn ?oc_ks ?oc_ki ?oc_kl ?oc_kt ?oc_sn ?oc_ss ?oc_si ?oc_sl ?oc_st ?oc_nf) ?_
    (case oc_ob => k_is)
    (case oc_ne => k_is)
    (case oc_ha => k_is)
    (case oc_hn => k_is)
    (case oc_ht => k_is)
    (case oc_k1 => kit_is)
    (case oc_kn => kit_is)
    (case oc_ks => kit_is)
    (case oc_ki => kit_is)
    (case oc_kl => kit_is)
    (case oc_kt => kit_is)
    (case oc_sn => k_is)
    (case oc_ss => k_is)
    (case oc_si => k_is)
    (case oc_sl => k_is)
    (case oc_st => k_is)
    (case oc_nf => k_is)
    intro oc
    obtain ⟨fd, F, hb⟩ := D_law.law hmg (fun _ _ _ _ _ _ us hl => match us, hl with | [_], _ => rfl)
    refine ⟨fd, hb, fun base _ _ => ?_⟩
    refine' Sq.cutD (Sq.rai_mk (P := PySem.Challenge.rw_squeezelists_k21_equal_live_texts.prog) (w := w) (base := base) KX G C_InvalidList ?lC_InvalidList ?rC_InvalidList ?sa_InvalidList ?ex_InvalidList ?ty_InvalidList ?kc_InvalidList ?ini_InvalidList ?tyf_InvalidList ?l_InvalidList ?co_InvalidList ?cell_InvalidList ?rec__InvalidList ?v2_InvalidList ?fl_InvalidList ?top_InvalidList ?opq_InvalidList ?sup_InvalidList ?veb_InvalidList ?slf_InvalidList ?val_InvalidList ?ms_InvalidList ?he_InvalidList ?hb_InvalidList) ?_
    (case lC_InvalidList => k_is)
    (case rC_InvalidList => decide +kernel)
    (case sa_InvalidList => k_is)
    (case ex_InvalidList => k_is)
    (case ty_InvalidList => k_is)
    (case kc_InvalidList => k_is)
    (case ini_InvalidList => k_is)
    (case tyf_InvalidList => k_is)
    (case l_InvalidList => k_is)
    (case co_InvalidList => k_is)
    (case cell_InvalidList => k_is)
    (case rec__InvalidList => k_is)
    (case v2_InvalidList => rfl)
    (case fl_InvalidList => rfl)
    (case top_InvalidList => rfl)
    (case opq_InvalidList => k_is)
    (case sup_InvalidList => ks_is)
    (case veb_InvalidList => k_is)
    (case slf_InvalidList => k_is)
    (case val_InvalidList => k_is)
    (case ms_InvalidList => k_is)
    (case he_InvalidList => exact fun _ => rfl)
    (case hb_InvalidList => exact fun us hl => match us, hl with | [_, _], _ => rfl)
    intro R_InvalidList
    refine' Sq.cutD (Sq.rai_mk (P := PySem.Challenge.rw_squeezelists_k21_equal_live_texts.prog) (w := w) (base := base) KX G C_InvalidCharacter ?lC_InvalidCharacter ?rC_InvalidCharacter ?sa_InvalidCharacter ?ex_InvalidCharacter ?ty_InvalidCharacter ?kc_InvalidCharacter ?ini_InvalidCharacter ?tyf_InvalidCharacter ?l_InvalidCharacter ?co_InvalidCharacter ?cell_InvalidCharacter ?rec__InvalidCharacter ?v2_InvalidCharacter ?fl_InvalidCharacter ?top_InvalidCharacter ?opq_InvalidCharacter ?sup_InvalidCharacter ?veb_InvalidCharacter ?slf_InvalidCharacter ?val_InvalidCharacter ?ms_InvalidCharacter ?he_InvalidCharacter ?hb_InvalidCharacter) ?_
    (case lC_InvalidCharacter => k_is)
    (case rC_InvalidCharacter => decide +kernel)
    (case sa_InvalidCharacter => k_is)
    (case ex_InvalidCharacter => k_is)
    (case ty_InvalidCharacter => k_is)
    (case kc_InvalidCharacter => k_is)
    (case ini_InvalidCharacter => k_is)
    (case tyf_InvalidCharacter => k_is)
    (case l_InvalidCharacter => k_is)
    (case co_InvalidCharacter => k_is)
    (case cell_InvalidCharacter => k_is)
    (case rec__InvalidCharacter => k_is)
    (case v2_InvalidCharacter => rfl)
    (case fl_InvalidCharacter => rfl)
    (case top_InvalidCharacter => rfl)
    (case opq_InvalidCharacter => k_is)
    (case sup_InvalidCharacter => ks_is)
    (case veb_InvalidCharacter => k_is)
    (case slf_InvalidCharacter => k_is)
    (case val_InvalidCharacter => k_is)
    (case ms_InvalidCharacter => k_is)
    (case he_InvalidCharacter => exact fun _ => rfl)
    (case hb_InvalidCharacter => exact fun us hl => match us, hl with | [_, _], _ => rfl)
    intro R_InvalidCharacter
    refine' Sq.cutD (Sq.rai_mk (P := PySem.Challenge.rw_squeezelists_k21_equal_live_texts.prog) (w := w) (base := base) KX G C_NothingToUndo ?lC_NothingToUndo ?rC_NothingToUndo ?sa_NothingToUndo ?ex_NothingToUndo ?ty_NothingToUndo ?kc_NothingToUndo ?ini_NothingToUndo ?tyf_NothingToUndo ?l_NothingToUndo ?co_NothingToUndo ?cell_NothingToUndo ?rec__NothingToUndo ?v2_NothingToUndo ?fl_NothingToUndo ?top_NothingToUndo ?opq_NothingToUndo ?sup_NothingToUndo ?veb_NothingToUndo ?slf_NothingToUndo ?val_NothingToUndo ?ms_NothingToUndo ?he_NothingToUndo ?hb_NothingToUndo) ?_
    (case lC_NothingToUndo => k_is)
    (case rC_NothingToUndo => decide +kernel)
    (case sa_NothingToUndo => k_is)
    (case ex_NothingToUndo => k_is)
    (case ty_NothingToUndo => k_is)
    (case kc_NothingToUndo => k_is)
    (case ini_NothingToUndo => k_is)
    (case tyf_NothingToUndo => k_is)
    (case l_NothingToUndo => k_is)
    (case co_NothingToUndo => k_is)
    (case cell_NothingToUndo => k_is)
    (case rec__NothingToUndo => k_is)
    (case v2_NothingToUndo => rfl)
    (case fl_NothingToUndo => rfl)
    (case top_NothingToUndo => rfl)
    (case opq_NothingToUndo => k_is)
    (case sup_NothingToUndo => ks_is)
    (case veb_NothingToUndo => k_is)
    (case slf_NothingToUndo => k_is)
    (case val_NothingToUndo => k_is)
    (case ms_NothingToUndo => k_is)
    (case he_NothingToUndo => exact fun _ => rfl)
    (case hb_NothingToUndo => exact fun us hl => match us, hl with | [_, _], _ => rfl)
    intro R_NothingToUndo
    have cclx := Sq.cal_check_listX (P := PySem.Challenge.rw_squeezelists_k21_equal_live_texts.prog) (w := w) (base := base) D_check_list B R_InvalidList
    have cchx := Sq.cal_check_chX (P := PySem.Challenge.rw_squeezelists_k21_equal_live_texts.prog) (w := w) (base := base) D_check_character B R_InvalidCharacter
    have con := Sq.cal_squeezed_once (P := PySem.Challenge.rw_squeezelists_k21_equal_live_texts.prog) (w := w) (base := base) D_squeezed_once B
    have cby := Sq.cal_squeezed_by D_squeezed_by B con
    have tx := Sq.tx_calm (Sq.two_sqtextX D_squeeze_text B cchx cclx (Sq.cal_sqtext D_squeezed_text B (Sq.cal_pieces D_pieces_of B) cby))
    have cri := Sq.cal_runs_in (P := PySem.Challenge.rw_squeezelists_k21_equal_live_texts.prog) (w := w) (base := base) D_runs_in B
    have mk := Sq.mak_live (P := PySem.Challenge.rw_squeezelists_k21_equal_live_texts.prog) (w := w) (base := base) D_SqueezedText___init__ hi B (Sq.ch_calm cchx)
    have lng := Sq.prp_long D_SqueezedText_longest hi B cri
    have sqm := Sq.met_sqz D_SqueezedText_squeeze hi B (Sq.cl_calm cclx) tx.cal
    have und := Sq.undo_calm (Sq.met_undo (P := PySem.Challenge.rw_squeezelists_k21_equal_live_texts.prog) (w := w) (base := base) D_SqueezedText_undo hi B R_NothingToUndo)
    have cdw := Sq.calW_draw (P := PySem.Challenge.rw_squeezelists_k21_equal_live_texts.prog) (w := w) (base := base) D_law_draw B
    have cd := cdw.cal fun _ _ => trivial
    have meq := Sq.met_eq (P := PySem.Challenge.rw_squeezelists_k21_equal_live_texts.prog) (w := w) (base := base) D_SqueezedText___eq__ hi B oc C_SqueezedText
    have obj := Sq.cal_object D_law_object B cd mk.1 sqm und
    have rgt := Sq.calW_right D_law_right B oc cd (Sq.calW_text D_law_text B cdw) (Sq.cal_list D_law_list B cd) (Sq.calW_repl D_law_replaced B) obj meq (Sq.prp_text D_SqueezedText_text hi B) lng
    refine Sq.ok_law F B oc (Sq.cal_pool D_law_pool B) (rgt.cal fun _ _ => trivial) mk.1 meq
