import PyProof.Rows.All
import Wide.All
import OpenK.AllK
import Wide.FinOn
import HandS.ForMost
import HandS.Wide
import HandS.Style
import HandS.SortInts
import HandS.Deep
import HandS.Defaults
import HandS.Flow
import HandS.IsInst
import HandS.Codes
import HandS.NoneIn
import HandS.RaiseMore
import PyProof.ReprRoads
import PySem.Challenge.RW_squeezelists_k05_reaches_by_trying
set_option Elab.async false
set_option linter.all false
set_option maxRecDepth 100000
set_option maxHeartbeats 4000000
namespace Sq
open PySem PySem.Spec PyProof.Rows L2
/-! ## operators -/
/-- a power whose base has at most 100000 bits -/
def CPowW (i j : Int) : Prop := 0 ≤ j ∧ j ≤ 1000 ∧ i.natAbs.log2 < 100000
theorem bitsOf_le (i : Int) : Builtin.Int.intBits i ≤ i.natAbs.log2 + 1 := by
  unfold Builtin.Int.intBits
  split <;> omega
theorem op_powW {X : Cx} : OpR X (binaryOp .Pow) (rI CPowW fun i j => .int (i ^ j.toNat)) := opI fun i j _ _ _ _ _ hc q => by
  obtain ⟨h1, h2, h3⟩ := hc
  refine pow_int h1 ?_ q
  have hb := bitsOf_le i
  have h4 : ((Builtin.Int.intBits i : Nat) : Int) ≤ 100000 := by omega
  have h5 := Int.mul_le_mul h4 h2 h1 (by decide : (0 : Int) ≤ 100000)
  exact Int.le_trans h5 (by decide)
/-- numbers below 2 ^ n have a small log2 -/
theorem lg_lt {i : Int} {n : Nat} (h : i.natAbs < 2 ^ n) (h0 : 0 < n) : i.natAbs.log2 < n := PySem.Flt.log2_lt_of h0 h

/-! ## rules whose reading speaks of the written part K itself (a comprehension's block has it too) -/
section
variable {X : Cx} {K : PySem.W.Frag}
theorem ix_listK (h : X.K = K := by rfl) : IxR X (rIxL K) := by subst h; exact ix_list
theorem ix_tupK (h : X.K = K := by rfl) : IxR X (rIxT K) := by subst h; exact ix_tup
theorem sl_listK (h : X.K = K := by rfl) : SlR X (rSlL K) := by subst h; exact sl_list
theorem sl_tupK (h : X.K = K := by rfl) : SlR X (rSlT K) := by subst h; exact sl_tup
def rLenQ (K : PySem.W.Frag) : List V → Hp → VK → Prop := fun xs H Q => ∃ p ys, xs = [.ref p] ∧ SqL K H p ys ∧ Q (.int ys.length) H
theorem len_seqK (h : X.K = K := by rfl) : CallR X (.builtin "len") (rLenQ K) := by
  subst h
  intro pins s σ H xs us Q I r q
  obtain ⟨p, ys, e, hs, q⟩ := q
  exact call_len_seq pins s σ H xs us Q I r ⟨p, ys, e, .inl hs, q⟩
/-- readings that are not to be opened by themselves -/
@[irreducible] def rEqQ (K : PySem.W.Frag) : R2 := rEqD K
@[irreducible] def rNeQ (K : PySem.W.Frag) : R2 := rNeD K
@[irreducible] def rInQ (K : PySem.W.Frag) : R2 := rInD K
@[irreducible] def rNotInQ (K : PySem.W.Frag) : R2 := rNotInD K
theorem rEqQ_of {H : Hp} {x y : V} {Q : VK} (h : rEqD K x y H Q) : rEqQ K x y H Q := by unfold rEqQ; exact h
theorem rNeQ_of {H : Hp} {x y : V} {Q : VK} (h : rNeD K x y H Q) : rNeQ K x y H Q := by unfold rNeQ; exact h
theorem rInQ_of {H : Hp} {x y : V} {Q : VK} (h : rInD K x y H Q) : rInQ K x y H Q := by unfold rInQ; exact h
theorem rNotInQ_of {H : Hp} {x y : V} {Q : VK} (h : rNotInD K x y H Q) : rNotInQ K x y H Q := by unfold rNotInQ; exact h
theorem op_eqDK (hu : X.A.units + 64 < cLine) (h : X.K = K := by rfl) : OpR X (compareOp .Eq) (rEqQ K) := by subst h; unfold rEqQ; exact op_eqD hu
theorem op_neDK (hu : X.A.units + 64 < cLine) (h : X.K = K := by rfl) : OpR X (compareOp .NotEq) (rNeQ K) := by subst h; unfold rNeQ; exact op_neD hu
theorem op_inDK (hu : X.A.units + 65 < cLine) (h : X.K = K := by rfl) : OpR X (compareOp .In) (rInQ K) := by subst h; unfold rInQ; exact op_inD hu
theorem op_notInDK (hu : X.A.units + 65 < cLine) (h : X.K = K := by rfl) : OpR X (compareOp .NotIn) (rNotInQ K) := by subst h; unfold rNotInQ; exact op_notInD hu
theorem isiK (h : X.K = K := by rfl) : CallR X (.builtin "isinstance") (rIsi K) := by subst h; exact call_isi
def rListOf (K : PySem.W.Frag) : List V → Hp → VK → Prop := fun xs H Q => ∃ p ys, xs = [.ref p] ∧ SqL K H p ys ∧ ∀ l, H l = none → Q (.ref l) (upd H l (.lst ys))
theorem list_ofK (h : X.K = K := by rfl) : CallR X (.type "list") (rListOf K) := by
  subst h
  intro pins s σ H xs us Q I r q
  obtain ⟨p, ys, e, hs, q⟩ := q
  exact call_list_of pins s σ H xs us Q I r ⟨p, ys, e, .inl hs, q⟩
theorem cr_sumK (hc : X.calm = true) (h : X.K = K := by rfl) : CallR X (.builtin "sum") (rSum K) := by subst h; exact cr_sum hc
theorem cr_maxK (hc : X.calm = true) (h : X.K = K := by rfl) : CallR X (.builtin "max") (rMax K) := by subst h; exact cr_max hc
theorem cr_minK (hc : X.calm = true) (h : X.K = K := by rfl) : CallR X (.builtin "min") (rMin K) := by subst h; exact cr_min hc
theorem cr_allK (hc : X.calm = true) (h : X.K = K := by rfl) : CallR X (.builtin "all") (rAll K) := by subst h; exact cr_all hc
theorem cr_anyK (hc : X.calm = true) (h : X.K = K := by rfl) : CallR X (.builtin "any") (rAny K) := by subst h; exact cr_any hc
theorem cr_sortedIK (h : X.K = K := by rfl) : CallR X (.builtin "sorted") (rSortedI K) := by subst h; exact cr_sortedI
variable {e a b : Expr} {te ta tb : TE} {es : List Expr} {t : TA} {tgs : TGs} {tg : Expr} {pos p q : Pos} {n : Nat}
theorem pi_listK (he : PE X e te) (h : X.K = K := by rfl) : PI X tg e (iList K te) := by subst h; exact pi_list he
theorem pg_tupK {k : Nat} (hc : X.calm = true) (hg : PGs X es tgs) (hn : (assignEach es X.env).length = n := by rfl) (hst : (assignEach es X.env).findIdx? (·.1) = none := by rfl) (h : X.K = K := by rfl) : PG X (.Tuple es k pos) (gTup K n tgs) := by
  subst h
  exact pg_tup hc hg hn hst
theorem pg_lstK {k : Nat} (hc : X.calm = true) (hg : PGs X es tgs) (hn : (assignEach es X.env).length = n := by rfl) (hst : (assignEach es X.env).findIdx? (·.1) = none := by rfl) (h : X.K = K := by rfl) : PG X (.Tuple es k pos) (gUnl K n tgs) := by
  subst h
  exact pg_unl hc hg hn hst
theorem pi_enumK {elts : List Expr} {kk : Nat} (hg : Gl X "enumerate") (hm : X.mg "enumerate" = none) (ha : PA X [e] t) (hs : starEach [e] X.env = [(false, eval e X.env)] := by rfl) (h : X.K = K := by rfl) :
    PI X (.Tuple elts kk p) (.Call (.Name "enumerate" q) [e] [] pos) (iEnum K t) := by
  subst h
  exact pi_enum hg hm ha hs
theorem pi_zipK {elts : List Expr} {kk : Nat} (hg : Gl X "zip") (hm : X.mg "zip" = none) (ha : PA X [a, b] t) (hs : starEach [a, b] X.env = (false, eval a X.env) :: starEach [b] X.env := by rfl)
    (hpl : (backTo pos (starEach [b] X.env)).any (·.1) = false := by rfl) (h : X.K = K := by rfl) : PI X (.Tuple elts kk p) (.Call (.Name "zip" q) [a, b] [] pos) (iZip K t) := by
  subst h
  exact pi_zip hg hm ha hs hpl
theorem pe_revLK {k : Nat} {p1 p2 p3 : Pos} (he : PE X e te) (h : X.K = K := by rfl) : PE X (.Subscript e (.Slice none none (some (.UnaryOp .USub (.Constant (.int 1) k p1) p2)) p3) pos) (tRevL K te) := by
  subst h
  exact pe_revL he
theorem pe_fldK {f : Str} (he : PE X e te) (hb : attributeBase e f X.env (eval e X.env) = eval e X.env := by rfl) (h : X.K = K := by rfl) : PE X (.Attribute e f pos) (tFld K te f) := by
  subst h
  exact pe_fld he hb
end

/-! ## heaps -/
theorem Same.get {H H' : Hp} {a : Addr} {o : HO} (s : Same H H') (h : H a = some o) : H' a = some o := s a o h
theorem same_new {H : Hp} {p : Addr} {o : HO} (h : H p = none) : Same H (upd H p o) := fun b u e => by
  rw [upd_ne (ne_of_none e h)]
  exact e
theorem upd_keep {H : Hp} {p a : Addr} {o u : HO} (n : H p = none) (h : H a = some u) : upd H p o a = some u := same_new n a u h
theorem upd_off {H : Hp} {p a : Addr} {o u : HO} (n : a ≠ p) (h : H a = some u) : upd H p o a = some u := by
  rw [upd_ne n]
  exact h
/-- a source of draws: what is true of it, where it stands -/
structure Rg where
  I : Hp → Prop
  S : Addr → Prop
  loc : ∀ H H' : Hp, (∀ a, S a → H' a = H a) → I H → I H'
  has : ∀ (H : Hp) (a : Addr), I H → S a → H a ≠ none
/-- the heap H is the quiet part G and the source -/
structure Sep (R : Rg) (G H : Hp) : Prop where
  inv : R.I H
  same : Same G H
  off : ∀ a, R.S a → G a = none
section
variable {R : Rg} {G G' H H' : Hp} {p a : Addr} {o u : HO}
theorem Sep.get (s : Sep R G H) (h : G a = some o) : H a = some o := s.same a o h
theorem Sep.free (s : Sep R G H) (h : H p = none) : G p = none := s.same.free h
theorem Sep.weak (s : Sep R G H) (h : Same G' G) : Sep R G' H := ⟨s.inv, h.trans s.same, fun a ha => by
  cases q : G' a with
  | none => rfl
  | some o =>
    have z := h a o q
    rw [s.off a ha] at z
    cases z⟩
theorem Sep.new (s : Sep R G H) (h : H p = none) (o : HO) : Sep R (upd G p o) (upd H p o) := by
  have np : ∀ a, R.S a → a ≠ p := fun a ha e => R.has H a s.inv ha (by rw [e]; exact h)
  refine ⟨R.loc H _ (fun a ha => upd_ne (np a ha)) s.inv, fun b x e => ?_, fun a ha => by rw [upd_ne (np a ha)]; exact s.off a ha⟩
  by_cases hb : b = p
  · rw [hb, upd_same] at e
    rw [hb, upd_same]
    exact e
  · rw [upd_ne hb] at e
    rw [upd_ne hb]
    exact s.same b x e
/-- a store into an object of the quiet part -/
theorem Sep.put (s : Sep R G H) (h : G p = some u) (o : HO) : Sep R (upd G p o) (upd H p o) := by
  have np : ∀ a, R.S a → a ≠ p := fun a ha e => by
    have z := s.off a ha
    rw [e, h] at z
    cases z
  refine ⟨R.loc H _ (fun a ha => upd_ne (np a ha)) s.inv, fun b x e => ?_, fun a ha => by rw [upd_ne (np a ha)]; exact s.off a ha⟩
  by_cases hb : b = p
  · rw [hb, upd_same] at e
    rw [hb, upd_same]
    exact e
  · rw [upd_ne hb] at e
    rw [upd_ne hb]
    exact s.same b x e
/-- behind something that only makes new things -/
theorem Sep.on (s : Sep R G H) (h : Same H H') : Sep R G H' := by
  refine ⟨R.loc H _ (fun a ha => ?_) s.inv, s.same.trans h, s.off⟩
  cases q : H a with
  | none => exact absurd q (R.has H a s.inv ha)
  | some o => exact h a o q
theorem Sep.grow (s : Sep R G H) (h : Same H H') (n : H p = none) (e : H' p = some o) : Sep R (upd G p o) H' := by
  have s' := s.on h
  have np : ∀ a, R.S a → a ≠ p := fun a ha z => R.has H a s.inv ha (by rw [z]; exact n)
  refine ⟨s'.inv, fun b x q => ?_, fun a ha => by rw [upd_ne (np a ha)]; exact s.off a ha⟩
  by_cases hb : b = p
  · rw [hb, upd_same] at q
    rw [hb, e]
    exact q
  · rw [upd_ne hb] at q
    exact s'.same b x q
end
/-- the source's objects at r are the ints f; no more than n draws were made so far -/
theorem seqL_of {K : PySem.W.Frag} {H : Hp} {a : Addr} {xs : List V} (h : H a = some (.lst xs)) : SqL K H a xs := .inl (.inl h)
/-- ints as values -/
abbrev iv (ns : List Int) : List V := ns.map V.int
theorem iv_app (ns : List Int) (x : Int) : iv ns ++ [V.int x] = iv (ns ++ [x]) := by simp
theorem iv_len (ns : List Int) : (iv ns).length = ns.length := List.length_map _
theorem iv_get {ns : List Int} {i : Nat} {x : V} (h : (iv ns)[i]? = some x) : ∃ n, ns[i]? = some n ∧ x = .int n := by
  rw [List.getElem?_map] at h
  cases e : ns[i]? with
  | none =>
    rw [e] at h
    cases h
  | some n =>
    rw [e] at h
    exact ⟨n, rfl, (Option.some.inj h).symm⟩

theorem seqIx0 {n : Nat} (h : 0 < n) : seqIndex? 0 n = some 0 := by
  unfold seqIndex?
  simp
  omega
theorem lit_len {n : Nat} (h : n ≤ 1000) : n ≤ sizeLine := Nat.le_of_lt (small1000 h)
/-- what holds between the turns of a loop (a wrapper: it is not taken apart by itself) -/
structure Keep (P : Prop) : Prop where
  o : P
/-- for i, x in enumerate(xs) -/
theorem for_enum {K : PySem.W.Frag} {a : Addr} {xs : List V} {g : TG} {tb : TS} {D : Ends} {σ : L2.St} {H : Hp} (Pv : Nat → L2.St → Hp → Prop) (h0 : Pv 0 σ H) (hq : ∀ i σ H, Pv i σ H → SqL K H a xs)
    (hs : ∀ (i : Nat) (x : V) (T : Addr) (σ : L2.St) (H : Hp), xs[i]? = some x → Pv i σ H → H T = none → g (.ref T) σ (upd H T (.tup [.int (i : Nat), x])) fun σ2 H2 => tb { D with nx := Pv (i + 1), ct := Pv (i + 1), bk := D.nx } σ2 H2) (hd : ∀ σ H, Pv xs.length σ H → D.nx σ H) :
    ∃ W : Nat → Nat → L2.St → Hp → Prop, (∃ m, W 0 m σ H) ∧ ∀ i m σ H, W i m σ H → ((Ite K a).stop i H ∧ D.nx σ H) ∨
      ((Ite K a).go i H ∧ ∃ N : L2.St → Hp → Prop, (∀ σ' H', N σ' H' → ∃ m', m' < m ∧ W (i + 1) m' σ' H') ∧ ∀ v H', (Ite K a).yld i H v H' → g v σ H' fun σ2 H2 => tb { D with nx := N, ct := N, bk := D.nx } σ2 H2) := by
  refine ⟨fun i m σ H => m + i = xs.length ∧ Pv i σ H, ⟨xs.length, rfl, h0⟩, fun i m σ H hW => ?_⟩
  obtain ⟨em, p⟩ := hW
  have q := hq i σ H p
  by_cases lt : i < xs.length
  · have ex : xs[i]? = some xs[i] := List.getElem?_eq_getElem lt
    refine .inr ⟨⟨xs, _, q, ex⟩, Pv (i + 1), fun σ' H' p' => ⟨m - 1, by omega, by omega, p'⟩, fun v H' hy => ?_⟩
    obtain ⟨T, x, rfl, nT, rfl, f⟩ := hy
    exact hs i x T σ H (f xs q) p nT
  · have ei : i = xs.length := by omega
    subst ei
    exact .inl ⟨⟨xs, q, Nat.le_refl _⟩, hd σ H p⟩

/-! ## repr of data, where no repr is under way -/
@[irreducible] def rReprD (K : PySem.W.Frag) : List V → Hp → VK → Prop := fun xs H Q => ∃ (a : Addr) (d : PyData), xs = [.ref a] ∧ Dp K H (.ref a) d ∧ d.showable = true ∧ d.hasDict = false ∧ d.depth ≤ 30 ∧ d.shown.length ≤ sizeLine ∧ Q (.str d.shown) H
theorem call_reprDK {X : Cx} {K : PySem.W.Frag} (hG : X.A.guards = some []) (hu : X.A.units + 64 < cLine) (h : X.K = K := by rfl) : CallR X (.builtin "repr") (rReprD K) := by
  subst h
  intro pins s σ H xs us Q I r h
  unfold rReprD at h
  obtain ⟨a, d, rfl, hd, hs, hn, hdp, hz, q⟩ := h
  obtain ⟨v, rfl, rv⟩ := vals1 r
  cases rv
  obtain ⟨as, rd⟩ := Dp.reads I d _ _ hd rfl
  refine repr_of_reads' rd hs (PyData.noDict_hsm hn) hG (by omega) (fun b o e => e) (fun h' t tk hk => ?_) hz
  exact ⟨.str d.shown, H, I.kept hk, ⟨_, rfl⟩, q⟩
/-! ## lists of ints as data -/
def dI (ns : List Int) : PyData := .list (ns.map .int)
theorem dpall_iv {K : PySem.W.Frag} {H : Hp} : ∀ ns : List Int, DpAll K H (iv ns) (ns.map .int)
  | [] => .nil
  | n :: r => .cons (.int n) (dpall_iv r)
theorem dp_iv {K : PySem.W.Frag} {H : Hp} {a : Addr} {ns : List Int} (h : SqL K H a (iv ns)) : Dp K H (.ref a) (dI ns) := .lst h (dpall_iv ns)
theorem can_ints : ∀ ns : List Int, PyData.canLayAll0 (ns.map .int) = true
  | [] => by simp [PyData.canLayAll0]
  | n :: r => by simp [PyData.canLayAll0, PyData.canLay0, can_ints r]
theorem dep_ints : ∀ ns : List Int, PyData.depthAll (ns.map .int) = 0
  | [] => by simp [PyData.depthAll]
  | n :: r => by simp [PyData.depthAll, PyData.depth, dep_ints r]
theorem eqv_ints : ∀ xs ys : List Int, PyData.eqvAll (xs.map .int) (ys.map .int) = decide (xs = ys)
  | [], [] => by simp [PyData.eqvAll]
  | [], _ :: _ => by simp [PyData.eqvAll]
  | _ :: _, [] => by simp [PyData.eqvAll]
  | x :: r, y :: t => by
    have ih := eqv_ints r t
    simp only [List.map_cons, PyData.eqvAll, PyData.eqv, ih, List.cons.injEq]
    by_cases e : x = y <;> by_cases e2 : r = t <;> simp [e, e2]
theorem shaped_dI (ns : List Int) : SeqAt.shaped (dI ns) = true := by
  unfold SeqAt.shaped dI
  simp only [PyData.canLay0, can_ints, PyData.depth, dep_ints]
  decide
theorem eqv_dI (xs ys : List Int) : PyData.eqv (dI xs) (dI ys) = decide (xs = ys) := by
  unfold dI
  simp only [PyData.eqv, eqv_ints]
theorem shown_ints_len : ∀ ns : List Int, (∀ n ∈ ns, n.natAbs.log2 < 1920) → ((PyData.shownAll (ns.map .int)).map (·.length)).sum ≤ 2000 * ns.length ∧ (PyData.shownAll (ns.map .int)).length = ns.length
  | [], _ => by simp [PyData.shownAll]
  | n :: r, h => by
    obtain ⟨h1, h2⟩ := shown_ints_len r fun m hm => h m (List.mem_cons_of_mem _ hm)
    have e := int_text_length_le (k := 1920) (by decide) (h n (List.mem_cons_self ..))
    have e2 : (PyData.shown (.int n)).length ≤ 2000 := by
      show (Str.ofString (toString n)).length ≤ 2000
      rw [PySem.ofString_length]
      omega
    simp only [List.map_cons, PyData.shownAll, List.sum_cons, List.length_cons]
    omega
theorem show_ints : ∀ ns : List Int, (∀ n ∈ ns, n.natAbs.log2 < 1920) → PyData.showableAll (ns.map .int) = true
  | [], _ => by simp [PyData.showableAll]
  | n :: r, h => by simp [PyData.showableAll, PyData.showable, h n (List.mem_cons_self ..), show_ints r fun m hm => h m (List.mem_cons_of_mem _ hm)]
theorem nod_ints : ∀ ns : List Int, PyData.hasDictAll (ns.map .int) = false
  | [] => by simp [PyData.hasDictAll]
  | n :: r => by simp [PyData.hasDictAll, PyData.hasDict, nod_ints r]
theorem r_eqI {K : PySem.W.Frag} {H : Hp} {a b : Addr} {xs ys : List Int} {Q : VK} (h1 : SqL K H a (iv xs)) (h2 : SqL K H b (iv ys)) (q : Q (.bl (decide (xs = ys))) H) : rEqQ K (.ref a) (.ref b) H Q :=
  rEqQ_of ⟨dI xs, dI ys, dp_iv h1, dp_iv h2, shaped_dI xs, shaped_dI ys, by rw [eqv_dI]; exact q⟩
theorem r_neI {K : PySem.W.Frag} {H : Hp} {a b : Addr} {xs ys : List Int} {Q : VK} (h1 : SqL K H a (iv xs)) (h2 : SqL K H b (iv ys)) (q : Q (.bl (!decide (xs = ys))) H) : rNeQ K (.ref a) (.ref b) H Q :=
  rNeQ_of ⟨dI xs, dI ys, dp_iv h1, dp_iv h2, shaped_dI xs, shaped_dI ys, by rw [eqv_dI]; exact q⟩
theorem r_repr {K : PySem.W.Frag} {H : Hp} {a : Addr} {ns : List Int} {Q : VK} (h1 : SqL K H a (iv ns)) (hl : ns.length ≤ 5000) (hz : ∀ n ∈ ns, n.natAbs.log2 < 1920) (q : Q (.str (dI ns).shown) H) : rReprD K [.ref a] H Q := by
  unfold rReprD
  refine ⟨a, dI ns, rfl, dp_iv h1, ?_, ?_, ?_, ?_, q⟩
  · simp only [dI, PyData.showable]
    exact show_ints ns hz
  · simp only [dI, PyData.hasDict]
    exact nod_ints ns
  · simp only [dI, PyData.depth, dep_ints]
    decide
  · obtain ⟨e1, e2⟩ := shown_ints_len ns hz
    have e3 := listText_len_le (PyData.shownAll (ns.map .int))
    simp only [dI, PyData.shown]
    rw [sizeLine_eq]
    omega
mutual
theorem dp_same {K : PySem.W.Frag} {H H' : Hp} (s : Same H H') : ∀ (d : PyData) (x : V), Dp K H x d → Dp K H' x d
  | .none, _, h => by cases h; exact .non
  | .bool _, _, h => by cases h; exact .bl _
  | .int _, _, h => by cases h; exact .int _
  | .str _, _, h => by cases h; exact .str _
  | .list ds, _, h => by
    cases h with
    | lst a b => exact .lst (s.seq a) (dpall_same s ds _ b)
  | .tuple ds, _, h => by
    cases h with
    | tup a b =>
      refine .tup ?_ (dpall_same s ds _ b)
      rcases a with (a | ⟨o, a⟩) | a
      · exact .inl (.inl (s _ _ a))
      · exact .inl (.inr ⟨o, s _ _ a⟩)
      · exact .inr a
  | .dict _, _, h => nomatch h
theorem dpall_same {K : PySem.W.Frag} {H H' : Hp} (s : Same H H') : ∀ (ds : List PyData) (xs : List V), DpAll K H xs ds → DpAll K H' xs ds
  | [], _, h => by cases h; exact .nil
  | d :: ds, _, h => by
    cases h with
    | cons a b => exact .cons (dp_same s d _ a) (dpall_same s ds _ b)
end
theorem dpall_len {K : PySem.W.Frag} {H : Hp} : ∀ (ds : List PyData) (xs : List V), DpAll K H xs ds → xs.length = ds.length
  | [], _, h => by cases h; rfl
  | d :: ds, _, h => by
    cases h with
    | cons a b => rw [List.length_cons, List.length_cons, dpall_len ds _ b]
theorem dpall_get {K : PySem.W.Frag} {H : Hp} : ∀ (ds : List PyData) (xs : List V), DpAll K H xs ds → ∀ (i : Nat) (d : PyData), ds[i]? = some d → ∃ x, xs[i]? = some x ∧ Dp K H x d
  | [], _, _, _, _, e => by simp at e
  | d :: ds, _, h, i, d', e => by
    cases h with
    | cons a b =>
      cases i with
      | zero =>
        have z : d = d' := by simpa using e
        subst z
        exact ⟨_, rfl, a⟩
      | succ i => exact dpall_get ds _ b i d' (by simpa using e)
theorem tyx_lst {K : PySem.W.Frag} {H : Hp} {a : Addr} {xs : List V} (h : SqL K H a xs) : TyX K H (.ref a) (.type "list") := by
  rcases h with (h | ⟨o, h⟩) | ⟨o, its, n, h1, h2, _⟩
  · exact .base (.lst h)
  · exact .base (.frz h)
  · exact .kList h1 h2
theorem tyx_tup {K : PySem.W.Frag} {H : Hp} {a : Addr} {xs : List V} (h : SqT K H a xs) : TyX K H (.ref a) (.type "tuple") := by
  rcases h with (h | ⟨o, h⟩) | ⟨o, its, n, h1, h2, _⟩
  · exact .base (.tup h)
  · exact .fTuple h
  · exact .kTuple h1 h2
theorem kit_no {K : PySem.W.Frag} : PySem.W.kitOne K (.type "int") (.type "bool") = some false ∧ PySem.W.kitOne K (.type "str") (.type "bool") = some false ∧ PySem.W.kitOne K (.type "list") (.type "bool") = some false ∧
    PySem.W.kitOne K (.type "bool") (.type "int") = some true ∧ PySem.W.kitOne K (.type "int") (.type "int") = some true := ⟨rfl, rfl, rfl, rfl, rfl⟩
/-! ## tests -/
theorem ifD {p A B : Prop} [Decidable p] (h1 : p → A) (h2 : ¬ p → B) : if decide p = true then A else B := by
  by_cases h : p
  · rw [decide_eq_true h]; exact iteT (h1 h)
  · rw [decide_eq_false h]; exact iteF (h2 h)
theorem ifN {p A B : Prop} [Decidable p] (h1 : ¬ p → A) (h2 : p → B) : if (!decide p) = true then A else B := by
  by_cases h : p
  · rw [decide_eq_true h]; exact iteF (h2 h)
  · rw [decide_eq_false h]; exact iteT (h1 h)
theorem ifI {i j : Int} {A B : Prop} (h1 : i = j → A) (h2 : i ≠ j → B) : if decide (V.int i = V.int j) = true then A else B :=
  ifD (fun e => h1 (V.int.inj e)) fun e => h2 fun z => e (congrArg V.int z)
theorem ifIN {i j : Int} {A B : Prop} (h1 : i ≠ j → A) (h2 : i = j → B) : if (!decide (V.int i = V.int j)) = true then A else B :=
  ifN (fun e => h1 fun z => e (congrArg V.int z)) fun e => h2 (V.int.inj e)
/-! ## defs that may ask for repr: called where no repr is under way -/
structure FnG (P : Program) (w : World) (K : PySem.W.Frag) (mg : Str → Option Value) (base : Heap) (CX : CXT) (k : Nat) (f : Addr) (fd : FuncData) (ps : List Str) (sp : Sp) : Prop where
  len : ∀ vs H Q E, sp vs H Q E → vs.length = ps.length
  run : ∀ (A : Around) (outer : List Env) (s : Shared) (H : Hp) (args : Args) (us : List Value) (vs : List V) (Q : VK) (E : XK), Room k A → A.guards = some [] →
    Env0 P w K mg base A outer s H → BindsTo s fd args (ps.zip us) → Vals vs us → sp vs H Q E → codeAny (model P w) A (.call (.ref f) args) (CR CX outer P w H s Q E) s
section
variable {P : Program} {w : World} {K : PySem.W.Frag} {mg : Str → Option Value} {base : Heap} {CX : CXT}
theorem FnG.of {k : Nat} {f : Addr} {fd : FuncData} {ps : List Str} {sp : Sp} (F : FnOk P w K mg base CX k f fd ps sp) : FnG P w K mg base CX k f fd ps sp :=
  ⟨F.len, fun A outer s H args us vs Q E hr _ => F.run A outer s H args us vs Q E hr⟩
theorem fnG_of {k : Nat} {f : Addr} {nm qual : Str} {pms : Arguments} {body : List Stmt} {sc : Scope} {dV kV dc pm cdv ct oc : Value} {an od : Option Addr} {sl : Array (Option Value)} {N ps : List Str} {sp : Sp}
    (lk : K.lookup f = some ⟨oc, od, .func (PySem.W.fnOf nm qual pms body sc dV kV dc pm an cdv ct), sl⟩) (hcd : PySem.W.codeIn K cdv qual = true) (S : FnScope N ps sc) (len : ∀ vs H Q E, sp vs H Q E → vs.length = ps.length)
    (hb : ∀ (A : Around) (outer : List Env) (s : Shared) (H : Hp) (vs : List V) (Q : VK) (E : XK), A.guards = some [] → Room k (A.deeper (envOfC qual sc s.heap.objs.size f cdv)) → sp vs H Q E →
      ∃ t, PSs (cxOf CX P w K mg base N qual sc f cdv A outer s H E) body t ∧ t { nx := fun _ H' => Q .non H', rt := Q } (start N vs) H) :
    FnG P w K mg base CX (k + 1) f (PySem.W.fnOf nm qual pms body sc dV kV dc pm an cdv ct) ps sp := by
  refine ⟨len, ?_⟩
  intro A out s H args us vs Q E room hG env bnd rel pre
  have ln := len _ _ _ _ pre
  have kin : K.In s.heap := env.mod.kin.keeps fun b o e => (env.bs b o e).1
  have nl : s.heap.NoLimit := env.mod.nolimit.keeps fun b o e => (env.bs b o e).1
  have kinds : ∀ y ∈ ps.zip us, sc.names.lookup y.1 = some .local ∨ (sc.names.lookup y.1 = some .cell ∧ ((cellsFrom (s.heap.objs.size + 1) sc.names []).lookup y.1).isSome = true) := by
    rintro ⟨x, v⟩ hy
    rcases S.par x (List.of_mem_zip hy).1 with z | z
    · exact .inl z
    · exact .inr ⟨z, PySem.W.cellsFrom_some _ _ _ (.inl z)⟩
  refine codeAny_call_function room.depth (kin _ _ lk) rfl S.co S.gen rfl (PySem.W.codeRec_of kin hcd) (bnd _ _ _ _ ?_)
  refine wpAny_newFunctionEnv_cells S.kind kinds fun en hen s1 x1 => ?_
  cases hen
  refine ⟨nl.keeps x1.toInCall.keep, codeAny_func ?_⟩
  obtain ⟨t, ht, hq⟩ := hb A out s H vs Q E hG (room.deeper _) pre
  have J0 : Inv (cxOf CX P w K mg base N qual sc f cdv A out s H E) [] (start N vs) H s1 := inv_start S room.hd env ln rel x1
  refine wpAny_mono (ht.run [] s1 (start N vs) H _ J0 hq) (fun fl s2 hs => ?_) fun e s2 hs => hs
  cases fl with
  | ret u =>
    obtain ⟨v, τ, H2, J, rv, q⟩ := hs
    exact ⟨v, H2, J.os, J.bare, J.base, J.hok, rv, q⟩
  | next =>
    obtain ⟨τ, H2, J, q⟩ := hs
    exact ⟨V.non, H2, J.os, J.bare, J.base, J.hok, rfl, q⟩
  | brk =>
    obtain ⟨_, _, _, q⟩ := hs
    cases q
  | cont =>
    obtain ⟨_, _, _, q⟩ := hs
    cases q
end
/-! ## a def of the text: where it stands; its promise -/
structure DefAt (K : PySem.W.Frag) (mg : Str → Option Value) (x : Str) (st : Stmt) (ps : List Str) : Prop where
  ex : ∃ (f : Addr) (fd : FuncData), Fun K x x st f fd ∧ mg x = some (.ref f) ∧ Binds K fd ps []
/-- a def that may be called by its name; dvs: the defaults that fill up -/
structure Cal (P : Program) (w : World) (K : PySem.W.Frag) (mg : Str → Option Value) (base : Heap) (k : Nat) (x : Str) (sp : Sp) (dvs : List V) : Prop where
  ex : ∃ (f : Addr) (fd : FuncData) (ps : List Str) (ds : List Value), FnOk P w K mg base CX0 k f fd ps sp ∧ mg x = some (.ref f) ∧ PySem.W.keepIn K (.ref f) = true ∧ L2.Binds K fd ps ds ∧ Vals dvs ds
/-- a def that may be called by its name; it may ask for repr -/
structure CalG (P : Program) (w : World) (K : PySem.W.Frag) (mg : Str → Option Value) (base : Heap) (k : Nat) (x : Str) (sp : Sp) : Prop where
  ex : ∃ (f : Addr) (fd : FuncData) (ps : List Str), FnG P w K mg base CX0 k f fd ps sp ∧ mg x = some (.ref f) ∧ PySem.W.keepIn K (.ref f) = true ∧ Binds K fd ps []
section
variable {P : Program} {w : World} {K : PySem.W.Frag} {mg : Str → Option Value} {base : Heap}
theorem DefAt.cal {x : Str} {st : Stmt} {ps N : List Str} {k : Nat} {sp : Sp} (D : DefAt K mg x st ps) (S : FnScope N ps (defScope st)) (len : ∀ vs H Q E, sp vs H Q E → vs.length = ps.length)
    (hb : ∀ (f : Addr) (cdv : Value) (A : Around) (outer : List Env) (s : Shared) (H : Hp) (vs : List V) (Q : VK) (E : XK), Room k (A.deeper (envOfC x (defScope st) s.heap.objs.size f cdv)) → sp vs H Q E →
      ∃ t, PSs (cxOf CX0 P w K mg base N x (defScope st) f cdv A outer s H E).nox (defBody st) t ∧ t { nx := fun _ H' => Q .non H', rt := Q } (start N vs) H) : Cal P w K mg base (k + 1) x sp [] := by
  obtain ⟨f, fd, F, hm, b⟩ := D.ex
  exact ⟨f, fd, ps, [], F.ok S len fun cdv A outer s H vs Q E => hb f cdv A outer s H vs Q E, hm, F.kp, b, .nil⟩
theorem DefAt.calG {x : Str} {st : Stmt} {ps N : List Str} {k : Nat} {sp : Sp} (D : DefAt K mg x st ps) (S : FnScope N ps (defScope st)) (len : ∀ vs H Q E, sp vs H Q E → vs.length = ps.length)
    (hb : ∀ (f : Addr) (cdv : Value) (A : Around) (outer : List Env) (s : Shared) (H : Hp) (vs : List V) (Q : VK) (E : XK), A.guards = some [] → Room k (A.deeper (envOfC x (defScope st) s.heap.objs.size f cdv)) → sp vs H Q E →
      ∃ t, PSs (cxOf CX0 P w K mg base N x (defScope st) f cdv A outer s H E).nox (defBody st) t ∧ t { nx := fun _ H' => Q .non H', rt := Q } (start N vs) H) : CalG P w K mg base (k + 1) x sp := by
  obtain ⟨f, fd, ⟨⟨oc, od, kV, doc, pm, an, cdv, ct, osl, rfl, lk, hcd⟩, kp⟩, hm, b⟩ := D.ex
  refine ⟨f, _, ps, fnG_of lk hcd S len fun A outer s H vs Q E hG hr hsp => ?_, hm, kp, b⟩
  obtain ⟨t, h, q⟩ := hb f cdv A outer s H vs Q E hG hr hsp
  exact ⟨t, h.nox, q⟩
theorem okG {x qual : Str} {st : Stmt} {f : Addr} {fd : FuncData} {N ps : List Str} {k : Nat} {sp : Sp} (F : Fun K x qual st f fd) (S : FnScope N ps (defScope st)) (len : ∀ vs H Q E, sp vs H Q E → vs.length = ps.length)
    (hb : ∀ (cdv : Value) (A : Around) (outer : List Env) (s : Shared) (H : Hp) (vs : List V) (Q : VK) (E : XK), A.guards = some [] → Room k (A.deeper (envOfC qual (defScope st) s.heap.objs.size f cdv)) → sp vs H Q E →
      ∃ t, PSs (cxOf CX0 P w K mg base N qual (defScope st) f cdv A outer s H E).nox (defBody st) t ∧ t { nx := fun _ H' => Q .non H', rt := Q } (start N vs) H) : FnG P w K mg base CX0 (k + 1) f fd ps sp := by
  obtain ⟨⟨oc, od, kV, doc, pm, an, cdv, ct, osl, rfl, lk, hcd⟩, kp⟩ := F
  refine fnG_of lk hcd S len fun A outer s H vs Q E hG hr hsp => ?_
  obtain ⟨t, h, q⟩ := hb cdv A outer s H vs Q E hG hr hsp
  exact ⟨t, h.nox, q⟩
theorem calG_of {x : Str} {k : Nat} {sp : Sp} (c : Cal P w K mg base k x sp []) : CalG P w K mg base k x sp := by
  obtain ⟨f, fd, ps, ds, F, hm, kp, b, d⟩ := c.ex
  cases d
  exact ⟨f, fd, ps, FnG.of F, hm, kp, b⟩
theorem Cal.imp {x : Str} {k j : Nat} {sp sp' : Sp} {dvs : List V} (c : Cal P w K mg base k x sp dvs) (hk : k ≤ j) (h : ∀ vs H Q E, sp' vs H Q E → sp vs H Q E) : Cal P w K mg base j x sp' dvs := by
  obtain ⟨f, fd, ps, ds, F, hm, kp, b, d⟩ := c.ex
  exact ⟨f, fd, ps, ds, (F.mono hk).imp h, hm, kp, b, d⟩
end
section
variable {X : Cx} {k j : Nat} {x : Str} {sp : Sp} {p pos : Pos} {e : Expr} {es : List Expr} {t : TA}
theorem pe_c {dvs : List V} (c : Cal X.prog X.w X.K X.mg X.base k x sp dvs) (hr : Room j X.A) (hk : k ≤ j) (hg : Gl X x) (ha : PA X (e :: es) t)
    (hdb : (x == ("__debug__" : Str)) = false := by decide) (he : starEach (e :: es) X.env = (false, eval e X.env) :: starEach es X.env := by rfl) (hpl : (backTo pos (starEach es X.env)).any (·.1) = false := by rfl) :
    PE X (.Call (.Name x p) (e :: es) [] pos) (tCall sp dvs E0 t) := by
  obtain ⟨f, fd, ps, ds, F, hm, kp, bd, vd⟩ := c.ex
  exact L2.pe_call F (hr.mono hk) hg hm kp bd vd pass0 ha hdb he hpl
/-- a call of a def that may ask for repr -/
theorem pe_cG (c : CalG X.prog X.w X.K X.mg X.base k x sp) (hG : X.A.guards = some []) (hr : Room j X.A) (hk : k ≤ j) (hg : Gl X x) (ha : PA X (e :: es) t)
    (hdb : (x == ("__debug__" : Str)) = false := by decide) (he : starEach (e :: es) X.env = (false, eval e X.env) :: starEach es X.env := by rfl) (hpl : (backTo pos (starEach es X.env)).any (·.1) = false := by rfl) :
    PE X (.Call (.Name x p) (e :: es) [] pos) (tCall sp [] E0 t) := by
  obtain ⟨f, fd, ps, F, hm, kp, b⟩ := c.ex
  refine ⟨fun pins s σ H Q I h => wpAny_Call_Name_kw (ld_glob I hg hm ?_ hdb)⟩
  refine PySem.W.callWith_K (h₀ := X.base) I.ok.mod.kin kp (thn (ha.run pos pins s σ H _ I h) fun us s1 hx => ?_) he hpl
  obtain ⟨vs, H1, I1, r, q⟩ := hx
  rw [List.append_nil] at q
  have ln : us.length = ps.length := by rw [← r.length]; exact F.len _ _ _ _ q
  have bb : BindsTo s1 fd ⟨us, []⟩ (ps.zip us) := by
    have z := b s1 us I1.kIn (by rw [List.append_nil]; exact ln)
    rw [List.append_nil] at z
    exact z
  refine ⟨I1.kIn, wpAny_call (codeAny_mono (F.run X.A X.stack s1 H1 ⟨us, []⟩ us vs Q E0 (hr.mono hk) hG I1.env0 bb r q) fun r s' hq => ?_)⟩
  cases r with
  | error e => exact False.elim hq
  | ok fl =>
    cases fl with
    | ret u => exact I1.after hq
    | next => exact False.elim hq
    | brk => exact False.elim hq
    | cont => exact False.elim hq
end
/-! ## calls by keywords alone -/
/-- a def called with the keywords ks alone: sp speaks of their values -/
structure CalK (P : Program) (w : World) (K : PySem.W.Frag) (mg : Str → Option Value) (base : Heap) (k : Nat) (x : Str) (ks : List Str) (sp : Sp) : Prop where
  ex : ∃ (f : Addr) (fd : FuncData) (ps : List Str) (spf : Sp) (g : List Value → List Value → List Value) (gV : List V → List V → List V),
    FnOk P w K mg base CX0 k f fd ps spf ∧ mg x = some (.ref f) ∧ PySem.W.keepIn K (.ref f) = true ∧ KBn K fd ps 0 ks g gV ∧ ∀ zs H Q E, sp zs H Q E → zs.length = ks.length ∧ spf (gV [] zs) H Q E
def tCk (sp : Sp) (tk : TA) : TE := fun σ H Q => tk σ H fun zs H1 => sp zs H1 Q E0
section
variable {X : Cx} {k j : Nat} {x : Str} {ks : List Str} {sp : Sp} {p pos : Pos} {kws : List Keyword} {tk : TA}
theorem pe_ck (c : CalK X.prog X.w X.K X.mg X.base k x ks sp) (hr : Room j X.A) (hk : k ≤ j) (hg : Gl X x) (hkw : PK X kws tk)
    (hall : (backToKw pos (keywordEach kws X.env)).all (·.1.isSome) = true := by rfl) (hks : (backToKw pos (keywordEach kws X.env)).filterMap (·.1) = ks := by rfl) (hdb : (x == ("__debug__" : Str)) = false := by decide)
    (hpl : ((backTo pos (starEach [] X.env)).any (·.1) || (backToKw pos (keywordEach kws X.env)).any (·.1.isNone)) = false := by rfl) : PE X (.Call (.Name x p) [] kws pos) (tCk sp tk) := by
  obtain ⟨f, fd, ps, spf, g, gV, F, hm, kp, hb, hs⟩ := c.ex
  refine ⟨fun pins s σ H Q I h => wpAny_Call_Name_kw (ld_glob I hg hm ?_ hdb)⟩
  refine PySem.W.callWith_KW0 (h₀ := X.base) I.ok.mod.kin kp hall (thn (hkw.run pos pins s σ H _ I h) fun ws s1 hx => ?_) hpl
  obtain ⟨zs, H1, I1, rz, q⟩ := hx
  obtain ⟨lz, q⟩ := hs _ _ _ _ q
  refine ⟨I1.kIn, ?_⟩
  rw [hks]
  exact run_fnN F (hr.mono hk) hb pass0 I1 .nil rz rfl lz q
end

/-! ## a def with defaults, called by place or by keywords -/
section
variable {P : Program} {w : World} {K : PySem.W.Frag} {mg : Str → Option Value} {base : Heap} {x qual : Str} {pms : Arguments} {body : List Stmt} {sc : Scope} {dvs : List V} {f : Addr} {fd : FuncData} {ps ks : List Str}
/-- all parameters by keywords; g brings the values in the parameters' order -/
theorem kbn_dflt (F : FunD K x qual pms body sc dvs [] f fd) (hd : dvs ≠ []) (g : {α : Type} → List α → List α) (hg : ∀ {vs : List V} {us : List Value}, Vals vs us → Vals (g vs) (g us))
    (h : ∀ (T : Addr) (kV doc pm : Value) (an : Option Addr) (cdv ct : Value) (ws its : List Value), ws.length = ks.length → its.length = dvs.length →
      ∃ k, bindArgs (PySem.W.fnOf x qual pms body sc (.ref T) kV doc pm an cdv ct) ⟨[], ks.zip ws⟩ = seqItems? (.ref T) >>= k ∧ k (some its.toArray) = pure (ps.zip (g ws))) : KBn K fd ps 0 ks (fun _ ws => g ws) (fun _ zs => g zs) := by
  obtain ⟨oc, od, dV, kV, doc, pm, an, cdv, ct, osl, rfl, lk, hcd, hD, hK⟩ := F.ex
  rcases hD with ⟨e, _⟩ | ⟨_, T, o, its, m, rfl, lT, oT, rT⟩
  · exact absurd e hd
  · refine ⟨fun s us ws X l1 l2 => ?_, fun r1 r2 => hg r2⟩
    cases us with
    | cons u us => cases l1
    | nil =>
      obtain ⟨k, e1, e2⟩ := h T kV doc pm an cdv ct ws its l2 rT.length.symm
      refine BindsTo.of_looks fun M => ?_
      rw [e1]
      exact looks_items X lT oT (.of_pure e2)
/-- .. of a def without defaults -/
theorem kbn_plain {st : Stmt} (F : Fun K x qual st f fd) (g : {α : Type} → List α → List α) (hg : ∀ {vs : List V} {us : List Value}, Vals vs us → Vals (g vs) (g us))
    (h : ∀ (kV doc pm : Value) (an : Option Addr) (cdv ct : Value) (ws : List Value), ws.length = ks.length →
      bindArgs (PySem.W.fnOf x qual (defArgs st) (defBody st) (defScope st) .none kV doc pm an cdv ct) ⟨[], ks.zip ws⟩ = pure (ps.zip (g ws))) : KBn K fd ps 0 ks (fun _ ws => g ws) (fun _ zs => g zs) := by
  obtain ⟨oc, od, kV, doc, pm, an, cdv, ct, osl, rfl, lk, hcd⟩ := F.ex
  refine ⟨fun s us ws X l1 l2 => ?_, fun r1 r2 => hg r2⟩
  cases us with
  | cons u us => cases l1
  | nil => exact .of_eq (h kV doc pm an cdv ct ws l2)
theorem calK_mk {k : Nat} {spf sp : Sp} {g : List Value → List Value → List Value} {gV : List V → List V → List V} (F : FnOk P w K mg base CX0 k f fd ps spf) (hm : mg x = some (.ref f)) (kp : PySem.W.keepIn K (.ref f) = true) (b : KBn K fd ps 0 ks g gV)
    (h : ∀ zs H Q E, sp zs H Q E → zs.length = ks.length ∧ spf (gV [] zs) H Q E) : CalK P w K mg base k x ks sp := ⟨f, fd, ps, spf, g, gV, F, hm, kp, b, h⟩
end
theorem perm_sorted_eq : ∀ {xs ys : List Int}, xs.Perm ys → xs.Pairwise (· ≤ ·) → ys.Pairwise (· ≤ ·) → xs = ys
  | [], ys, p, _, _ => (List.nil_perm.mp p).symm
  | x :: r, [], p, _, _ => absurd (List.perm_nil.mp p) (by simp)
  | x :: r, y :: t, p, h1, h2 => by
    have a1 := (List.pairwise_cons.mp h1).1
    have a2 := (List.pairwise_cons.mp h2).1
    have m1 : x ∈ y :: t := p.mem_iff.mp (List.mem_cons_self ..)
    have m2 : y ∈ x :: r := p.mem_iff.mpr (List.mem_cons_self ..)
    have e : x = y := by
      rcases List.mem_cons.mp m1 with z | z
      · exact z
      · rcases List.mem_cons.mp m2 with z2 | z2
        · exact z2.symm
        · have := a1 y z2
          have := a2 x z
          omega
    subst e
    rw [perm_sorted_eq (List.Perm.cons_inv p) (List.pairwise_cons.mp h1).2 (List.pairwise_cons.mp h2).2]

/-! ## a law's end, of a law that may ask for repr -/
theorem law_endG {P : Program} {w : World} {K : PySem.W.Frag} {mg mb : Str → Option Value} {k : Nat} {fa a : Addr} {fd : FuncData} {x : Str} {sp : Sp} {s₁ : Shared} {vs : List Value} {ns : List Int}
    (KX : K.In s₁.heap) (hns : s₁.heap.Ns mainGlobals mg) (hb : s₁.heap.Ns builtinsNs mb) (hbb : ∀ x : Str, x ≠ "__name__" → mb x = bootBuiltins x) (hlim : s₁.heap.NoLimit) (hg : s₁.gens = #[])
    (ha : s₁.heap.get? a = some { cls := .type "list", data := .seq vs.toArray }) (hi : IntsAre vs ns) (hl : ns.length ≤ sizeLine) (hr : Room k callerA)
    (F : ∀ base : Heap, K.In base → base.Ns mainGlobals mg → FnG P w K mg base CX0 k fa fd [x] sp) (hbind : ∀ (s : Shared) (u : Value), BindsTo s fd ⟨[u], []⟩ [(x, u)])
    (hsp : ∀ H : Hp, Only H → SqL K H a (iv ns) → sp [.ref a] H (fun v _ => v = .bl true) fun _ _ _ => False) :
    codeAny (model P w) callerA (.call (.ref fa) ⟨[.ref a], []⟩) (fun r s' => r = .ok (.ret (.bool true)) ∧ OldK s₁.heap s'.heap ∧ s'.os = s₁.os ∧ AllBare s'.gens) s₁ := by
  have rel := vals_ints hi
  have same : ∀ H : Hp, Only H → SqL K H a (iv ns) → HOk P w H s₁.heap → (∀ b, H b ≠ none → b = a) → (H a ≠ none → K.lookup a = none) →
      codeAny (model P w) callerA (.call (.ref fa) ⟨[.ref a], []⟩) (fun r s' => r = .ok (.ret (.bool true)) ∧ OldK s₁.heap s'.heap ∧ s'.os = s₁.os ∧ AllBare s'.gens) s₁ := by
    intro H only sq hok at_a k_a
    have nonK : ∀ {b : Addr} {o : Obj}, K.lookup b = some o → H b = none := by
      intro b o e
      cases q : H b with
      | none => rfl
      | some u =>
        have z := at_a b (by rw [q]; simp)
        subst z
        rw [k_a (by rw [q]; simp)] at e
        cases e
    have nonD : ∀ {b : Addr} {o : Obj} {es : Array DictEntry} {ep : Nat}, s₁.heap.get? b = some o → o.data = .dict es ep → H b = none := by
      intro b o es ep e d
      cases q : H b with
      | none => rfl
      | some u =>
        have z := at_a b (by rw [q]; simp)
        subst z
        rw [ha] at e
        cases e
        cases d
    have nsB : ∀ {b : Addr} {m : Str → Option Value}, s₁.heap.Ns b m → (hidT s₁.heap H).Ns b m := by
      rintro b m ⟨o, es, ep, e, d, r⟩
      exact ⟨o, es, ep, hidT_get e (nonD e d), d, r⟩
    have kinB : K.In (hidT s₁.heap H) := fun b o e => hidT_get (KX b o e) (nonK e)
    have md : Mod K mg (hidT s₁.heap H) := by
      obtain ⟨mc, h1, h2⟩ := hlim
      exact ⟨kinB, nsB hns, ⟨mb, nsB hb, hbb⟩, ⟨mc, nsB h1, h2⟩⟩
    have noIn : ∀ b : Addr, b ∉ frs [] := fun b z => by cases z
    have env : Env0 P w K mg (hidT s₁.heap H) callerA [] s₁ H := ⟨rfl, md, fun b o e => of_hidT e, Nat.le_of_eq (hidT_size _ _), trivial, fun b z => absurd z (noIn b), hok, .of_eq hg⟩
    refine codeAny_mono ((F _ kinB (nsB hns)).run callerA [] s₁ H ⟨[.ref a], []⟩ [.ref a] [.ref a] _ _ hr rfl env (hbind s₁ (.ref a)) (.cons rfl .nil) (hsp H only sq)) fun r s' h => ?_
    cases r with
    | error e => exact False.elim h
    | ok fl =>
      cases fl with
      | next => exact False.elim h
      | brk => exact False.elim h
      | cont => exact False.elim h
      | ret u =>
        obtain ⟨v, H', os, bare, un, hok', rv, q⟩ := h
        have ev : v = .bl true := q
        subst ev
        have eu : u = Value.bool true := rv
        subst eu
        refine ⟨rfl, OldK.of_keep fun b o e => ?_, os, bare⟩
        cases q : H b with
        | none => exact un.keep b o e q (noIn b) (by simp)
        | some u =>
          rcases only b with z | ⟨ob, xs, z⟩
          · rw [q] at z
            cases z
          · obtain ⟨e1, _⟩ := hok b _ z
            obtain ⟨e2, _⟩ := hok' b _ (un.frzs b ob _ z)
            rw [e] at e1
            cases e1
            exact e2
  cases hk : K.lookup a with
  | some o =>
    have e := KX a o hk
    rw [ha] at e
    cases e
    refine same (fun _ => none) (fun _ => .inl rfl) (.inr ⟨_, vs.toArray, _, hk, rfl, rfl, rfl, ?_, by simpa using rel⟩) (fun b u z => ?_) (fun b z => absurd rfl z) fun z => absurd rfl z
    · rw [List.size_toArray, hi.length]
      exact hl
    · exact nomatch (show (none : Option HO) = some u from z)
  | none =>
    let H0 : Hp := fun b => if b = a then some (.frz { cls := .type "list", data := .seq vs.toArray } (.lst (iv ns))) else none
    have at1 : H0 a = some (.frz { cls := .type "list", data := .seq vs.toArray } (.lst (iv ns))) := if_pos rfl
    have at0 : ∀ b, b ≠ a → H0 b = none := fun b hb => if_neg hb
    refine same H0 (fun b => ?_) (.inl (.inr ⟨_, at1⟩)) (fun b u z => ?_) (fun b z => ?_) fun _ => hk
    · by_cases hb : b = a
      · exact .inr ⟨_, _, by rw [hb]; exact at1⟩
      · exact .inl (at0 b hb)
    · by_cases hb : b = a
      · subst hb
        rw [at1] at z
        cases z
        exact ⟨ha, by rw [iv_len]; exact hl, vs, _, rel, ha⟩
      · rw [at0 b hb] at z
        cases z
    · by_cases hb : b = a
      · exact hb
      · exact absurd (at0 b hb) z
theorem walk_ofG {l : PySem.W.OpenLaw} {n k : Nat} {q : Program} {loose : List Str} {XP : (Str → Option Value) → Heap → Prop} {YP : World → Heap → Prop} {d : DefRec} {K : Params → PySem.W.Frag} {sp : PySem.W.Frag → Sp} {x : Str}
    (hn : l.most = some n) (hn2 : n ≤ sizeLine) (hdf : d.params.defaults = []) (hr : Room k callerA) (hY : ∀ (w : World) (h : Heap), YP w h → (K w.params).In h)
    (F : ∀ (w : World) (mg : Str → Option Value) (fa : Addr) (h : Heap), (K w.params).In h → h.Ns mainGlobals mg → mg d.name = some (.ref fa) →
      ∃ fd : FuncData, (∀ (s : Shared) (u : Value), BindsTo s fd ⟨[u], []⟩ [(x, u)]) ∧
        ∀ base : Heap, (K w.params).In base → base.Ns mainGlobals mg → FnG l.prog w (K w.params) mg base CX0 k fa fd [x] (sp (K w.params)))
    (hsp : ∀ (K : PySem.W.Frag) (H : Hp) (a : Addr) (ns : List Int), ns.length ≤ n → SqL K H a (iv ns) → sp K [.ref a] H (fun v _ => v = .bl true) fun _ _ _ => False) :
    PySem.W.WalkO q loose XP YP l.row.toRowW d [] (fun f vs => PySem.call f vs) := by
  refine Att.attach_call hn hdf fun w s₀ s₁ mg mb fa o pm cd doc a vs ns G Y ho hd hcd hmg hobj hints hlen hg => ?_
  have KX := hY w _ Y
  obtain ⟨fd, hb, hF⟩ := F w mg fa _ KX G.T.g hmg
  exact law_endG KX G.T.g G.T.b G.T.builtins G.T.nolimit hg hobj hints (Nat.le_trans hlen hn2) hr hF hb fun H _ hS => hsp (K w.params) H a ns hlen hS

/-! ## a def of the text, out of what the top has written -/
theorem DefAt.mk1 {K : PySem.W.Frag} {h : Heap} {mg : Str → Option Value} {x : Str} {st : Stmt} {ps : List Str} {f : Addr} {od an : Option Addr} {sl : Array (Option Value)} {oc kV dc pm cd ct : Value} (X : K.In h) (G : h.Ns mainGlobals mg)
    (a : PySem.W.nsIn K mainGlobals x = some (some (.ref f))) (l : K.lookup f = some ⟨oc, od, .func (PySem.W.fnOf x x (defArgs st) (defBody st) (defScope st) .none kV dc pm an cd ct), sl⟩) (c : PySem.W.codeIn K cd x = true) (k : PySem.W.keepIn K (.ref f) = true)
    (hb : ∀ (kV doc pm : Value) (an : Option Addr) (cdv ct : Value) (us : List Value), us.length = ps.length → bindArgs (PySem.W.fnOf x x (defArgs st) (defBody st) (defScope st) .none kV doc pm an cdv ct) ⟨us, []⟩ = pure (ps.zip us)) : DefAt K mg x st ps :=
  ⟨f, _, fun_mk (st := st) l c k, PySem.W.mg_of X G a, (fun_mk (st := st) l c k).binds hb⟩
theorem cutD {p q : Prop} (h : p) (k : p → q) : q := k h
/-- a def with defaults -/
theorem funD_mk {K : PySem.W.Frag} {h : Heap} {mg : Str → Option Value} {x : Str} {st : Stmt} {dvs : List V} {f T : Addr} {o : Obj} {its : List Value} {n : Nat} {od an : Option Addr} {sl : Array (Option Value)} {oc kV dc pm cd ct : Value} (X : K.In h) (G : h.Ns mainGlobals mg)
    (a : PySem.W.nsIn K mainGlobals x = some (some (.ref f))) (l : K.lookup f = some ⟨oc, od, .func (PySem.W.fnOf x x (defArgs st) (defBody st) (defScope st) (.ref T) kV dc pm an cd ct), sl⟩) (c : PySem.W.codeIn K cd x = true) (k : PySem.W.keepIn K (.ref f) = true)
    (t : K.lookup T = some o) (e : o.data = .seq its.toArray n) (hv : Vals dvs its) (hd : dvs ≠ []) : FunD K x x (defArgs st) (defBody st) (defScope st) dvs [] f (PySem.W.fnOf x x (defArgs st) (defBody st) (defScope st) (.ref T) kV dc pm an cd ct) ∧ mg x = some (.ref f) :=
  ⟨⟨⟨oc, od, _, kV, dc, pm, an, cd, ct, sl, rfl, l, c, .inr ⟨hd, T, o, its, n, rfl, t, e, hv⟩, .inl rfl⟩, k⟩, PySem.W.mg_of X G a⟩
/-- the law's own def -/
theorem DefAt.law {K : PySem.W.Frag} {mg : Str → Option Value} {x : Str} {st : Stmt} {fa : Addr} {p : Str} (D : DefAt K mg x st [p]) (hfa : mg x = some (.ref fa))
    (hb : ∀ (kV doc pm : Value) (an : Option Addr) (cdv ct : Value) (us : List Value), us.length = 1 → bindArgs (PySem.W.fnOf x x (defArgs st) (defBody st) (defScope st) .none kV doc pm an cdv ct) ⟨us, []⟩ = pure ([p].zip us)) :
    ∃ fd : FuncData, Fun K x x st fa fd ∧ ∀ (s : Shared) (u : Value), BindsTo s fd ⟨[u], []⟩ [(p, u)] := by
  obtain ⟨f, fd, F, hm, b⟩ := D.ex
  rw [hfa] at hm
  cases hm
  obtain ⟨oc, od, kV, doc, pm, an, cdv, ct, osl, rfl, lk, hcd⟩ := F.ex
  exact ⟨_, F, fun s u => .of_eq (hb kV doc pm an cdv ct [u] rfl)⟩
end Sq

/-! the mathematics of replacements on lengths of runs -/
namespace Sq
def once (n k : Int) : Int := n / k + n % k
def sqz (n : Int) (row : List Int) : Int := row.foldl once n
def rb (R k : Int) : Int := if k > R + 1 then R else (R + 3 - k) * k - 2
def reachOf (row : List Int) (most : Int) : Int := row.foldr (fun k R => rb R k) most
abbrev Two (row : List Int) : Prop := ∀ k ∈ row, (2 : Int) ≤ k
theorem sqz_cons (n k : Int) (r : List Int) : sqz n (k :: r) = sqz (once n k) r := rfl
theorem sqz_app (n : Int) (a b : List Int) : sqz n (a ++ b) = sqz (sqz n a) b := by simp [sqz, List.foldl_append]
theorem sqz_snoc (n k : Int) (a : List Int) : sqz n (a ++ [k]) = once (sqz n a) k := by rw [sqz_app]; rfl
theorem once_nn {n k : Int} (hn : 0 ≤ n) (hk : 2 ≤ k) : 0 ≤ once n k := by
  unfold once
  have h1 := Int.ediv_nonneg hn (by omega : (0 : Int) ≤ k)
  have h2 := Int.emod_nonneg n (by omega : k ≠ 0)
  omega
/-- quotient and rest -/
theorem qr (n : Int) {k : Int} (hk : 2 ≤ k) : ∃ q r, n = q * k + r ∧ 0 ≤ r ∧ r < k ∧ n / k = q ∧ n % k = r :=
  ⟨n / k, n % k, by have := Int.mul_ediv_add_emod n k; rw [Int.mul_comm] at this; omega, Int.emod_nonneg n (by omega), Int.emod_lt_of_pos n (by omega), rfl, rfl⟩
theorem qr_of {q r k : Int} (h0 : 0 ≤ r) (h1 : r < k) : (q * k + r) / k = q ∧ (q * k + r) % k = r := by
  have hk : k ≠ 0 := by omega
  constructor
  · rw [Int.add_comm, Int.add_mul_ediv_right _ _ hk, Int.ediv_eq_zero_of_lt h0 h1]; omega
  · rw [Int.add_comm, Int.add_mul_emod_self_right, Int.emod_eq_of_lt h0 h1]
theorem once_qr {q r k : Int} (h0 : 0 ≤ r) (h1 : r < k) : once (q * k + r) k = q + r := by
  obtain ⟨a, b⟩ := qr_of (q := q) h0 h1
  unfold once
  rw [a, b]
theorem once_le {n k : Int} (hn : 0 ≤ n) (hk : 2 ≤ k) : once n k ≤ n := by
  obtain ⟨q, r, e, h0, h1, e1, e2⟩ := qr n hk
  unfold once
  rw [e1, e2]
  have hq : 0 ≤ q := by rw [← e1]; exact Int.ediv_nonneg hn (by omega)
  have := Int.mul_le_mul_of_nonneg_left (by omega : (1 : Int) ≤ k) hq
  omega
theorem once_small {n k : Int} (hn : 0 ≤ n) (h : n < k) : once n k = n := by
  unfold once
  rw [Int.ediv_eq_zero_of_lt hn h, Int.emod_eq_of_lt hn h]
  omega
theorem once_pos {n k : Int} (hn : 1 ≤ n) (hk : 2 ≤ k) : 1 ≤ once n k := by
  obtain ⟨q, r, e, h0, h1, e1, e2⟩ := qr n hk
  unfold once
  rw [e1, e2]
  have hq : 0 ≤ q := by rw [← e1]; exact Int.ediv_nonneg (by omega) (by omega)
  rcases Int.lt_or_eq_of_le hq with h | h
  · omega
  · subst h; omega
theorem sqz_nn : ∀ {row : List Int} {n : Int}, 0 ≤ n → Two row → 0 ≤ sqz n row
  | [], n, h, _ => h
  | k :: r, n, h, t => sqz_nn (row := r) (once_nn h (t k (List.mem_cons_self ..))) fun j hj => t j (List.mem_cons_of_mem _ hj)
theorem sqz_le : ∀ {row : List Int} {n : Int}, 0 ≤ n → Two row → sqz n row ≤ n
  | [], n, h, _ => Int.le_refl n
  | k :: r, n, h, t => Int.le_trans (sqz_le (row := r) (once_nn h (t k (List.mem_cons_self ..))) fun j hj => t j (List.mem_cons_of_mem _ hj)) (once_le h (t k (List.mem_cons_self ..)))
theorem sqz_pos : ∀ {row : List Int} {n : Int}, 1 ≤ n → Two row → 1 ≤ sqz n row
  | [], n, h, _ => h
  | k :: r, n, h, t => sqz_pos (row := r) (once_pos h (t k (List.mem_cons_self ..))) fun j hj => t j (List.mem_cons_of_mem _ hj)
/-- one step of the reach -/
theorem rb_pos {R k : Int} (hR : 1 ≤ R) (hk : 2 ≤ k) : R ≤ rb R k := by
  unfold rb
  split
  · omega
  · rename_i h
    have e : (R + 3 - k) * k - 2 - R = (R + 1 - k) * (k - 1) + (k - 1) := by
      have e1 : R + 3 - k = (R + 1 - k) + 2 := by omega
      have e2 : k = (k - 1) + 1 := by omega
      rw [e1]
      have e3 : (R + 1 - k) * k = (R + 1 - k) * (k - 1) + (R + 1 - k) := by
        have := Int.mul_sub (R + 1 - k) k 1
        omega
      have e4 : (R + 1 - k + 2) * k = (R + 1 - k) * k + 2 * k := Int.add_mul _ _ _
      omega
    have := Int.mul_nonneg (by omega : (0 : Int) ≤ R + 1 - k) (by omega : (0 : Int) ≤ k - 1)
    omega
theorem rb_all {R k n : Int} (hR : 1 ≤ R) (hk : 2 ≤ k) (h0 : 0 ≤ n) (h : n ≤ rb R k) : once n k ≤ R := by
  unfold rb at h
  split at h
  · rw [once_small h0 (by omega)]; exact h
  · rename_i hh
    obtain ⟨q, r, e, h1, h2, e1, e2⟩ := qr n hk
    unfold once
    rw [e1, e2]
    have e3 : (R + 3 - k) * k = (R + 2 - k) * k + k := by
      have : R + 3 - k = (R + 2 - k) + 1 := by omega
      rw [this, Int.add_mul, Int.one_mul]
    rcases Int.lt_or_le q (R + 2 - k) with hq | hq
    · omega
    · rcases Int.lt_or_eq_of_le hq with hq | hq
      · have := Int.mul_le_mul_of_nonneg_right (by omega : R + 3 - k ≤ q) (by omega : (0 : Int) ≤ k)
        omega
      · subst hq
        omega
theorem rb_next {R k : Int} (hR : 1 ≤ R) (hk : 2 ≤ k) : once (rb R k + 1) k = R + 1 := by
  unfold rb
  split
  · rw [once_small (by omega) (by omega)]
  · have e3 : (R + 3 - k) * k - 2 + 1 = (R + 2 - k) * k + (k - 1) := by
      have : R + 3 - k = (R + 2 - k) + 1 := by omega
      rw [this, Int.add_mul, Int.one_mul]; omega
    rw [e3, once_qr (by omega) (by omega)]
    omega
theorem reach_pos : ∀ {row : List Int} {m : Int}, 1 ≤ m → Two row → m ≤ reachOf row m
  | [], m, _, _ => Int.le_refl m
  | k :: r, m, h, t => by
    have ih := reach_pos (row := r) h fun j hj => t j (List.mem_cons_of_mem _ hj)
    exact Int.le_trans ih (rb_pos (by omega) (t k (List.mem_cons_self ..)))
theorem reach_all : ∀ {row : List Int} {m n : Int}, 1 ≤ m → Two row → 0 ≤ n → n ≤ reachOf row m → sqz n row ≤ m
  | [], m, n, _, _, _, h => h
  | k :: r, m, n, h, t, h0, hn => by
    have t' : Two r := fun j hj => t j (List.mem_cons_of_mem _ hj)
    have hk := t k (List.mem_cons_self ..)
    have p := reach_pos h t'
    exact reach_all (row := r) h t' (once_nn h0 hk) (rb_all (by omega) hk h0 hn)
theorem reach_next : ∀ {row : List Int} {m : Int}, 1 ≤ m → Two row → sqz (reachOf row m + 1) row = m + 1
  | [], m, _, _ => rfl
  | k :: r, m, h, t => by
    have t' : Two r := fun j hj => t j (List.mem_cons_of_mem _ hj)
    have hk := t k (List.mem_cons_self ..)
    have p := reach_pos h t'
    show sqz (once (rb (reachOf r m) k + 1) k) r = m + 1
    rw [rb_next (by omega) hk]
    exact reach_next h t'
/-- the reach is where the first greater one stands -/
theorem reach_is {row : List Int} {m n : Int} (h : 1 ≤ m) (t : Two row) (h0 : 0 ≤ n) (hn : m < sqz n row) (ha : ∀ j, 0 ≤ j → j < n → sqz j row ≤ m) : reachOf row m = n - 1 := by
  have p := reach_pos h t
  rcases Int.lt_or_le (reachOf row m) n with a | a
  · rcases Int.lt_or_le (reachOf row m + 1) n with b | b
    · have := ha _ (by omega) b
      rw [reach_next h t] at this
      omega
    · omega
  · have := reach_all h t h0 a
    omega
theorem reach_mono {row : List Int} {m m' : Int} (h : 1 ≤ m) (hm : m ≤ m') (t : Two row) : reachOf row m ≤ reachOf row m' := by
  rcases Int.lt_or_le (reachOf row m') (reachOf row m) with a | a
  · have p := reach_pos (m := m') (by omega) t
    have := reach_all h t (n := reachOf row m' + 1) (by omega) (by omega)
    rw [reach_next (by omega) t] at this
    omega
  · exact a
end Sq

/-! ## own tactic words (local) -/
local macro_rules | `(tactic| walk_at "sq hp") => `(tactic| first
  | assumption
  | exact L2.upd_same
  | (refine Sq.Sep.get (by assumption) ?_; walk_at "sq hp")
  | (refine Sq.upd_keep (by assumption) ?_; walk_at "sq hp")
  | (refine Sq.Same.get (by assumption) ?_; walk_at "sq hp")
  | (refine Sq.upd_off (by assumption) ?_; walk_at "sq hp")
  | (refine Sq.upd_off (Ne.symm (by assumption)) ?_; walk_at "sq hp"))
local macro_rules | `(tactic| walk_at "sq sql") => `(tactic| first
  | assumption
  | exact Sq.seqL_of (by walk_at "sq hp")
  | exact L2.Same.seq (by assumption) (by assumption)
  | exact L2.Same.seq (Sq.Sep.same (by assumption)) (by assumption))
local macro_rules | `(tactic| walk_at "sq len") => `(tactic| (
  (try simp only [List.length_map, List.length_append, List.length_cons, List.length_nil, List.length_take, List.length_drop, List.length_reverse]); (try rw [PySem.sizeLine_eq]); omega))
local macro_rules | `(tactic| walk_at "sq side") => `(tactic| first
  | exact rfl
  | exact Nat.zero_le _
  | exact Sq.lit_len (Nat.le_of_ble_eq_true rfl)
  | ((with_reducible show L2.SqL _ _ _ _); walk_at "sq sql")
  | ((with_reducible show L2.SqT _ _ _ _); exact L2.SqT.of (by walk_at "sq hp"))
  | (apply Exists.intro; walk_at "sq sql")
  | ((with_reducible show _ = some _); walk_at "sq hp")
  | ((with_reducible show Sq.Sep _ _ _); assumption)
  | ((with_reducible show L2.ClsV _ _); first | exact .ty _ | exact .own _)
  | ((with_reducible show L2.TyX _ _ _ _); first | exact .base .non | exact .base (.bl _) | exact .base (.int _) | exact .base (.str _) | exact Sq.tyx_lst (by walk_at "sq sql") | exact Sq.tyx_tup (by exact L2.SqT.of (by walk_at "sq hp")) | assumption)
  | ((with_reducible show Sq.CPowW _ _); first | assumption | exact ⟨by decide, by decide, by decide⟩)
  | ((with_reducible show L2.CMulW _ _); first | assumption | exact (by decide +kernel))
  | ((with_reducible show L2.CDivW _ _); first | assumption | exact ⟨by decide, by decide⟩)
  | ((with_reducible show L2.tyV _ "list" _ _); exact Or.inl ⟨rfl, _, by walk_at "sq sql"⟩)
  | ((with_reducible show _ < PySem.sizeLine); walk_at "sq len")
  | ((with_reducible show _ ≤ PySem.sizeLine); walk_at "sq len")
  | ((with_reducible show (0 : Int) < _); first | assumption | decide | omega)
  | decide
  | omega)
local macro_rules | `(tactic| walk_at "sq go") => `(tactic| repeat (first
  | exact rfl
  | (fail_if_success (show ∃ W : Nat → Nat → L2.St → L2.Hp → Prop, _)
     fail_if_success (show ∃ W : Nat → Nat → L2.Hp → Prop, _)
     fail_if_success (show ∃ W : Nat → L2.St → L2.Hp → Prop, _)
     apply Exists.intro)
  | (apply And.intro; focus walk_at "sq side")
  | refine L2.iteT ?_
  | refine L2.iteF ?_))
namespace Sq
open PySem PySem.Spec PyProof.Rows L2
def topS (i : Nat) : Stmt := PySem.Challenge.pw_squeezelists_k05_reaches_by_trying.main.body.getD i (.Pass ⟨0, 0, 0, 0⟩)
structure Bt (mg : Str → Option Value) : Prop where
  «bool» : mg "bool" = none
  «enumerate» : mg "enumerate" = none
  «int» : mg "int" = none
  «isinstance» : mg "isinstance" = none
  «len» : mg "len" = none
  «list» : mg "list" = none
  «max» : mg "max" = none
  «min» : mg "min" = none
  «range» : mg "range" = none
  «repr» : mg "repr" = none
  «sorted» : mg "sorted" = none
  «str» : mg "str" = none
  «tuple» : mg "tuple" = none
section
variable {P : Program} {w : World} {K : PySem.W.Frag} {mg : Str → Option Value} {base : Heap}

/-! ### check_list, of valid lists -/
abbrev s_check_list : Stmt := topS 5
theorem sc_check_list : FnScope ["replacements", "index", "replacement"] ["replacements"] (defScope s_check_list) := ⟨rfl, rfl, rfl, by decide +kernel, rfl, by decide +kernel, by decide +kernel⟩

def spCheckList (K : PySem.W.Frag) : Sp := fun vs H Q _ => ∃ (a : Addr) (ns : List Int), vs = [.ref a] ∧ SqL K H a (iv ns) ∧ Keep (Two ns) ∧ ∀ H', Same H H' → Q .non H'
theorem cal_check_list (D : DefAt K mg "check_list" s_check_list ["replacements"]) (B : Bt mg) : Cal P w K mg base 1 "check_list" (spCheckList K) [] := by
  refine D.cal sc_check_list (fun vs H Q E h => ?_) (fun f cdv A outer s H vs Q E hr h => ?_)
  · obtain ⟨a, ns, rfl, _⟩ := h
    rfl
  · obtain ⟨a, ns, rfl, hS, ⟨h2⟩, q⟩ := h
    refine ⟨_, (pss_one (ps_for PassesOwn.never rfl (pi_enumK (K := K) (by rfl) B.enumerate (pa_cons (pv 0) pa_nil)) (pg_tupK (K := K) rfl (pgs_cons (pg_name (i := 1) sc_check_list.nd rfl (Or.inl rfl)) (pgs_cons (pg_name (i := 2) sc_check_list.nd rfl (Or.inl rfl)) pgs_nil)))
   (pss_one (ps_if (pt_cmpR op_lt (pv 2) pe_int (nomark _)) (pss_one ps_never) pss_nil)))), ?_⟩
    walk_at "sq go"
    refine for_enum (K := K) (a := a) (xs := iv ns) (fun i σ H' => Keep (∃ x y, σ = [some (.ref a), x, y] ∧ Same H H')) ⟨none, none, rfl, .refl H⟩ (fun i σ H' h => ?_) (fun i x T σ H' hx h nT => ?_) (fun σ H' h => ?_)
    · obtain ⟨_, _, _, s⟩ := h.o
      exact s.seq hS
    · obtain ⟨y1, y2, rfl, s⟩ := h.o
      obtain ⟨n, hn, rfl⟩ := iv_get hx
      have hn2 := h2 n (List.mem_of_getElem? hn)
      walk_at "sq go"
      refine ifD (fun c => absurd c (by omega)) (fun c => ?_)
      exact ⟨_, _, rfl, s.trans (same_new nT)⟩
    · obtain ⟨y1, y2, rfl, s⟩ := h.o
      exact q H' s

/-! ### reaches, of valid arguments -/
abbrev s_check_most : Stmt := topS 8
theorem sc_check_most : FnScope ["most"] ["most"] (defScope s_check_most) := ⟨rfl, rfl, rfl, by decide +kernel, rfl, by decide +kernel, by decide +kernel⟩

def spCheckMost : Sp := fun vs H Q _ => ∃ m : Int, vs = [.int m] ∧ Keep (1 ≤ m) ∧ Q .non H
theorem cal_check_most (D : DefAt K mg "check_most" s_check_most ["most"]) (B : Bt mg) : Cal P w K mg base 1 "check_most" spCheckMost [] := by
  refine D.cal sc_check_most (fun vs H Q E h => ?_) (fun f cdv A outer s H vs Q E hr h => ?_)
  · obtain ⟨m, rfl, _⟩ := h
    rfl
  · obtain ⟨m, rfl, ⟨h1⟩, q⟩ := h
    refine ⟨_, (pss_one (ps_if (pt_cmpR op_lt (pv 0) pe_int (nomark _)) (pss_one ps_never) pss_nil)), ?_⟩
    walk_at "sq go"
    exact ifD (fun c => absurd c (by omega)) (fun c => q)
abbrev s_reach_before : Stmt := topS 9
theorem sc_reach_before : FnScope ["reached", "replacement"] ["reached", "replacement"] (defScope s_reach_before) := ⟨rfl, rfl, rfl, by decide +kernel, rfl, by decide +kernel, by decide +kernel⟩

/-- at most b bits -/
def Sm (b : Nat) (i : Int) : Prop := i.natAbs < 2 ^ b
theorem Sm.mono {a b : Nat} {i : Int} (h : Sm a i) (hab : a ≤ b) : Sm b i := Nat.lt_of_lt_of_le h (Nat.pow_le_pow_right (by decide) hab)
theorem Sm.lg {b : Nat} {i : Int} (h : Sm b i) (h0 : 0 < b) : i.natAbs.log2 < b := PySem.Flt.log2_lt_of h0 h
theorem Sm.add {b : Nat} {i j : Int} (h : Sm b i) (h' : Sm b j) : Sm (b + 1) (i + j) := by
  have e : 2 ^ (b + 1) = 2 ^ b + 2 ^ b := by rw [Nat.pow_succ]; omega
  unfold Sm at *
  omega
theorem Sm.neg {b : Nat} {i : Int} (h : Sm b i) : Sm b (-i) := by
  unfold Sm at *
  rw [Int.natAbs_neg]
  exact h
theorem Sm.sub {b : Nat} {i j : Int} (h : Sm b i) (h' : Sm b j) : Sm (b + 1) (i - j) := by
  rw [Int.sub_eq_add_neg]
  exact h.add h'.neg
theorem Sm.mul {a b : Nat} {i j : Int} (h : Sm a i) (h' : Sm b j) : Sm (a + b) (i * j) := by
  unfold Sm at *
  rw [Int.natAbs_mul, Nat.pow_add]
  exact Nat.mul_lt_mul'' h h'
theorem Sm.le {b : Nat} {i j : Int} (h : Sm b j) (h0 : 0 ≤ i) (hij : i ≤ j) : Sm b i := by
  unfold Sm at *
  omega
theorem Sm.wide {a b : Nat} {i j : Int} (h : Sm a i) (h' : Sm b j) (ha : 0 < a) (hb : 0 < b) (hab : a + b ≤ 1000000) : CMulW i j := by
  have h1 := h.lg ha
  have h2 := h'.lg hb
  unfold CMulW
  omega
/-- a small number -/
theorem Sm.of {b : Nat} {i : Int} (h : i.natAbs < 2 ^ 10) (hb : 10 ≤ b) : Sm b i := Sm.mono (a := 10) h hb
theorem rb_Sm {a b : Nat} {R k : Int} (hR : Sm a R) (hk : Sm b k) (hb : 10 ≤ b) (hk2 : 2 ≤ k) (hR1 : 1 ≤ R) : Sm (a + b) (rb R k) := by
  unfold rb
  split
  · exact hR.mono (by omega)
  · rename_i c
    have h1 : 0 ≤ (R + 3 - k) * k - 2 := by
      have := Int.mul_le_mul (show (2 : Int) ≤ R + 3 - k by omega) hk2 (by decide) (by omega)
      omega
    have h2 : (R + 3 - k) * k - 2 ≤ (R + 1) * k := by
      have := Int.mul_le_mul_of_nonneg_right (show R + 3 - k ≤ R + 1 by omega) (show 0 ≤ k by omega)
      omega
    unfold Sm at *
    have e1 : (R + 1).natAbs ≤ 2 ^ a := by omega
    have e2 : ((R + 1) * k).natAbs < 2 ^ (a + b) := by
      rw [Int.natAbs_mul, Nat.pow_add]
      calc (R + 1).natAbs * k.natAbs ≤ 2 ^ a * k.natAbs := Nat.mul_le_mul_right _ e1
        _ < 2 ^ a * 2 ^ b := Nat.mul_lt_mul_of_pos_left hk (Nat.pow_pos (by decide))
    omega
def spReachBefore : Sp := fun vs H Q _ => ∃ R k : Int, vs = [.int R, .int k] ∧ Keep (∃ a b : Nat, 1 ≤ R ∧ 2 ≤ k ∧ Sm a R ∧ Sm b k ∧ 10 ≤ a ∧ 10 ≤ b ∧ a + b ≤ 900000) ∧ Q (.int (rb R k)) H
theorem cal_reach_before (D : DefAt K mg "reach_before" s_reach_before ["reached", "replacement"]) (B : Bt mg) : Cal P w K mg base 1 "reach_before" spReachBefore [] := by
  refine D.cal sc_reach_before (fun vs H Q E h => ?_) (fun f cdv A outer s H vs Q E hr h => ?_)
  · obtain ⟨R, k, rfl, _⟩ := h
    rfl
  · obtain ⟨R, k, rfl, ⟨a, b, hR1, hk2, hR, hk, ha, hb, hab⟩, q⟩ := h
    refine ⟨_, (pss_cons (ps_if (pt_cmpR op_gt (pv 1) (pe_op op_add (pv 0) pe_int) (nomark _)) (pss_one (ps_ret (pv 0))) pss_nil)
  (pss_one (ps_ret (pe_op op_sub (pe_op op_mulW (pe_op op_sub (pe_op op_add (pv 0) pe_int) (pv 1)) (pv 1)) pe_int)))), ?_⟩
    walk_at "sq go"
    refine ifD (fun c => ?_) (fun c => ?_)
    · have e : rb R k = R := if_pos c
      rw [e] at q
      walk_at "sq go"
      exact q
    · have e : rb R k = (R + 3 - k) * k - 2 := if_neg c
      rw [e] at q
      have wd : CMulW (R + 3 - k) k := Sm.wide (a := a + 1) (b := b) (Sm.le (hR.add (Sm.of (i := 1) (by decide) ha)) (by omega) (by omega)) hk (by omega) (by omega) (by omega)
      walk_at "sq go"
      exact q
abbrev s_reach_of : Stmt := topS 10
theorem sc_reach_of : FnScope ["replacements", "most", "reached", "replacement"] ["replacements", "most"] (defScope s_reach_of) := ⟨rfl, rfl, rfl, by decide +kernel, rfl, by decide +kernel, by decide +kernel⟩

/-- numbers of a list and a length of a bounded size -/
def Fit (ns : List Int) (m : Int) : Prop := ∃ b c : Nat, (∀ k ∈ ns, Sm b k) ∧ Sm c m ∧ 10 ≤ b ∧ 10 ≤ c ∧ c + (ns.length + 1) * b ≤ 900000
theorem reachOf_snoc (a : List Int) (k m : Int) : reachOf (a ++ [k]) m = reachOf a (rb m k) := by
  unfold reachOf
  rw [List.foldr_append]
  rfl
theorem foldr_take_rev {row : List Int} {m k : Int} {i : Nat} (h : row.reverse[i]? = some k) : (row.reverse.take (i + 1)).foldl rb m = rb ((row.reverse.take i).foldl rb m) k := by
  rw [List.take_add_one, h, List.foldl_append]
  rfl
theorem reachOf_rev (row : List Int) (m : Int) : row.reverse.foldl rb m = reachOf row m := by
  unfold reachOf
  rw [List.foldl_reverse]
theorem rbs_pos : ∀ {row : List Int} {m : Int}, 1 ≤ m → Two row → m ≤ row.foldl rb m
  | [], m, _, _ => Int.le_refl m
  | k :: r, m, h, t => by
    have p := rb_pos h (t k (List.mem_cons_self ..))
    exact Int.le_trans p (rbs_pos (row := r) (by omega) fun j hj => t j (List.mem_cons_of_mem _ hj))
theorem rbs_Sm : ∀ {row : List Int} {m : Int} {b c : Nat}, 1 ≤ m → Two row → (∀ k ∈ row, Sm b k) → Sm c m → 10 ≤ b → Sm (c + row.length * b) (row.foldl rb m)
  | [], m, b, c, _, _, _, h, _ => by simpa using h
  | k :: r, m, b, c, h1, t, hb, hc, h10 => by
    have hk := t k (List.mem_cons_self ..)
    have p := rb_pos h1 hk
    have ih := rbs_Sm (row := r) (m := rb m k) (b := b) (c := c + b) (by omega) (fun j hj => t j (List.mem_cons_of_mem _ hj)) (fun j hj => hb j (List.mem_cons_of_mem _ hj)) (rb_Sm hc (hb k (List.mem_cons_self ..)) h10 hk h1) h10
    have e : c + b + r.length * b = c + (k :: r).length * b := by
      rw [List.length_cons, Nat.add_mul]
      omega
    rw [e] at ih
    exact ih
def spReachOf (K : PySem.W.Frag) : Sp := fun vs H Q _ => ∃ (p : Addr) (ns : List Int) (m : Int), vs = [.ref p, .int m] ∧ SqL K H p (iv ns) ∧ Keep (Two ns ∧ 1 ≤ m ∧ Fit ns m) ∧ ∀ H', Same H H' → Q (.int (reachOf ns m)) H'
theorem cal_reach_of (D : DefAt K mg "reach_of" s_reach_of ["replacements", "most"]) (B : Bt mg) (c_reach_before : Cal P w K mg base 1 "reach_before" spReachBefore []) : Cal P w K mg base 2 "reach_of" (spReachOf K) [] := by
  refine D.cal sc_reach_of (fun vs H Q E h => ?_) (fun f cdv A outer s H vs Q E hr h => ?_)
  · obtain ⟨p, ns, m, rfl, _⟩ := h
    rfl
  · obtain ⟨p, ns, m, rfl, hS, ⟨h2, hm, b, c, hb, hc, h10, hc10, hz⟩, q⟩ := h
    refine ⟨_, (pss_cons (ps_set (i := 2) sc_reach_of.nd rfl (Or.inl rfl) (pv 1))
  (pss_cons (ps_for PassesOwn.never rfl (pi_listK (K := K) (pe_revLK (K := K) (pv 0))) (pg_name (i := 3) sc_reach_of.nd rfl (Or.inl rfl))
   (pss_one (ps_set (i := 2) sc_reach_of.nd rfl (Or.inl rfl) (pe_c c_reach_before hr (by first | decide | omega) (by rfl) (pa_cons (pv 2) (pa_cons (pv 3) pa_nil))))))
  (pss_one (ps_ret (pv 2))))), ?_⟩
    walk_at "sq go"
    intro t nt
    have sm := same_new (o := .lst (iv ns).reverse) nt
    have ht : SqL K (upd H t (.lst (iv ns).reverse)) t (iv ns.reverse) := by
      have e : iv ns.reverse = (iv ns).reverse := List.map_reverse ..
      rw [e]
      exact seqL_of upd_same
    walk_at "sq go"
    refine for_list (K := K) (a := t) (xs := iv ns.reverse) (fun i σ H' => Keep (∃ y, σ = [some (.ref p), some (.int m), some (.int ((ns.reverse.take i).foldl rb m)), y] ∧ H' = upd H t (.lst (iv ns).reverse))) ⟨none, rfl, rfl⟩ (fun i σ H' _ h => ?_) (fun i x σ H' hx h => ?_) (fun σ H' h => ?_)
    · obtain ⟨_, _, rfl⟩ := h.o
      exact ht
    · obtain ⟨y, rfl, rfl⟩ := h.o
      obtain ⟨k, hk, rfl⟩ := iv_get hx
      have mk : k ∈ ns := List.mem_reverse.mp (List.mem_of_getElem? hk)
      have tk : Two (ns.reverse.take i) := fun j hj => h2 j (List.mem_reverse.mp (List.mem_of_mem_take hj))
      have len : (ns.reverse.take i).length ≤ ns.length := by
        rw [List.length_take, List.length_reverse]
        omega
      have sR := rbs_Sm hm tk (fun j hj => hb j (List.mem_reverse.mp (List.mem_of_mem_take hj))) hc h10
      have sz : c + (ns.reverse.take i).length * b + b ≤ 900000 := by
        have := Nat.mul_le_mul_right b len
        rw [Nat.add_mul] at hz
        omega
      walk_at "sq go"
      refine ⟨⟨_, b, by have := rbs_pos hm tk; omega, h2 k mk, sR, hb k mk, by omega, h10, sz⟩, ?_⟩
      exact ⟨_, by rw [foldr_take_rev hk]; rfl, rfl⟩
    · obtain ⟨y, rfl, rfl⟩ := h.o
      have e : (iv ns.reverse).length = ns.reverse.length := iv_len _
      rw [e, List.take_length, reachOf_rev]
      walk_at "sq go"
      exact q _ sm
abbrev s_reach : Stmt := topS 11
theorem sc_reach : FnScope ["replacements", "most"] ["replacements", "most"] (defScope s_reach) := ⟨rfl, rfl, rfl, by decide +kernel, rfl, by decide +kernel, by decide +kernel⟩

def spReach (K : PySem.W.Frag) : Sp := fun vs H Q _ => ∃ (p : Addr) (ns : List Int) (m : Int), vs = [.ref p, .int m] ∧ SqL K H p (iv ns) ∧ Keep (Two ns ∧ 1 ≤ m ∧ Fit ns m) ∧ ∀ H', Same H H' → Q (.int (reachOf ns m)) H'
theorem ok_reach {f : Addr} {fd : FuncData} (F : FunD K "reach" "reach" (defArgs s_reach) (defBody s_reach) (defScope s_reach) [.int 1] [] f fd) (B : Bt mg) (c_check_list : Cal P w K mg base 1 "check_list" (spCheckList K) [])
    (c_check_most : Cal P w K mg base 1 "check_most" spCheckMost []) (c_reach_of : Cal P w K mg base 2 "reach_of" (spReachOf K) []) : FnOk P w K mg base CX0 3 f fd ["replacements", "most"] (spReach K) := by
  refine F.ok sc_reach (fun vs H Q E h => ?_) (fun cdv A outer s H vs Q E hr h => ?_)
  · obtain ⟨p, ns, m, rfl, _⟩ := h
    rfl
  · obtain ⟨p, ns, m, rfl, hS, ⟨h2, hm, hf⟩, q⟩ := h
    refine ⟨_, (PSs.nox (pss_cons (ps_expr (pe_c c_check_list hr (by first | decide | omega) (by rfl) (pa_cons (pv 0) pa_nil)))
  (pss_cons (ps_expr (pe_c c_check_most hr (by first | decide | omega) (by rfl) (pa_cons (pv 1) pa_nil)))
  (pss_one (ps_ret (pe_c c_reach_of hr (by first | decide | omega) (by rfl) (pa_cons (pv 0) (pa_cons (pv 1) pa_nil)))))))), ?_⟩
    walk_at "sq go"
    refine ⟨⟨h2⟩, fun H1 s1 => ?_⟩
    walk_at "sq go"
    refine ⟨⟨hm⟩, ?_⟩
    walk_at "sq go"
    exact ⟨⟨h2, hm, hf⟩, fun H2 s2 => q H2 (s1.trans s2)⟩

/-! ### the source of draws (a list: great cells, the digits left, a mix, a count) -/
def RB (r d : Addr) (N : Int) (ds : List Int) (a mix n : Int) (H : Hp) : Prop :=
  H r = some (.lst [.ref d, .int a, .int mix, .int n]) ∧ H d = some (.lst (iv ds)) ∧ d ≠ r ∧ 0 ≤ mix ∧ mix < 2305843009213693952 ∧ 0 ≤ n ∧ n ≤ N
def rgB (r d : Addr) (N : Int) : Rg where
  I := fun H => ∃ ds a mix n, RB r d N ds a mix n H
  S := fun x => x = r ∨ x = d
  loc := fun H H' e ⟨ds, a, mix, n, h1, h2, h3⟩ => ⟨ds, a, mix, n, (e r (.inl rfl)).trans h1, (e d (.inr rfl)).trans h2, h3⟩
  has := fun H x ⟨ds, a, mix, n, h1, h2, _⟩ hx => by
    rcases hx with rfl | rfl
    · rw [h1]; exact fun z => nomatch z
    · rw [h2]; exact fun z => nomatch z
/-- the source is drawn from: all else stands -/
theorem SepB.redo {r d : Addr} {N N' : Int} {G H H' : Hp} (s : Sep (rgB r d N) G H) (e : ∀ b o, b ≠ r → b ≠ d → H b = some o → H' b = some o) (h : ∃ ds a mix n, RB r d N' ds a mix n H') : Sep (rgB r d N') G H' := by
  refine ⟨h, fun b o q => ?_, s.off⟩
  have nr : b ≠ r := fun z => by
    have := s.off b (.inl z)
    rw [q] at this
    cases this
  have nd : b ≠ d := fun z => by
    have := s.off b (.inr z)
    rw [q] at this
    cases this
  exact e b o nr nd (s.same b o q)
theorem SepB.mono {r d : Addr} {N N' : Int} {G H : Hp} (s : Sep (rgB r d N) G H) (h : N ≤ N') : Sep (rgB r d N') G H := by
  obtain ⟨ds, a, mix, n, h1, h2, h3, h4, h5, h6, h7⟩ := s.inv
  exact SepB.redo s (fun _ _ _ _ z => z) ⟨ds, a, mix, n, h1, h2, h3, h4, h5, h6, by omega⟩
abbrev s_law_source : Stmt := topS 13
theorem sc_law_source : FnScope ["script", "mix", "digits", "cell", "span"] ["script"] (defScope s_law_source) := ⟨rfl, rfl, rfl, by decide +kernel, rfl, by decide +kernel, by decide +kernel⟩

def spSource (K : PySem.W.Frag) : Sp := fun vs H Q _ => ∃ (p : Addr) (ns : List Int), vs = [.ref p] ∧ SqL K H p (iv ns) ∧ ns.length ≤ 63 ∧ ∀ r d H', Same H H' → Sep (rgB r d 0) H H' → Q (.ref r) H'
theorem cal_source (D : DefAt K mg "_law_source" s_law_source ["script"]) (B : Bt mg) : Cal P w K mg base 1 "_law_source" (spSource K) [] := by
  refine D.cal sc_law_source (fun vs H Q E h => ?_) (fun f cdv A outer s H vs Q E hr h => ?_)
  · obtain ⟨p, ns, rfl, _⟩ := h
    rfl
  · obtain ⟨p, ns, rfl, hS, hl, q⟩ := h
    refine ⟨_, (pss_cons (ps_set (i := 1) sc_law_source.nd rfl (Or.inl rfl) pe_int)
  (pss_cons (ps_set (i := 2) sc_law_source.nd rfl (Or.inl rfl) (pe_lst pa_nil))
  (pss_cons (ps_for PassesOwn.never rfl (pi_listK (K := K) (pv 0)) (pg_name (i := 3) sc_law_source.nd rfl (Or.inl rfl))
   (pss_cons (ps_set (i := 1) sc_law_source.nd rfl (Or.inl rfl) (pe_op op_mod (pe_op op_add (pe_op op_mulW (pv 1) pe_int) (pv 3)) (pe_op op_sub (pe_op op_powW pe_int pe_int) pe_int)))
  (pss_cons (ps_set (i := 4) sc_law_source.nd rfl (Or.inl rfl) (pe_callB (call_max2 rfl) (by rfl) B.max (by decide +kernel) (pa_cons (pv 3) (pa_cons (pe_op op_sub pe_int (pv 3)) pa_nil))))
  (pss_one (ps_if (pt_cmpR op_ge (pv 4) (pe_op op_powW pe_int pe_int) (nomark _)) (pss_one (ps_expr (pe_bm PySem.F.plainAttrs_list PySem.F.slot_list_append PySem.F.type_list_append mt_append (pv 2) (pa_cons (pe_op op_sub (pv 4) (pe_op op_powW pe_int pe_int)) pa_nil)))) pss_nil)))))
  (pss_one (ps_ret (pe_lst (pa_cons (pv 2) (pa_cons pe_int (pa_cons (pv 1) (pa_cons pe_int pa_nil)))))))))), ?_⟩
    walk_at "sq go"
    intro d nd
    have s1 : Same H (upd H d (.lst [])) := same_new nd
    have npd : ∀ H' : Hp, Same H H' → SqL K H' p (iv ns) := fun H' s => s.seq hS
    walk_at "sq go"
    refine for_list (K := K) (a := p) (xs := iv ns) (fun i σ H' => Keep (∃ ds mix y z, σ = [some (.ref p), some (.int mix), some (.ref d), y, z] ∧ H' = upd H d (.lst (iv ds)) ∧ ds.length ≤ i ∧ 0 ≤ mix ∧ mix < 2305843009213693952))
      ⟨[], 271828182845904, none, none, rfl, rfl, Nat.le_refl _, by decide, by decide⟩ (fun i σ H' _ h => ?_) (fun i x σ H' hx h => ?_) (fun σ H' h => ?_)
    · obtain ⟨ds, mix, y, z, _, rfl, _⟩ := h.o
      exact npd _ (same_new nd)
    · obtain ⟨ds, mix, y, z, rfl, rfl, hds, h0, h1⟩ := h.o
      obtain ⟨n, hn, rfl⟩ := iv_get hx
      have hi : i < ns.length := (List.getElem?_eq_some_iff.mp hn).1
      have hm : CMulW mix 1000033 := Sm.wide (a := 61) (b := 20) (by unfold Sm; omega) (by unfold Sm; decide) (by decide) (by decide) (by decide)
      have e61 : (2 : Int) ^ (61 : Int).toNat - 1 = 2305843009213693951 := by decide
      walk_at "sq go"
      have m0 := Int.emod_nonneg (mix * 1000033 + n) (show (2 : Int) ^ (61 : Int).toNat - 1 ≠ 0 by rw [e61]; decide)
      have m1 := Int.emod_lt_of_pos (mix * 1000033 + n) (show 0 < (2 : Int) ^ (61 : Int).toNat - 1 by rw [e61]; decide)
      rw [e61] at m1
      refine ifD (fun c => ?_) (fun c => ?_)
      · walk_at "sq go"
        rw [upd_upd, iv_app]
        exact ⟨_, _, _, _, rfl, rfl, by rw [List.length_append, List.length_singleton]; omega, m0, by rw [e61]; omega⟩
      · exact ⟨ds, _, _, _, rfl, rfl, by omega, m0, by rw [e61]; omega⟩
    · obtain ⟨ds, mix, y, z, rfl, rfl, hds, h0, h1⟩ := h.o
      walk_at "sq go"
      intro r nr
      have ndr : d ≠ r := fun e => by
        rw [← e, upd_same] at nr
        cases nr
      have s2 : Same H (upd H d (.lst (iv ds))) := same_new nd
      refine q r d _ (s2.trans (same_new nr)) ⟨⟨ds, 0, mix, 0, upd_same, by rw [upd_ne ndr, upd_same], ndr, h0, by omega, by decide, by decide⟩, s2.trans (same_new nr), fun a ha => ?_⟩
      rcases ha with rfl | rfl
      · exact s2.free nr
      · exact nd

abbrev s_law_draw : Stmt := topS 14
theorem sc_law_draw : FnScope ["source", "many", "drawn", "mixed"] ["source", "many"] (defScope s_law_draw) := ⟨rfl, rfl, rfl, by decide +kernel, rfl, by decide +kernel, by decide +kernel⟩

def spDraw : Sp := fun vs H Q _ => ∃ (r d : Addr) (m N : Int) (G : Hp), vs = [.ref r, .int m] ∧ Sep (rgB r d N) G H ∧ Keep (0 < m ∧ m < 2 ^ 240 ∧ N < 2 ^ 60) ∧ ∀ v H', 0 ≤ v → v < m → Sep (rgB r d (N + 1)) G H' → Q (.int v) H'
theorem cal_draw (D : DefAt K mg "_law_draw" s_law_draw ["source", "many"]) (B : Bt mg) : Cal P w K mg base 1 "_law_draw" spDraw [] := by
  refine D.cal sc_law_draw (fun vs H Q E h => ?_) (fun f cdv A outer s H vs Q E hr h => ?_)
  · obtain ⟨r, d, m, N, G, rfl, _⟩ := h
    rfl
  · obtain ⟨r, d, m, N, G, rfl, hS, ⟨hm, hmb, hN⟩, q⟩ := h
    have hmz : m.natAbs.log2 < 9000 := Nat.lt_trans ((show Sm 240 m by unfold Sm; omega).lg (by decide)) (by decide)
    obtain ⟨ds0, a0, mix, n, hr0, hd0, ndr, h0, h1, n0, n1⟩ := id hS.inv
    refine ⟨_, (pss_cons (ps_while PassesOwn.never (PW.pt (pw_and (pt_cmpR op_lt (pe_ix (ix_listK (K := K)) (pv 0) pe_int (fun _ _ => rfl)) pe_int (nomark _)) (pw_and1 (pt_cmpR (op_neDK (K := K) hr.units) (pe_ix (ix_listK (K := K)) (pv 0) pe_int (fun _ _ => rfl)) (pe_lst pa_nil) (nomark _)))))
   (pss_one (ps_asg (pe_bm PySem.F.plainAttrs_list PySem.F.slot_list_pop PySem.F.type_list_pop mt_popAt (pe_ix (ix_listK (K := K)) (pv 0) pe_int (fun _ _ => rfl)) (pa_cons pe_int pa_nil)) (pg_sub (pv 0) pe_int set_list))))
  (pss_cons (ps_if (pt_cmpR op_ge (pe_ix (ix_listK (K := K)) (pv 0) pe_int (fun _ _ => rfl)) pe_int (nomark _)) (pss_cons (ps_set (i := 2) sc_law_draw.nd rfl (Or.inl rfl) (pe_op op_mod (pe_ix (ix_listK (K := K)) (pv 0) pe_int (fun _ _ => rfl)) (pv 1)))
  (pss_cons (ps_asg (pe_op op_fdivW (pe_ix (ix_listK (K := K)) (pv 0) pe_int (fun _ _ => rfl)) (pv 1)) (pg_sub (pv 0) pe_int set_list))
  (pss_one (ps_ret (pv 2))))) pss_nil)
  (pss_cons (ps_asg (pe_op op_add (pe_ix (ix_listK (K := K)) (pv 0) pe_int (fun _ _ => rfl)) pe_int) (pg_sub (pv 0) pe_int set_list))
  (pss_cons (ps_set (i := 3) sc_law_draw.nd rfl (Or.inl rfl) (pe_op op_mulW (pe_op op_add (pe_ix (ix_listK (K := K)) (pv 0) pe_int (fun _ _ => rfl)) pe_int) (pe_op op_powW (pe_op op_add (pe_ix (ix_listK (K := K)) (pv 0) pe_int (fun _ _ => rfl)) pe_int) pe_int)))
  (pss_cons (ps_set (i := 3) sc_law_draw.nd rfl (Or.inl rfl) (pe_op op_mod (pe_op op_add (pv 3) (pe_op op_mulW pe_int (pe_ix (ix_listK (K := K)) (pv 0) pe_int (fun _ _ => rfl)))) (pe_op op_sub (pe_op op_powW pe_int pe_int) pe_int)))
  (pss_one (ps_ret (pe_op op_mod (pe_op op_fdivW (pe_op op_mod (pe_op op_powW (pv 3) pe_int) (pe_op op_add (pe_op op_powW pe_int pe_int) pe_int)) pe_int) (pv 1))))))))), ?_⟩
    refine ⟨fun k σ H' => Keep (∃ ds a, σ = [some (.ref r), some (.int m), none, none] ∧ k = ds.length ∧ RB r d N ds a mix n H' ∧ ∀ b o, b ≠ r → b ≠ d → H b = some o → H' b = some o), ⟨_, ds0, a0, rfl, rfl, ⟨hr0, hd0, ndr, h0, h1, n0, n1⟩, fun _ _ _ _ z => z⟩, fun k σ H' h => ?_⟩
    obtain ⟨ds, a, rfl, rfl, ⟨gr, gd, _⟩, ge⟩ := h.o
    clear h
    have cm : CDivW a m := ⟨hm, hmz⟩
    have p3 : CPowW (n + 1 + 3) 3 := ⟨by decide, by decide, Nat.lt_trans ((show Sm 61 (n + 1 + 3) by unfold Sm; omega).lg (by decide)) (by decide)⟩
    have m3 : CMulW (mix + 7) ((n + 1 + 3) ^ (3 : Int).toNat) := by
      have e1 : Sm 62 (mix + 7) := by unfold Sm; omega
      have e2 : Sm 61 (n + 1 + 3) := by unfold Sm; omega
      have e3 : (n + 1 + 3) ^ (3 : Int).toNat = (n + 1 + 3) * (n + 1 + 3) * (n + 1 + 3) := by
        show (n + 1 + 3) ^ 3 = _
        rw [Int.pow_succ, Int.pow_succ, Int.pow_succ, Int.pow_zero, Int.one_mul]
      rw [e3]
      exact e1.wide ((e2.mul e2).mul e2) (by decide) (by decide) (by decide)
    have m4 : CMulW 1000081 (n + 1) := Sm.wide (a := 20) (b := 61) (by unfold Sm; decide) (by unfold Sm; omega) (by decide) (by decide) (by decide)
    have e61 : (2 : Int) ^ (61 : Int).toNat - 1 = 2305843009213693951 := by decide
    have p5 : CPowW (((mix + 7) * (n + 1 + 3) ^ (3 : Int).toNat + 1000081 * (n + 1)) % (2 ^ (61 : Int).toNat - 1)) 5 := by
      rw [e61]
      generalize (mix + 7) * (n + 1 + 3) ^ (3 : Int).toNat + 1000081 * (n + 1) = y
      exact ⟨by decide, by decide, Nat.lt_trans ((show Sm 61 (y % 2305843009213693951) by unfold Sm; omega).lg (by decide)) (by decide)⟩
    walk_at "sq go"
    refine ifD (fun c => ?_) (fun c => ?_)
    · walk_at "sq go"
      intro e ne
      refine r_neI (xs := ds) (ys := []) (by walk_at "sq sql") (by walk_at "sq sql") ?_
      walk_at "sq go"
      have ge2 : ∀ b o, b ≠ r → b ≠ d → H b = some o → upd H' e (.lst []) b = some o := fun b o h1 h2 z => upd_keep ne (ge b o h1 h2 z)
      have gr2 := upd_keep (o := .lst []) ne gr
      have gd2 := upd_keep (o := .lst []) ne gd
      generalize upd H' e (.lst []) = H2 at ge2 gr2 gd2
      clear ge gr gd ne
      refine ifN (fun c2 => ?_) (fun c2 => ?_)
      · obtain ⟨x, rest, rfl⟩ : ∃ x rest, ds = x :: rest := by
          cases ds with
          | nil => exact absurd rfl c2
          | cons x rest => exact ⟨x, rest, rfl⟩
        refine ⟨fun σ' H3 => Keep (σ' = [some (.ref r), some (.int m), none, none] ∧ RB r d N rest x mix n H3 ∧ ∀ b o, b ≠ r → b ≠ d → H b = some o → H3 b = some o), fun σ' H3 h3 => ?_, ?_⟩
        · obtain ⟨e1, e2, e3⟩ := h3.o
          exact ⟨rest.length, by rw [List.length_cons]; omega, rest, x, e1, rfl, e2, e3⟩
        · walk_at "sq go"
          refine ⟨seqIx0 (by simp), ?_⟩
          walk_at "sq go"
          exact ⟨rfl, ⟨upd_same, by rw [upd_ne ndr, upd_same]; rfl, ndr, h0, h1, n0, n1⟩, fun b o k1 k2 z => upd_off k1 (upd_off k2 (ge2 b o k1 k2 z))⟩
      · have gd := gd2
        have gr := gr2
        have ge := ge2
        walk_at "sq go"
        refine ifD (fun c4 => ?_) (fun c4 => ?_)
        · walk_at "sq go"
          have v0 := Int.emod_nonneg a (show m ≠ 0 by omega)
          have v1 := Int.emod_lt_of_pos a hm
          refine q _ _ v0 v1 (SepB.redo hS (fun b o k1 k2 z => upd_off k1 (ge b o k1 k2 z)) ⟨ds, a / m, mix, n, upd_same, ?_, ndr, h0, h1, n0, by omega⟩)
          rw [upd_ne ndr]
          exact gd
        · walk_at "sq go"
          have v0 : ∀ y : Int, 0 ≤ y % m := fun y => Int.emod_nonneg y (show m ≠ 0 by omega)
          have v1 : ∀ y : Int, y % m < m := fun y => Int.emod_lt_of_pos y hm
          refine q _ _ (v0 _) (v1 _) ?_
          refine SepB.redo hS (fun b o k1 k2 z => upd_off k1 (ge b o k1 k2 z)) ⟨ds, a, mix, n + 1, upd_same, ?_, ndr, h0, h1, by omega, by omega⟩
          rw [upd_ne ndr]
          exact gd
    · skip
      walk_at "sq go"
      refine ifD (fun c4 => ?_) (fun c4 => ?_)
      · walk_at "sq go"
        have v0 := Int.emod_nonneg a (show m ≠ 0 by omega)
        have v1 := Int.emod_lt_of_pos a hm
        refine q _ _ v0 v1 (SepB.redo hS (fun b o k1 k2 z => upd_off k1 (ge b o k1 k2 z)) ⟨ds, a / m, mix, n, upd_same, ?_, ndr, h0, h1, n0, by omega⟩)
        rw [upd_ne ndr]
        exact gd
      · walk_at "sq go"
        have v0 : ∀ y : Int, 0 ≤ y % m := fun y => Int.emod_nonneg y (show m ≠ 0 by omega)
        have v1 : ∀ y : Int, y % m < m := fun y => Int.emod_lt_of_pos y hm
        refine q _ _ (v0 _) (v1 _) ?_
        refine SepB.redo hS (fun b o k1 k2 z => upd_off k1 (ge b o k1 k2 z)) ⟨ds, a, mix, n + 1, upd_same, ?_, ndr, h0, h1, by omega, by omega⟩
        rw [upd_ne ndr]
        exact gd

abbrev s_law_row : Stmt := topS 18
theorem sc_law_row : FnScope ["source", "many", "wide", "way", "again", "found", "time", "some"] ["source", "many", "wide"] (defScope s_law_row) := ⟨rfl, rfl, rfl, by decide +kernel, rfl, by decide +kernel, by decide +kernel⟩

/-- replacements from 2 to wide -/
def Row (ns : List Int) (wide : Int) : Prop := ∀ k ∈ ns, (2 : Int) ≤ k ∧ k ≤ wide
def spRow : Sp := fun vs H Q _ => ∃ (r d : Addr) (many wide N : Int) (G : Hp), vs = [.ref r, .int many, .int wide] ∧ Sep (rgB r d N) G H ∧ Keep (0 ≤ many ∧ many ≤ 100 ∧ 2 ≤ wide ∧ wide < 2 ^ 100 ∧ N < 2 ^ 59) ∧
  ∀ p ns H', G p = none → ns.length ≤ many.toNat → Row ns wide → Sep (rgB r d (N + 203)) (upd G p (.lst (iv ns))) H' → Q (.ref p) H'
theorem cal_row (D : DefAt K mg "_law_row" s_law_row ["source", "many", "wide"]) (B : Bt mg) (c_law_draw : Cal P w K mg base 1 "_law_draw" spDraw []) : Cal P w K mg base 2 "_law_row" spRow [] := by
  refine D.cal sc_law_row (fun vs H Q E h => ?_) (fun f cdv A outer s H vs Q E hr h => ?_)
  · obtain ⟨r, d, many, wide, N, G, rfl, _⟩ := h
    rfl
  · obtain ⟨r, d, many, wide, N, G, rfl, hS, ⟨m0, m1, w2, wb, hN⟩, q⟩ := h
    refine ⟨_, (pss_cons (ps_par (i := 3) (j := 4) rfl sc_law_row.nd rfl rfl (by decide) rfl rfl (pa_cons (pe_c c_law_draw hr (by first | decide | omega) (by rfl) (pa_cons (pv 0) (pa_cons pe_int pa_nil))) (pa_cons (pe_op op_add pe_int (pe_c c_law_draw hr (by first | decide | omega) (by rfl) (pa_cons (pv 0) (pa_cons (pe_op op_sub (pv 2) pe_int) pa_nil)))) pa_nil)) (by rfl))
  (pss_cons (ps_set (i := 5) sc_law_row.nd rfl (Or.inl rfl) (pe_lst pa_nil))
  (pss_cons (ps_for PassesOwn.never rfl (pi_range1 (by rfl) B.range (pa_cons (pe_c c_law_draw hr (by first | decide | omega) (by rfl) (pa_cons (pv 0) (pa_cons (pe_op op_add (pv 1) pe_int) pa_nil))) pa_nil)) (pg_name (i := 6) sc_law_row.nd rfl (Or.inl rfl))
   (pss_cons (ps_set (i := 7) sc_law_row.nd rfl (Or.inl rfl) (pe_lst (pa_cons (pe_op op_add pe_int (pe_c c_law_draw hr (by first | decide | omega) (by rfl) (pa_cons (pv 0) (pa_cons (pe_op op_sub (pv 2) pe_int) pa_nil)))) (pa_cons (pe_op op_add pe_int (pe_c c_law_draw hr (by first | decide | omega) (by rfl) (pa_cons (pv 0) (pa_cons (pe_callB (call_min2 rfl) (by rfl) B.min (by decide +kernel) (pa_cons pe_int (pa_cons (pe_op op_sub (pv 2) pe_int) pa_nil))) pa_nil)))) (pa_cons (pv 4) pa_nil)))))
  (pss_one (ps_expr (pe_bm PySem.F.plainAttrs_list PySem.F.slot_list_append PySem.F.type_list_append mt_append (pv 5) (pa_cons (pe_ix (ix_listK (K := K)) (pv 7) (pv 3) (fun _ _ => rfl)) pa_nil))))))
  (pss_one (ps_ret (pv 5)))))), ?_⟩
    walk_at "sq go"
    refine ⟨⟨by omega, by omega, by omega⟩, fun way H1 y0 y1 hS1 => ?_⟩
    walk_at "sq go"
    refine ⟨⟨by omega, by omega, by omega⟩, fun ag H2 a0 a1 hS2 => ?_⟩
    walk_at "sq go"
    intro p np
    have gp : G p = none := hS2.free np
    have hS3 := hS2.new np (.lst [])
    walk_at "sq go"
    refine ⟨⟨by omega, by omega, by omega⟩, fun tn H3 t0 t1 hS4 => ?_⟩
    walk_at "sq go"
    refine for_range (lo := 0) (n := tn.toNat) (fun i σ H' => Keep (∃ ns x y, σ = [some (.ref r), some (.int many), some (.int wide), some (.int way), some (.int (2 + ag)), some (.ref p), x, y] ∧ Sep (rgB r d (N + 3 + 2 * i)) (upd G p (.lst (iv ns))) H' ∧ ns.length = i ∧ Row ns wide))
      ⟨[], none, none, rfl, SepB.mono hS4 (by omega), rfl, fun _ z => nomatch z⟩ (fun i σ H' hi h => ?_) (fun σ H' h => ?_)
    · obtain ⟨ns, x, y, rfl, hs, hl, hrow⟩ := h.o
      walk_at "sq go"
      refine ⟨⟨by omega, by omega, by omega⟩, fun b1 K1 b10 b11 hs1 => ?_⟩
      walk_at "sq go"
      refine ⟨⟨by split <;> omega, by split <;> omega, by omega⟩, fun b2 K2 b20 b21 hs2 => ?_⟩
      walk_at "sq go"
      intro e ne
      have hs3 := hs2.on (same_new (o := .lst [.int (2 + b1), .int (2 + b2), .int (2 + ag)]) ne)
      have hb2 : 2 + b2 ≤ wide := by
        split at b21 <;> omega
      have pick : ∃ v, atI [V.int (2 + b1), V.int (2 + b2), V.int (2 + ag)] way = some (.int v) ∧ 2 ≤ v ∧ v ≤ wide := by
        rcases (show way = 0 ∨ way = 1 ∨ way = 2 by omega) with z | z | z <;> rw [z]
        · exact ⟨_, atI_nat (j := 0) rfl, by omega, by omega⟩
        · exact ⟨_, atI_nat (j := 1) rfl, by omega, by omega⟩
        · exact ⟨_, atI_nat (j := 2) rfl, by omega, by omega⟩
      obtain ⟨v, ev, v2, vw⟩ := pick
      have hp : upd K2 e (.lst [.int (2 + b1), .int (2 + b2), .int (2 + ag)]) p = some (.lst (iv ns)) := hs3.get upd_same
      have hs4 := hs3.put upd_same (.lst (iv ns ++ [.int v]))
      rw [upd_upd, iv_app] at hs4
      walk_at "sq go"
      refine ⟨ns ++ [v], _, _, rfl, ?_, by simp [hl], fun k hk => ?_⟩
      · rw [iv_app]
        exact SepB.mono hs4 (by omega)
      · rcases List.mem_append.mp hk with z | z
        · exact hrow k z
        · rw [List.mem_singleton.mp z]
          exact ⟨v2, vw⟩
    · obtain ⟨ns, x, y, rfl, hs, hl, hrow⟩ := h.o
      walk_at "sq go"
      exact q p ns H' gp (by omega) hrow (SepB.mono hs (by omega))

abbrev s_law_once : Stmt := topS 16
theorem sc_law_once : FnScope ["run", "one"] ["run", "one"] (defScope s_law_once) := ⟨rfl, rfl, rfl, by decide +kernel, rfl, by decide +kernel, by decide +kernel⟩

def spOnce : Sp := fun vs H Q _ => ∃ n k : Int, vs = [.int n, .int k] ∧ Keep (2 ≤ k ∧ k < 2 ^ 240) ∧ Q (.int (once n k)) H
theorem div_ok {i k : Int} (h : 0 < k) (h2 : k < 2 ^ 240) : CDivW i k := ⟨h, Nat.lt_trans ((show Sm 240 k by unfold Sm; omega).lg (by decide)) (by decide)⟩
theorem cal_once (D : DefAt K mg "_law_once" s_law_once ["run", "one"]) (B : Bt mg) : Cal P w K mg base 1 "_law_once" spOnce [] := by
  refine D.cal sc_law_once (fun vs H Q E h => ?_) (fun f cdv A outer s H vs Q E hr h => ?_)
  · obtain ⟨n, k, rfl, _⟩ := h
    rfl
  · obtain ⟨n, k, rfl, ⟨h2, hb⟩, q⟩ := h
    refine ⟨_, (pss_one (ps_ret (pe_op op_add (pe_op op_fdivW (pv 0) (pv 1)) (pe_op op_mod (pv 0) (pv 1))))), ?_⟩
    have c : CDivW n k := div_ok (by omega) hb
    walk_at "sq go"
    exact q
abbrev s_law_squeezed : Stmt := topS 17
theorem sc_law_squeezed : FnScope ["run", "row", "one"] ["run", "row"] (defScope s_law_squeezed) := ⟨rfl, rfl, rfl, by decide +kernel, rfl, by decide +kernel, by decide +kernel⟩

def Mid (ns : List Int) : Prop := ∀ k ∈ ns, (2 : Int) ≤ k ∧ k < 2 ^ 240
theorem Mid.two {ns : List Int} (h : Mid ns) : Two ns := fun k hk => (h k hk).1
theorem sqz_take {row : List Int} {n k : Int} {i : Nat} (h : row[i]? = some k) : sqz n (row.take (i + 1)) = once (sqz n (row.take i)) k := by
  rw [List.take_add_one, h]
  exact sqz_snoc _ _ _
def spSqueezed (K : PySem.W.Frag) : Sp := fun vs H Q _ => ∃ (n : Int) (p : Addr) (ns : List Int), vs = [.int n, .ref p] ∧ SqL K H p (iv ns) ∧ Keep (Mid ns) ∧ Q (.int (sqz n ns)) H
theorem cal_squeezed (D : DefAt K mg "_law_squeezed" s_law_squeezed ["run", "row"]) (B : Bt mg) (c_law_once : Cal P w K mg base 1 "_law_once" spOnce []) : Cal P w K mg base 2 "_law_squeezed" (spSqueezed K) [] := by
  refine D.cal sc_law_squeezed (fun vs H Q E h => ?_) (fun f cdv A outer s H vs Q E hr h => ?_)
  · obtain ⟨n, p, ns, rfl, _⟩ := h
    rfl
  · obtain ⟨n, p, ns, rfl, hS, ⟨hm⟩, q⟩ := h
    refine ⟨_, (pss_cons (ps_for PassesOwn.never rfl (pi_listK (K := K) (pv 1)) (pg_name (i := 2) sc_law_squeezed.nd rfl (Or.inl rfl))
   (pss_one (ps_set (i := 0) sc_law_squeezed.nd rfl (Or.inl rfl) (pe_c c_law_once hr (by first | decide | omega) (by rfl) (pa_cons (pv 0) (pa_cons (pv 2) pa_nil))))))
  (pss_one (ps_ret (pv 0)))), ?_⟩
    walk_at "sq go"
    refine for_list (K := K) (a := p) (xs := iv ns) (fun i σ H' => Keep (∃ x, σ = [some (.int (sqz n (ns.take i))), some (.ref p), x] ∧ H' = H)) ⟨none, rfl, rfl⟩ (fun i σ H' _ h => ?_) (fun i x σ H' hx h => ?_) (fun σ H' h => ?_)
    · obtain ⟨x, _, rfl⟩ := h.o
      exact hS
    · obtain ⟨x, rfl, rfl⟩ := h.o
      obtain ⟨k, hk, rfl⟩ := iv_get hx
      walk_at "sq go"
      refine ⟨⟨hm k (List.mem_of_getElem? hk)⟩, ?_⟩
      exact ⟨_, by rw [sqz_take hk]; rfl, rfl⟩
    · obtain ⟨x, rfl, rfl⟩ := h.o
      have e : (iv ns).length = ns.length := iv_len _
      rw [e, List.take_length]
      walk_at "sq go"
      exact q

abbrev s_law_reach : Stmt := topS 20
theorem sc_law_reach : FnScope ["row", "goal", "run"] ["row", "goal"] (defScope s_law_reach) := ⟨rfl, rfl, rfl, by decide +kernel, rfl, by decide +kernel, by decide +kernel⟩

def spTry (K : PySem.W.Frag) : Sp := fun vs H Q _ => ∃ (p : Addr) (ns : List Int) (m : Int), vs = [.ref p, .int m] ∧ SqL K H p (iv ns) ∧ Keep (Mid ns ∧ 1 ≤ m) ∧ Q (.int (reachOf ns m)) H
theorem cal_try (D : DefAt K mg "_law_reach" s_law_reach ["row", "goal"]) (B : Bt mg) (c_law_squeezed : Cal P w K mg base 2 "_law_squeezed" (spSqueezed K) []) : Cal P w K mg base 3 "_law_reach" (spTry K) [] := by
  refine D.cal sc_law_reach (fun vs H Q E h => ?_) (fun f cdv A outer s H vs Q E hr h => ?_)
  · obtain ⟨p, ns, m, rfl, _⟩ := h
    rfl
  · obtain ⟨p, ns, m, rfl, hS, ⟨hm, h1⟩, q⟩ := h
    refine ⟨_, (pss_cons (ps_set (i := 2) sc_law_reach.nd rfl (Or.inl rfl) pe_int)
  (pss_cons (ps_while PassesOwn.never (pt_cmpR op_le (pe_c c_law_squeezed hr (by first | decide | omega) (by rfl) (pa_cons (pv 2) (pa_cons (pv 0) pa_nil))) (pv 1) (nomark _))
   (pss_one (ps_set (i := 2) sc_law_reach.nd rfl (Or.inl rfl) (pe_op op_add (pv 2) pe_int))))
  (pss_one (ps_ret (pe_op op_sub (pv 2) pe_int))))), ?_⟩
    walk_at "sq go"
    have rp := reach_pos h1 hm.two
    refine ⟨fun k σ H' => Keep (∃ n : Int, σ = [some (.ref p), some (.int m), some (.int n)] ∧ H' = H ∧ 0 ≤ n ∧ (k : Int) = reachOf ns m + 2 - n ∧ n ≤ reachOf ns m + 1 ∧ ∀ j, 0 ≤ j → j < n → sqz j ns ≤ m), ⟨(reachOf ns m + 2).toNat, 0, rfl, rfl, by omega, by omega, by omega, fun j a b => by omega⟩, fun k σ H' h => ?_⟩
    obtain ⟨n, rfl, rfl, n0, ek, hn, ha⟩ := h.o
    walk_at "sq go"
    refine ⟨⟨hm⟩, ?_⟩
    walk_at "sq go"
    refine ifD (fun c => ?_) (fun c => ?_)
    · refine ⟨fun σ' H2 => Keep (σ' = [some (.ref p), some (.int m), some (.int (n + 1))] ∧ H2 = H'), fun σ' H2 h2 => ?_, ?_⟩
      · obtain ⟨e1, e2⟩ := h2.o
        have hne : n ≠ reachOf ns m + 1 := fun z => by
          rw [z, reach_next h1 hm.two] at c
          omega
        refine ⟨k - 1, by omega, n + 1, e1, e2, by omega, by omega, by omega, fun j a b => ?_⟩
        rcases Int.lt_or_eq_of_le (show j ≤ n by omega) with z | z
        · exact ha j a z
        · rw [z]
          exact c
      · walk_at "sq go"
        exact ⟨rfl, rfl⟩
    · have e := reach_is h1 hm.two n0 (by omega) ha
      rw [e] at q
      walk_at "sq go"
      exact q

abbrev s_law_same : Stmt := topS 15
theorem sc_law_same : FnScope ["found", "wanted", "k"] ["found", "wanted"] (defScope s_law_same) := ⟨rfl, rfl, rfl, by decide +kernel, rfl, by decide +kernel, by decide +kernel⟩

mutual
def plain : PyData → Bool
  | .none => true
  | .bool _ => true
  | .int _ => true
  | .str x => PyData.canLay0 (.str x)
  | .list xs => decide (xs.length ≤ 1000000) && plainAll xs
  | .tuple _ => false
  | .dict _ => false
def plainAll : List PyData → Bool
  | [] => true
  | x :: xs => plain x && plainAll xs
end
theorem plain_get : ∀ (ds : List PyData) (i : Nat) (d : PyData), plainAll ds = true → ds[i]? = some d → plain d = true
  | [], _, _, _, e => by simp at e
  | x :: r, i, d, h, e => by
    simp only [plainAll, Bool.and_eq_true] at h
    cases i with
    | zero =>
      have z : x = d := by simpa using e
      rw [← z]
      exact h.1
    | succ i => exact plain_get r i d h.2 (by simpa using e)
theorem depth_get : ∀ (ds : List PyData) (i : Nat) (d : PyData), ds[i]? = some d → d.depth ≤ PyData.depthAll ds
  | [], _, _, e => by simp at e
  | x :: r, i, d, e => by
    simp only [PyData.depthAll]
    cases i with
    | zero =>
      have z : x = d := by simpa using e
      rw [← z]
      exact Nat.le_max_left _ _
    | succ i => exact Nat.le_trans (depth_get r i d (by simpa using e)) (Nat.le_max_right _ _)
/-- x and y hold the same data d, of depth n at most -/
def Alike (K : PySem.W.Frag) (H : Hp) (n : Nat) (x y : V) : Prop := ∃ d, Dp K H x d ∧ Dp K H y d ∧ plain d = true ∧ d.depth ≤ n
def spSame (K : PySem.W.Frag) (n : Nat) : Sp := fun vs H Q _ => ∃ x y, vs = [x, y] ∧ Keep (Alike K H n x y) ∧ ∀ H', Same H H' → Q (.bl true) H'
theorem cal_same0 (D : DefAt K mg "_law_same" s_law_same ["found", "wanted"]) : Cal P w K mg base 1 "_law_same" (fun _ _ _ _ => False) [] := by
  refine D.cal sc_law_same (fun vs H Q E h => ?_) (fun f cdv A outer s H vs Q E hr h => ?_)
  · exact h.elim
  · exact h.elim
theorem cal_same1 (D : DefAt K mg "_law_same" s_law_same ["found", "wanted"]) (B : Bt mg) {k n : Nat} {sp : Sp} (c_law_same : Cal P w K mg base k "_law_same" sp [])
    (hsp : ∀ (x y : V) (H : Hp) (Q : VK) (E : XK) (m : Nat), Alike K H m x y → m < n → (∀ H', Same H H' → Q (.bl true) H') → sp [x, y] H Q E) : Cal P w K mg base (k + 1) "_law_same" (spSame K n) [] := by
  refine D.cal sc_law_same (fun vs H Q E h => ?_) (fun f cdv A outer s H vs Q E hr h => ?_)
  · obtain ⟨x, y, rfl, _⟩ := h
    rfl
  · obtain ⟨x, y, rfl, ⟨d, hx, hy, hc, hd⟩, q⟩ := h
    refine ⟨_, (pss_cons (ps_if (pt_cmpR op_isN (pv 1) pe_non (nomark _)) (pss_one (ps_ret (pe_cmpR op_isN (pv 0) pe_non (nomark _)))) pss_nil)
  (pss_cons (ps_if (pt_val (pe_callB (isiK (K := K)) (by rfl) B.isinstance (by decide +kernel) (pa_cons (pv 1) (pa_cons (pe_bltn (v := .ty "bool") (by rfl) B.bool (by decide +kernel) rfl) pa_nil)))) (pss_one (ps_ret (pe_and (pe_callB (isiK (K := K)) (by rfl) B.isinstance (by decide +kernel) (pa_cons (pv 0) (pa_cons (pe_bltn (v := .ty "bool") (by rfl) B.bool (by decide +kernel) rfl) pa_nil))) (pe_one (pe_cmpR (op_eqDK (K := K) hr.units) (pv 0) (pv 1) (nomark _)))))) pss_nil)
  (pss_cons (ps_if (pt_val (pe_callB (isiK (K := K)) (by rfl) B.isinstance (by decide +kernel) (pa_cons (pv 1) (pa_cons (pe_bltn (v := .ty "int") (by rfl) B.int (by decide +kernel) rfl) pa_nil)))) (pss_one (ps_ret (pe_and (pe_callB (isiK (K := K)) (by rfl) B.isinstance (by decide +kernel) (pa_cons (pv 0) (pa_cons (pe_bltn (v := .ty "int") (by rfl) B.int (by decide +kernel) rfl) pa_nil))) (pe_and (pe_not (pe_callB (isiK (K := K)) (by rfl) B.isinstance (by decide +kernel) (pa_cons (pv 0) (pa_cons (pe_bltn (v := .ty "bool") (by rfl) B.bool (by decide +kernel) rfl) pa_nil)))) (pe_one (pe_cmpR (op_eqDK (K := K) hr.units) (pv 0) (pv 1) (nomark _))))))) pss_nil)
  (pss_cons (ps_if (pt_val (pe_callB (isiK (K := K)) (by rfl) B.isinstance (by decide +kernel) (pa_cons (pv 1) (pa_cons (pe_bltn (v := .ty "str") (by rfl) B.str (by decide +kernel) rfl) pa_nil)))) (pss_one (ps_ret (pe_and (pe_callB (isiK (K := K)) (by rfl) B.isinstance (by decide +kernel) (pa_cons (pv 0) (pa_cons (pe_bltn (v := .ty "str") (by rfl) B.str (by decide +kernel) rfl) pa_nil))) (pe_one (pe_cmpR (op_eqDK (K := K) hr.units) (pv 0) (pv 1) (nomark _)))))) pss_nil)
  (pss_cons (ps_if (pt_cmpR op_ne (pe_callB (isiK (K := K)) (by rfl) B.isinstance (by decide +kernel) (pa_cons (pv 0) (pa_cons (pe_bltn (v := .ty "list") (by rfl) B.list (by decide +kernel) rfl) pa_nil))) (pe_callB (isiK (K := K)) (by rfl) B.isinstance (by decide +kernel) (pa_cons (pv 1) (pa_cons (pe_bltn (v := .ty "list") (by rfl) B.list (by decide +kernel) rfl) pa_nil))) (nomark _)) (pss_one (ps_ret pe_bl)) pss_nil)
  (pss_cons (ps_if (PW.pt (pw_or (pt_cmpR op_ne (pe_callB (isiK (K := K)) (by rfl) B.isinstance (by decide +kernel) (pa_cons (pv 0) (pa_cons (pe_bltn (v := .ty "tuple") (by rfl) B.tuple (by decide +kernel) rfl) pa_nil))) (pe_callB (isiK (K := K)) (by rfl) B.isinstance (by decide +kernel) (pa_cons (pv 1) (pa_cons (pe_bltn (v := .ty "tuple") (by rfl) B.tuple (by decide +kernel) rfl) pa_nil))) (nomark _)) (pw_or1 (pt_cmpR op_ne (pe_callB (len_seqK (K := K)) (by rfl) B.len boot_len (pa_cons (pv 0) pa_nil)) (pe_callB (len_seqK (K := K)) (by rfl) B.len boot_len (pa_cons (pv 1) pa_nil)) (nomark _))))) (pss_one (ps_ret pe_bl)) pss_nil)
  (pss_one (ps_ret (pe_cmpR (op_eqDK (K := K) hr.units) (pe_lc (own := [("k", 2)]) (g := gName 2) (by rfl) sc_law_same.nd (pi_range1 (by rfl) B.range (pa_cons (pe_callB (len_seqK (K := K)) (by rfl) B.len boot_len (pa_cons (pv 1) pa_nil)) pa_nil)) (blkOk_by (own := [("k", 2)]) (N := ["found", "wanted", "k"]) (sc := defScope s_law_same) (by decide +kernel)) (fun _ _ _ _ _ => (pg_name (i := 2) sc_law_same.nd rfl (Or.inl rfl))) (fun _ _ _ _ _ => (pts_one (pt_not (pt_val (pe_c c_law_same hr (by first | decide | omega) (by rfl) (pa_cons (pe_ix (ix_listK (K := K)) (pv 0) (pv 2) (fun _ _ => rfl)) (pa_cons (pe_ix (ix_listK (K := K)) (pv 1) (pv 2) (fun _ _ => rfl)) pa_nil))))))) (fun _ _ _ _ _ => (pv 2))) (pe_lst pa_nil) (nomark _)))))))))), ?_⟩
    cases d with
    | none =>
      cases hx; cases hy
      walk_at "sq go"
      exact q H (.refl H)
    | bool v =>
      cases hx; cases hy
      walk_at "sq go"
      refine rEqQ_of ⟨_, _, .bl v, .bl v, by simp [SeqAt.shaped, PyData.canLay0, PyData.depth], by simp [SeqAt.shaped, PyData.canLay0, PyData.depth], ?_⟩
      have e : PyData.eqv (.bool v) (.bool v) = true := by simp [PyData.eqv]
      rw [e]
      exact q H (.refl H)
    | int v =>
      cases hx; cases hy
      walk_at "sq go"
      refine rEqQ_of ⟨_, _, .int v, .int v, by simp [SeqAt.shaped, PyData.canLay0, PyData.depth], by simp [SeqAt.shaped, PyData.canLay0, PyData.depth], ?_⟩
      have e : PyData.eqv (.int v) (.int v) = true := by simp [PyData.eqv]
      rw [e]
      exact q H (.refl H)
    | str v =>
      cases hx; cases hy
      walk_at "sq go"
      have sh : SeqAt.shaped (.str v) = true := by
        simp only [plain, PyData.canLay0] at hc
        simp [SeqAt.shaped, PyData.canLay0, PyData.depth, hc]
      refine rEqQ_of ⟨_, _, .str v, .str v, sh, sh, ?_⟩
      have e : PyData.eqv (.str v) (.str v) = true := by simp [PyData.eqv]
      rw [e]
      exact q H (.refl H)
    | list ds =>
      cases hx with
      | @lst a xs _ ha hxs =>
      cases hy with
      | @lst b ys _ hb hys =>
      have lx := dpall_len _ _ hxs
      have ly := dpall_len _ _ hys
      simp only [plain, Bool.and_eq_true, decide_eq_true_eq] at hc
      simp only [PyData.depth] at hd
      obtain ⟨hlen, hc⟩ := hc
      walk_at "sq go"
      refine ifIN (fun c => absurd (by rw [lx, ly]) c) (fun _ => ?_)
      walk_at "sq go"
      intro D nD
      refine lc_range (lo := 0) (n := ((ys.length : Nat) : Int).toNat) (fun i H' => Keep (Same H H' ∧ H' D = some (.lst []))) ⟨same_new nD, upd_same⟩ (fun i H' hi h => ?_) (fun H' h => ?_)
      · obtain ⟨s1, eD⟩ := h.o
        have hi2 : i < ds.length := by omega
        obtain ⟨x, ex, dx⟩ := dpall_get _ _ hxs i _ (List.getElem?_eq_getElem hi2)
        obtain ⟨y, ey, dy⟩ := dpall_get _ _ hys i _ (List.getElem?_eq_getElem hi2)
        have ax : atI xs (0 + (i : Int)) = some x := by rw [Int.zero_add]; exact atI_nat ex
        have ay : atI ys (0 + (i : Int)) = some y := by rw [Int.zero_add]; exact atI_nat ey
        have ha' := s1.seq ha
        have hb' := s1.seq hb
        walk_at "sq go"
        refine hsp x y H' _ _ _ ⟨_, dp_same s1 _ _ dx, dp_same s1 _ _ dy, plain_get _ i _ hc (List.getElem?_eq_getElem hi2), depth_get _ i _ (List.getElem?_eq_getElem hi2)⟩ (by omega) (fun H2 s2 => ?_)
        walk_at "sq go"
        exact ⟨s1.trans s2, s2 _ _ eD⟩
      · obtain ⟨s1, eD⟩ := h.o
        walk_at "sq go"
        intro e ne
        have s2 := s1.trans (same_new (o := .lst []) ne)
        refine r_eqI (xs := []) (ys := []) (seqL_of (upd_keep ne eD)) (seqL_of upd_same) ?_
        exact q _ s2
    | tuple ds => simp [plain] at hc
    | dict kvs => nomatch hx
theorem Alike.mono {K : PySem.W.Frag} {H : Hp} {m n : Nat} {x y : V} (h : Alike K H m x y) (hm : m ≤ n) : Alike K H n x y := by
  obtain ⟨d, h1, h2, h3, h4⟩ := h
  exact ⟨d, h1, h2, h3, by omega⟩
theorem cal_same (D : DefAt K mg "_law_same" s_law_same ["found", "wanted"]) (B : Bt mg) : ∀ n : Nat, Cal P w K mg base (n + 2) "_law_same" (spSame K n) []
  | 0 => cal_same1 D B (cal_same0 D) fun x y H Q E m h lt q => absurd lt (by omega)
  | n + 1 => cal_same1 D B (cal_same D B n) fun x y H Q E m h lt q => ⟨x, y, rfl, ⟨h.mono (by omega)⟩, q⟩
theorem alike_ints {K : PySem.W.Frag} {H : Hp} {a b : Addr} {ns : List Int} {n : Nat} (h1 : SqL K H a (iv ns)) (h2 : SqL K H b (iv ns)) (hl : ns.length ≤ 1000000) (hn : 1 ≤ n) : Alike K H n (.ref a) (.ref b) := by
  have pl : ∀ ns : List Int, plainAll (ns.map .int) = true := by
    intro ns
    induction ns with
    | nil => simp [plainAll]
    | cons x r ih => simp [plainAll, plain, ih]
  refine ⟨dI ns, dp_iv h1, dp_iv h2, ?_, ?_⟩
  · unfold dI
    simp only [plain, pl, List.length_map, decide_eq_true hl, Bool.and_self]
  · unfold dI
    simp only [PyData.depth, dep_ints]
    omega
theorem alike_int {K : PySem.W.Frag} {H : Hp} {i : Int} {n : Nat} : Alike K H n (.int i) (.int i) := ⟨.int i, .int i, .int i, by simp [plain], by simp [PyData.depth]⟩

/-! ### the law -/
def spReachK (K : PySem.W.Frag) : Sp := fun zs H Q E => ∃ m p, zs = [m, p] ∧ spReach K [p, m] H Q E
abbrev s_law : Stmt := topS 21
theorem sc_law : FnScope ["script", "source", "k", "turn", "row", "saved", "reaches_here", "goal", "due", "told"] ["script"] (defScope s_law) := ⟨rfl, rfl, rfl, by decide +kernel, rfl, by decide +kernel, by decide +kernel⟩

def spLaw (K : PySem.W.Frag) : Sp := fun vs H Q _ => ∃ (a : Addr) (ns : List Int), vs = [.ref a] ∧ SqL K H a (iv ns) ∧ ns.length ≤ 63 ∧ ∀ H', Q (.bl true) H'
theorem Row.mid {ns : List Int} {w : Int} (h : Row ns w) (hw : w < 2 ^ 240) : Mid ns := fun k hk => ⟨(h k hk).1, Int.lt_of_le_of_lt (h k hk).2 hw⟩
theorem fit_small {ns : List Int} {m : Int} (h : ∀ k ∈ ns, 0 ≤ k ∧ k ≤ 100) (hl : ns.length ≤ 1000) (h0 : 0 ≤ m) (hm : m ≤ 100) : Fit ns m := by
  refine ⟨10, 10, fun k hk => ?_, ?_, by decide, by decide, by omega⟩
  · have := h k hk
    unfold Sm
    omega
  · unfold Sm
    omega
def reaches (ns : List Int) (i : Nat) : List Int := (List.range i).map fun (j : Nat) => reachOf ns (1 + (j : Int))
theorem reaches_snoc (ns : List Int) (i : Nat) : reaches ns i ++ [reachOf ns (1 + (i : Int))] = reaches ns (i + 1) := by
  unfold reaches
  rw [List.range_succ, List.map_append]
  rfl
theorem reaches_len (ns : List Int) (i : Nat) : (reaches ns i).length = i := by
  unfold reaches
  rw [List.length_map, List.length_range]
theorem reaches_up {ns : List Int} (h : Two ns) (i : Nat) : (reaches ns i).Pairwise (· ≤ ·) := by
  unfold reaches
  rw [List.pairwise_map]
  refine List.Pairwise.imp (fun {a b : Nat} (lt : a < b) => ?_) List.pairwise_lt_range
  exact reach_mono (by omega) (by omega) h
theorem ok_law {f : Addr} {fd : FuncData} (F : Fun K "law" "law" s_law f fd) (B : Bt mg) (c_law_source : Cal P w K mg base 1 "_law_source" (spSource K) []) (c_law_row : Cal P w K mg base 2 "_law_row" spRow [])
    (c_law_reach : Cal P w K mg base 3 "_law_reach" (spTry K) []) (c_reach : Cal P w K mg base 3 "reach" (spReach K) []) (c_reach1 : Cal P w K mg base 3 "reach" (spReach K) [.int 1]) (c_reach_k : CalK P w K mg base 3 "reach" ["most", "replacements"] (spReachK K))
    (c_law_same : Cal P w K mg base 4 "_law_same" (spSame K 2) []) : FnG P w K mg base CX0 5 f fd ["script"] (spLaw K) := by
  refine okG F sc_law (fun vs H Q E h => ?_) (fun cdv A outer s H vs Q E hG hr h => ?_)
  · obtain ⟨a, ns, rfl, _⟩ := h
    rfl
  · obtain ⟨p0, ns0, rfl, hP, hl, q⟩ := h
    refine ⟨_, (pss_cons (ps_set (i := 1) sc_law.nd rfl (Or.inl rfl) (pe_c c_law_source hr (by first | decide | omega) (by rfl) (pa_cons (pv 0) pa_nil)))
  (pss_cons (ps_for PassesOwn.never rfl (pi_range1 (by rfl) B.range (pa_cons (pe_op op_add pe_int (pe_callB (call_min2 rfl) (by rfl) B.min (by decide +kernel) (pa_cons pe_int (pa_cons (pe_callB (len_seqK (K := K)) (by rfl) B.len boot_len (pa_cons (pv 0) pa_nil)) pa_nil)))) pa_nil)) (pg_name (i := 2) sc_law.nd rfl (Or.inl rfl))
   (pss_one (ps_for PassesOwn.never rfl (pi_range1 (by rfl) B.range (pa_cons pe_int pa_nil)) (pg_name (i := 3) sc_law.nd rfl (Or.inl rfl))
   (pss_cons (ps_set (i := 4) sc_law.nd rfl (Or.inl rfl) (pe_c c_law_row hr (by first | decide | omega) (by rfl) (pa_cons (pv 1) (pa_cons pe_int (pa_cons pe_int pa_nil)))))
  (pss_cons (ps_par (i := 5) (j := 6) rfl sc_law.nd rfl rfl (by decide) rfl rfl (pa_cons (pe_callB (call_reprDK (K := K) hG hr.units) (by rfl) B.repr (by decide +kernel) (pa_cons (pv 4) pa_nil)) (pa_cons (pe_lst pa_nil) pa_nil)) (by rfl))
  (pss_cons (ps_for PassesOwn.never rfl (pi_range2 (by rfl) B.range (pa_cons pe_int (pa_cons pe_int pa_nil))) (pg_name (i := 7) sc_law.nd rfl (Or.inl rfl))
   (pss_cons (ps_set (i := 8) sc_law.nd rfl (Or.inl rfl) (pe_c c_law_reach hr (by first | decide | omega) (by rfl) (pa_cons (pv 4) (pa_cons (pv 7) pa_nil))))
  (pss_cons (ps_set (i := 9) sc_law.nd rfl (Or.inl rfl) (pe_lst (pa_cons (pe_c c_reach hr (by first | decide | omega) (by rfl) (pa_cons (pv 4) (pa_cons (pv 7) pa_nil))) (pa_cons (pe_ck c_reach_k hr (by first | decide | omega) (by rfl) (pk_cons (pv 7) (pk_cons (pv 4) pk_nil))) pa_nil))))
  (pss_cons (ps_if (pt_not (pt_val (pe_c c_law_same hr (by first | decide | omega) (by rfl) (pa_cons (pv 9) (pa_cons (pe_op op_rep (pe_lst (pa_cons (pv 8) pa_nil)) pe_int) pa_nil))))) (pss_one (ps_ret pe_bl)) pss_nil)
  (pss_one (ps_expr (pe_bm PySem.F.plainAttrs_list PySem.F.slot_list_append PySem.F.type_list_append mt_append (pv 6) (pa_cons (pv 8) pa_nil))))))))
  (pss_cons (ps_if (PW.pt (pw_or (pt_not (pt_val (pe_c c_law_same hr (by first | decide | omega) (by rfl) (pa_cons (pe_c c_reach1 hr (by first | decide | omega) (by rfl) (pa_cons (pv 4) pa_nil)) (pa_cons (pe_ix (ix_listK (K := K)) (pv 6) pe_int (fun _ _ => rfl)) pa_nil))))) (pw_or1 (pt_cmpR op_ne (pe_callB (call_reprDK (K := K) hG hr.units) (by rfl) B.repr (by decide +kernel) (pa_cons (pv 4) pa_nil)) (pv 5) (nomark _))))) (pss_one (ps_ret pe_bl)) pss_nil)
  (pss_one (ps_if (pt_cmpR (op_neDK (K := K) hr.units) (pe_callB (cr_sortedIK (K := K)) (by rfl) B.sorted (by decide +kernel) (pa_cons (pv 6) pa_nil)) (pv 6) (nomark _)) (pss_one (ps_ret pe_bl)) pss_nil)))))))))
  (pss_one (ps_ret (pe_and (pe_cmpR op_eq (pe_c c_reach1 hr (by first | decide | omega) (by rfl) (pa_cons (pe_lst (pa_cons pe_int (pa_cons pe_int (pa_cons pe_int (pa_cons pe_int (pa_cons pe_int pa_nil)))))) pa_nil)) pe_int (nomark _)) (pe_and (pe_cmpR op_eq (pe_c c_reach hr (by first | decide | omega) (by rfl) (pa_cons (pe_lst (pa_cons pe_int (pa_cons pe_int (pa_cons pe_int pa_nil)))) (pa_cons pe_int pa_nil))) pe_int (nomark _)) (pe_one (pe_cmpR op_eq (pe_c c_reach1 hr (by first | decide | omega) (by rfl) (pa_cons (pe_lst pa_nil) pa_nil)) pe_int (nomark _))))))))), ?_⟩
    walk_at "sq go"
    intro r d H1 s1 hS1
    have hP1 := s1.seq hP
    walk_at "sq go"
    refine for_range (lo := 0) (n := _) (fun i σ H' => Keep (∃ a1 a2 a3 a4 a5 a6 a7 a8, σ = [some (.ref p0), some (.ref r), a1, a2, a3, a4, a5, a6, a7, a8] ∧ Sep (rgB r d (1000 * i)) H H' ∧ i ≤ 11)) ⟨_, _, _, _, _, _, _, _, rfl, SepB.mono hS1 (by omega), by omega⟩ (fun i σ H' hi h => ?_) (fun σ H' h => ?_)
    · obtain ⟨a1, a2, a3, a4, a5, a6, a7, a8, rfl, hs, hi11⟩ := h.o
      have hi12 : i + 1 ≤ 11 := by
        split at hi <;> omega
      walk_at "sq go"
      refine for_range (lo := 0) (n := _) (fun j σ H' => Keep (∃ a2 a3 a4 a5 a6 a7 a8, σ = [some (.ref p0), some (.ref r), some (.int (0 + (i : Int))), a2, a3, a4, a5, a6, a7, a8] ∧ Sep (rgB r d (1000 * i + 203 * j)) H H')) ⟨_, _, _, _, _, _, _, rfl, SepB.mono hs (by omega)⟩ (fun j σ H' hj h => ?_) (fun σ H' h => ?_)
      · obtain ⟨a2, a3, a4, a5, a6, a7, a8, rfl, hs⟩ := h.o
        walk_at "sq go"
        refine ⟨⟨by decide, by decide, by decide, by decide, by omega⟩, fun p ns H2 gp hl4 hrow hS2 => ?_⟩
        have h4 : ns.length ≤ 4 := hl4
        have two : Two ns := fun k hk => (hrow k hk).1
        have mid : Mid ns := hrow.mid (by decide)
        have e2 : upd H p (.lst (iv ns)) p = some (.lst (iv ns)) := upd_same
        walk_at "sq go"
        refine r_repr (ns := ns) (seqL_of (hS2.get e2)) (by omega) (fun k hk => ?_) ?_
        · have := hrow k hk
          exact Nat.lt_trans ((show Sm 10 k by unfold Sm; omega).lg (by decide)) (by decide)
        walk_at "sq go"
        intro g ng
        have gg := hS2.free ng
        have hS3 := hS2.new ng (.lst [])
        have npg : p ≠ g := fun e => by
          rw [← e, upd_same] at gg
          cases gg
        walk_at "sq go"
        refine for_range (lo := 1) (n := _) (fun l σ H' => Keep (∃ a6 a7 a8, σ = [some (.ref p0), some (.ref r), some (.int (0 + (i : Int))), some (.int (0 + (j : Int))), some (.ref p), some (.str (dI ns).shown), some (.ref g), a6, a7, a8] ∧ Sep (rgB r d (1000 * i + 203 * j + 203)) (upd (upd H p (.lst (iv ns))) g (.lst (iv (reaches ns l)))) H')) ⟨_, _, _, rfl, hS3⟩ (fun l σ H' hl6 h => ?_) (fun σ H' h => ?_)
        · obtain ⟨a6, a7, a8, rfl, hs⟩ := h.o
          have e2 : upd (upd H p (.lst (iv ns))) g (.lst (iv (reaches ns l))) p = some (.lst (iv ns)) := upd_off npg upd_same
          have e3 : upd (upd H p (.lst (iv ns))) g (.lst (iv (reaches ns l))) g = some (.lst (iv (reaches ns l))) := upd_same
          have sp := seqL_of (K := K) (hs.get e2)
          have fit : Fit ns (1 + (l : Int)) := fit_small (fun k hk => by have := hrow k hk; omega) (by omega) (by omega) (by omega)
          walk_at "sq go"
          refine ⟨⟨mid, by omega⟩, ?_⟩
          walk_at "sq go"
          refine ⟨⟨two, by omega, fit⟩, fun H3 s3 => ?_⟩
          have sp3 := s3.seq sp
          walk_at "sq go"
          refine ⟨⟨two, by omega, fit⟩, fun H4 s4 => ?_⟩
          walk_at "sq go"
          intro t nt
          walk_at "sq go"
          intro u nu
          walk_at "sq go"
          intro v nv
          walk_at "sq go"
          refine ⟨⟨alike_ints (ns := [reachOf ns (1 + (l : Int)), reachOf ns (1 + (l : Int))]) (seqL_of (by walk_at "sq hp")) (seqL_of upd_same) (by simp) (by decide)⟩, fun H5 s5 => ?_⟩
          have s6 := ((((s3.trans s4).trans (same_new nt)).trans (same_new nu)).trans (same_new nv)).trans s5
          have hs5 := hs.on s6
          have hs6 := hs5.put e3 (.lst (iv (reaches ns l) ++ [.int (reachOf ns (1 + (l : Int)))]))
          rw [upd_upd, iv_app, reaches_snoc] at hs6
          have hg : H5 g = some (.lst (iv (reaches ns l))) := hs5.get e3
          have hlen := reaches_len ns l
          walk_at "sq go"
          refine ⟨_, _, _, rfl, ?_⟩
          rw [iv_app, reaches_snoc]
          exact hs6
        · -- behind the lengths
          obtain ⟨a6, a7, a8, rfl, hs⟩ := h.o
          have e2 : upd (upd H p (.lst (iv ns))) g (.lst (iv (reaches ns (7 - 1 : Int).toNat))) p = some (.lst (iv ns)) := upd_off npg upd_same
          have e3 : upd (upd H p (.lst (iv ns))) g (.lst (iv (reaches ns (7 - 1 : Int).toNat))) g = some (.lst (iv (reaches ns (7 - 1 : Int).toNat))) := upd_same
          have sp := seqL_of (K := K) (hs.get e2)
          have sg := seqL_of (K := K) (hs.get e3)
          have fit : Fit ns 1 := fit_small (fun k hk => by have := hrow k hk; omega) (by omega) (by omega) (by omega)
          walk_at "sq go"
          refine ⟨⟨two, by omega, fit⟩, fun H3 s3 => ?_⟩
          walk_at "sq go"
          refine ⟨⟨alike_int (i := reachOf ns 1)⟩, fun H4 s4 => ?_⟩
          have s5 := s3.trans s4
          walk_at "sq go"
          refine r_repr (ns := ns) (s5.seq sp) (by omega) (fun k hk => ?_) ?_
          · have := hrow k hk
            exact Nat.lt_trans ((show Sm 10 k by unfold Sm; omega).lg (by decide)) (by decide)
          walk_at "sq go"
          refine ifN (fun c => absurd rfl c) (fun _ => ?_)
          walk_at "sq go"
          have sg5 := s5.seq sg
          walk_at "sq go"
          intro ns' t pm up nt
          have ens := perm_sorted_eq pm up (reaches_up two _)
          subst ens
          walk_at "sq go"
          refine r_neI (seqL_of upd_same) ((same_new nt).seq sg5) ?_
          walk_at "sq go"
          refine ifN (fun c => absurd rfl c) (fun _ => ?_)
          have s6 := s5.trans (same_new (o := .lst (iv (reaches ns (7 - 1 : Int).toNat))) nt)
          have hs6 := (hs.on s6).weak ((same_new gp).trans (same_new gg))
          exact ⟨_, _, _, _, _, _, _, rfl, SepB.mono hs6 (by omega)⟩
      · obtain ⟨a2, a3, a4, a5, a6, a7, a8, rfl, hs⟩ := h.o
        exact ⟨_, _, _, _, _, _, _, _, rfl, SepB.mono hs (by omega), hi12⟩
    · obtain ⟨a1, a2, a3, a4, a5, a6, a7, a8, rfl, hs, _⟩ := h.o
      walk_at "sq go"
      intro t nt
      walk_at "sq go"
      refine ⟨seqL_of (xs := iv [21, 6, 3, 3, 2]) upd_same, ⟨by decide, by decide, fit_small (by decide) (by decide) (by decide) (by decide)⟩, fun H2 s2 => ?_⟩
      walk_at "sq go"
      intro u nu
      walk_at "sq go"
      refine ⟨seqL_of (xs := iv [6, 3, 2]) upd_same, ⟨by decide, by decide, fit_small (by decide) (by decide) (by decide) (by decide)⟩, fun H3 s3 => ?_⟩
      walk_at "sq go"
      intro v nv
      walk_at "sq go"
      refine ⟨seqL_of (xs := iv []) upd_same, ⟨by decide, by decide, fit_small (by decide) (by decide) (by decide) (by decide)⟩, fun H4 s4 => ?_⟩
      walk_at "sq go"
      exact q _
end
end Sq
open PySem PySem.W PyProof.Rows in
set_option maxRecDepth 100000 in
set_option maxHeartbeats 0 in
theorem PySem.Challenge.cw_squeezelists_k05_reaches_by_trying_holds : PySem.Challenge.rw_squeezelists_k05_reaches_by_trying.Holds := by
  w_on; o_law; k_head; (case hw => w_witness2)
  k_fill
  refine Sq.walk_ofG (l := PySem.Challenge.rw_squeezelists_k05_reaches_by_trying) (n := 63) (k := 5) (x := "script") (sp := Sq.spLaw) rfl (by decide) rfl ⟨rfl, by decide, by decide⟩ (fun w h Y => PySem.W.kIn_of Y) ?F (fun K H a ns hl hS => ⟨a, ns, rfl, hS, hl, fun _ => rfl⟩)
  case F =>
    intro w mg fa h KX G hmg
    have B : Sq.Bt mg := by
      refine' ⟨PySem.W.mg_none_of KX G ?z0, PySem.W.mg_none_of KX G ?z1, PySem.W.mg_none_of KX G ?z2, PySem.W.mg_none_of KX G ?z3, PySem.W.mg_none_of KX G ?z4, PySem.W.mg_none_of KX G ?z5, PySem.W.mg_none_of KX G ?z6, PySem.W.mg_none_of KX G ?z7, PySem.W.mg_none_of KX G ?z8, PySem.W.mg_none_of KX G ?z9, PySem.W.mg_none_of KX G ?z10, PySem.W.mg_none_of KX G ?z11, PySem.W.mg_none_of KX G ?z12⟩
      (case z0 => k_is)
      (case z1 => k_is)
      (case z2 => k_is)
      (case z3 => k_is)
      (case z4 => k_is)
      (case z5 => k_is)
      (case z6 => k_is)
      (case z7 => k_is)
      (case z8 => k_is)
      (case z9 => k_is)
      (case z10 => k_is)
      (case z11 => k_is)
      (case z12 => k_is)
    refine' Sq.cutD (Sq.DefAt.mk1 (x := "check_list") (st := Sq.s_check_list) (ps := ["replacements"]) KX G ?a_check_list ?l_check_list ?c_check_list ?k_check_list (fun _ _ _ _ _ _ us hl => match us, hl with | [_], _ => rfl)) ?_
    (case a_check_list => k_is); (case l_check_list => k_is); (case c_check_list => k_is); (case k_check_list => k_is)
    intro D_check_list
    refine' Sq.cutD (Sq.DefAt.mk1 (x := "check_most") (st := Sq.s_check_most) (ps := ["most"]) KX G ?a_check_most ?l_check_most ?c_check_most ?k_check_most (fun _ _ _ _ _ _ us hl => match us, hl with | [_], _ => rfl)) ?_
    (case a_check_most => k_is); (case l_check_most => k_is); (case c_check_most => k_is); (case k_check_most => k_is)
    intro D_check_most
    refine' Sq.cutD (Sq.DefAt.mk1 (x := "reach_before") (st := Sq.s_reach_before) (ps := ["reached", "replacement"]) KX G ?a_reach_before ?l_reach_before ?c_reach_before ?k_reach_before (fun _ _ _ _ _ _ us hl => match us, hl with | [_, _], _ => rfl)) ?_
    (case a_reach_before => k_is); (case l_reach_before => k_is); (case c_reach_before => k_is); (case k_reach_before => k_is)
    intro D_reach_before
    refine' Sq.cutD (Sq.DefAt.mk1 (x := "reach_of") (st := Sq.s_reach_of) (ps := ["replacements", "most"]) KX G ?a_reach_of ?l_reach_of ?c_reach_of ?k_reach_of (fun _ _ _ _ _ _ us hl => match us, hl with | [_, _], _ => rfl)) ?_
    (case a_reach_of => k_is); (case l_reach_of => k_is); (case c_reach_of => k_is); (case k_reach_of => k_is)
    intro D_reach_of
    refine' Sq.cutD (Sq.DefAt.mk1 (x := "_law_source") (st := Sq.s_law_source) (ps := ["script"]) KX G ?a_law_source ?l_law_source ?c_law_source ?k_law_source (fun _ _ _ _ _ _ us hl => match us, hl with | [_], _ => rfl)) ?_
    (case a_law_source => k_is); (case l_law_source => k_is); (case c_law_source => k_is); (case k_law_source => k_is)
    intro D_law_source
    refine' Sq.cutD (Sq.DefAt.mk1 (x := "_law_draw") (st := Sq.s_law_draw) (ps := ["source", "many"]) KX G ?a_law_draw ?l_law_draw ?c_law_draw ?k_law_draw (fun _ _ _ _ _ _ us hl => match us, hl with | [_, _], _ => rfl)) ?_
    (case a_law_draw => k_is); (case l_law_draw => k_is); (case c_law_draw => k_is); (case k_law_draw => k_is)
    intro D_law_draw
    refine' Sq.cutD (Sq.DefAt.mk1 (x := "_law_once") (st := Sq.s_law_once) (ps := ["run", "one"]) KX G ?a_law_once ?l_law_once ?c_law_once ?k_law_once (fun _ _ _ _ _ _ us hl => match us, hl with | [_, _], _ => rfl)) ?_
    (case a_law_once => k_is); (case l_law_once => k_is); (case c_law_once => k_is); (case k_law_once => k_is)
    intro D_law_once
    refine' Sq.cutD (Sq.DefAt.mk1 (x := "_law_squeezed") (st := Sq.s_law_squeezed) (ps := ["run", "row"]) KX G ?a_law_squeezed ?l_law_squeezed ?c_law_squeezed ?k_law_squeezed (fun _ _ _ _ _ _ us hl => match us, hl with | [_, _], _ => rfl)) ?_
    (case a_law_squeezed => k_is); (case l_law_squeezed => k_is); (case c_law_squeezed => k_is); (case k_law_squeezed => k_is)
    intro D_law_squeezed
    refine' Sq.cutD (Sq.DefAt.mk1 (x := "_law_row") (st := Sq.s_law_row) (ps := ["source", "many", "wide"]) KX G ?a_law_row ?l_law_row ?c_law_row ?k_law_row (fun _ _ _ _ _ _ us hl => match us, hl with | [_, _, _], _ => rfl)) ?_
    (case a_law_row => k_is); (case l_law_row => k_is); (case c_law_row => k_is); (case k_law_row => k_is)
    intro D_law_row
    refine' Sq.cutD (Sq.DefAt.mk1 (x := "_law_reach") (st := Sq.s_law_reach) (ps := ["row", "goal"]) KX G ?a_law_reach ?l_law_reach ?c_law_reach ?k_law_reach (fun _ _ _ _ _ _ us hl => match us, hl with | [_, _], _ => rfl)) ?_
    (case a_law_reach => k_is); (case l_law_reach => k_is); (case c_law_reach => k_is); (case k_law_reach => k_is)
    intro D_law_reach
    refine' Sq.cutD (Sq.DefAt.mk1 (x := "_law_same") (st := Sq.s_law_same) (ps := ["found", "wanted"]) KX G ?a_law_same ?l_law_same ?c_law_same ?k_law_same (fun _ _ _ _ _ _ us hl => match us, hl with | [_, _], _ => rfl)) ?_
    (case a_law_same => k_is); (case l_law_same => k_is); (case c_law_same => k_is); (case k_law_same => k_is)
    intro D_law_same
    refine' Sq.cutD (Sq.DefAt.mk1 (x := "law") (st := Sq.s_law) (ps := ["script"]) KX G ?a_law ?l_law ?c_law ?k_law (fun _ _ _ _ _ _ us hl => match us, hl with | [_], _ => rfl)) ?_
    (case a_law => k_is); (case l_law => k_is); (case c_law => k_is); (case k_law => k_is)
    intro D_law
    refine' Sq.cutD (Sq.funD_mk (x := "reach") (st := Sq.s_reach) (dvs := [.int 1]) KX G ?a_r ?l_r ?c_r ?k_r ?t_r ?e_r ?v_r (by simp)) ?_
    (case a_r => k_is); (case l_r => k_is); (case c_r => k_is); (case k_r => k_is); (case t_r => k_is); (case e_r => rfl); (case v_r => exact .cons ⟨_, rfl⟩ .nil)
    rintro ⟨FR, mR⟩
    obtain ⟨d2, v2, b2⟩ := FR.binds1 (ps := ["replacements", "most"]) 2 1 (by simp) rfl (fun T kV doc pm an cdv ct us its h1 h2 => match us, its, h1, h2 with | [_, _], [_], _, _ => ⟨_, rfl, rfl⟩)
    obtain ⟨d1, v1, b1⟩ := FR.binds1 (ps := ["replacements", "most"]) 1 0 (by simp) rfl (fun T kV doc pm an cdv ct us its h1 h2 => match us, its, h1, h2 with | [_], [_], _, _ => ⟨_, rfl, rfl⟩)
    have bk := Sq.kbn_dflt (ps := ["replacements", "most"]) (ks := ["most", "replacements"]) FR (by simp) (fun {α} (l : List α) => match l with | [m, r] => [r, m] | l => l) (fun {vs us} r => by
      cases r with
      | nil => exact .nil
      | cons a r => cases r with
        | nil => exact .cons a .nil
        | cons b r => cases r with
          | nil => exact .cons b (.cons a .nil)
          | cons c r => exact .cons a (.cons b (.cons c r))) (fun T kV doc pm an cdv ct ws its h1 h2 => match ws, its, h1, h2 with | [_, _], [_], _, _ => ⟨_, rfl, rfl⟩)
    obtain ⟨fd, F, hb⟩ := D_law.law hmg (fun _ _ _ _ _ _ us hl => match us, hl with | [_], _ => rfl)
    refine ⟨fd, hb, fun base _ _ => ?_⟩
    have GR := Sq.ok_reach (P := PySem.Challenge.rw_squeezelists_k05_reaches_by_trying.prog) (w := w) (base := base) FR B (Sq.cal_check_list D_check_list B) (Sq.cal_check_most D_check_most B) (Sq.cal_reach_of D_reach_of B (Sq.cal_reach_before D_reach_before B))
    have cd := Sq.cal_draw (P := PySem.Challenge.rw_squeezelists_k05_reaches_by_trying.prog) (w := w) (base := base) D_law_draw B
    have cq := Sq.cal_squeezed (P := PySem.Challenge.rw_squeezelists_k05_reaches_by_trying.prog) (w := w) (base := base) D_law_squeezed B (Sq.cal_once D_law_once B)
    refine Sq.ok_law F B (Sq.cal_source D_law_source B) (Sq.cal_row D_law_row B cd) (Sq.cal_try D_law_reach B cq) ⟨_, _, _, d2, GR, mR, FR.kp, b2, v2⟩ ⟨_, _, _, d1, GR, mR, FR.kp, b1, v1⟩ ⟨_, _, _, _, _, _, GR, mR, FR.kp, bk, ?K⟩ (Sq.cal_same D_law_same B 2)
    rintro zs H Q E ⟨m, p, rfl, h⟩
    exact ⟨rfl, h⟩
