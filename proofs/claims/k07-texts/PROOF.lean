import PyProof.Rows.All
import Wide.All
import OpenK.AllK
import Wide.FinOn
import HandS.ForMost
import HandS.Wide
import HandS.Walk
import HandS.IsInst
import HandS.Zip
import KE.GoesZip
import KE.DataEq
import KE.GoesMore
import HandS.Strs
import HandS.Conv
import KE.GoesEnum
import HandS.Defaults
import HandS.Ends
import HandS.OwnEq
import HandS.More
import PyProof.ReprReads
import HandS.Style
import HandS.CallLocal
import HandS.ClsMeth
import HandS.Text
import HandS.Exc
import PySem.Challenge.RW_wordskips_k07_whole_texts_of_searchers
set_option Elab.async false
set_option linter.all false
set_option maxRecDepth 100000
set_option maxHeartbeats 4000000
namespace Wk
open PySem PySem.Spec PyProof.Rows L2
open TL (tl len_tl ext_tl tl_append mk_tl)

/-! ## texts as lists of signs -/
abbrev sx (l : List Nat) : Str := ⟨l.toArray⟩
abbrev tx (l : List Nat) : V := .str (sx l)
theorem sx_tl (z : Str) : sx (tl z) = z := mk_tl z
theorem tl_sx (l : List Nat) : tl (sx l) = l := rfl
theorem len_sx (l : List Nat) : (sx l).length = l.length := by simp [Str.length]
theorem len_str (z : Str) : z.length = (tl z).length := len_tl z
theorem str_inj {a b : List Nat} : (sx a = sx b) ↔ a = b := ⟨fun h => by
  have := congrArg tl h
  exact this, fun h => by rw [h]⟩
theorem tx_inj {a b : List Nat} : (tx a = tx b) ↔ a = b := ⟨fun h => str_inj.mp (V.str.inj h), fun h => by rw [h]⟩
theorem dec_tx {a b : List Nat} : decide (tx a = tx b) = decide (a = b) := by
  by_cases h : a = b
  · subst h; simp
  · rw [decide_eq_false h, decide_eq_false fun q => h (tx_inj.mp q)]
theorem app_sx (a b : List Nat) : sx a ++ sx b = sx (a ++ b) := ext_tl (by rw [tl_append])
theorem sz_le {n : Nat} (h : n ≤ 100000) : n ≤ sizeLine := Nat.le_trans h (by decide)
theorem sz_lt {n : Nat} (h : n < 100000) : n < sizeLine := Nat.lt_of_lt_of_le h (by decide)

/-! ## () + t -/
section
open AutoSeq1 (wpAny_loadPart')
theorem tup_add0 (l b : Addr) (u1 u2 : Array Value) (n n2 : Nat) (dd d2 : Option Addr) (sl sl2 : Array (Option Value)) (none1 : u1.isEmpty = true) :
    Meets (Builtin.«tuple.__add__» ⟨[.ref l, .ref b], []⟩) (fun _ R s => s.heap.get? l = some { cls := .type "tuple", dict := dd, data := .seq u1 n, slots := sl } ∧ s.heap.get? b = some { cls := .type "tuple", dict := d2, data := .seq u2 n2, slots := sl2 } ∧ R (.ok (.ret (Value.ref b))) s) :=
  .of_wp fun prog w A R s h => by
    obtain ⟨hp, gs, dr, tk, sy⟩ := s
    obtain ⟨hl, hb, h⟩ := h
    have i2 := sub_tuple_tuple
    wp_walk using wpAny_loadPart' hl, wpAny_loadPart' hb
    exact ⟨_, rfl, h⟩
end
/-! ## operators on values of several kinds -/
section
variable {X : Cx}
/-- + : ints, texts, lists, tuples -/
def rPlus (K : PySem.W.Frag) : R2 := fun x y H Q => match x, y with
  | .int i, .int j => Q (.int (i + j)) H
  | .str a, .str b => (tl a).length + (tl b).length ≤ 100000 ∧ Q (tx (tl a ++ tl b)) H
  | .ref a, .ref b => (∃ xs ys, H a = some (.lst xs) ∧ H b = some (.lst ys) ∧ xs.length + ys.length ≤ 100000 ∧ ∀ p, H p = none → Q (.ref p) (upd H p (.lst (xs ++ ys)))) ∨ rCatT K x y H Q ∨ (∃ ys, SqT K H a [] ∧ SqT K H b ys ∧ Q (.ref b) H)
  | _, _ => False
theorem op_plus : OpR X (binaryOp .Add) (rPlus X.K) := by
  intro pins s σ H x y v u Q I rx ry h
  cases x with
  | int i =>
    cases y with
    | int j => exact op_add pins s σ H _ _ v u Q I rx ry ⟨i, j, rfl, rfl, h⟩
    | _ => exact False.elim h
  | str a =>
    cases y with
    | str b =>
      refine op_add_str pins s σ H _ _ v u Q I rx ry ⟨a, b, rfl, rfl, ?_, ?_⟩
      · rw [len_str, len_str]; exact sz_le h.1
      · have e : a ++ b = sx (tl a ++ tl b) := ext_tl (by rw [tl_append])
        rw [e]; exact h.2
    | _ => exact False.elim h
  | ref a =>
    cases y with
    | ref b =>
      rcases h with ⟨xs, ys, h1, h2, h3, h4⟩ | h | ⟨ys, h1, h2, h3⟩
      · exact op_cat pins s σ H _ _ v u Q I rx ry ⟨a, b, xs, ys, rfl, rfl, h1, h2, sz_le h3, h4⟩
      · exact op_catT pins s σ H _ _ v u Q I rx ry h
      · cases rx
        cases ry
        obtain ⟨its, r1, p1, _⟩ := I.tuple h1
        obtain ⟨its2, r2, p2, _⟩ := I.tuple h2
        cases r1
        obtain ⟨⟨c1, d1, dt1, sl1⟩, e1, f1, n1, g1⟩ := p1
        obtain ⟨⟨c2, d2, dt2, sl2⟩, e2, f2, n2, g2⟩ := p2
        simp only at f1 g1 f2 g2
        subst f1 g1 f2 g2
        exact concat_meets ⟨_, e1, rfl⟩ ⟨_, e2, rfl⟩ noFill_tuple_add seq_tuple_add PySem.F.slot_tuple_add PySem.F.entry_tuple_add (PySem.F.args_tuple_add_2 _ _) (tup_add0 a b _ _ n1 n2 d1 d2 sl1 sl2 rfl) ⟨e1, e2, .ref b, H, I, rfl, h3⟩
    | _ => exact False.elim h
  | _ => exact False.elim h
/-- a text so often -/
def repS (l : List Nat) (n : Int) : List Nat := (List.replicate n.toNat l).flatten
theorem foldl_cat : ∀ (k : Nat) (c acc : Array Nat), ((List.replicate k c).foldl (· ++ ·) acc).toList = acc.toList ++ (List.replicate k c.toList).flatten
  | 0, c, acc => by simp
  | k + 1, c, acc => by
    rw [List.replicate_succ, List.foldl_cons, foldl_cat k c (acc ++ c), List.replicate_succ, List.flatten_cons, Array.toList_append, List.append_assoc]
theorem mul_tl (a : Str) (n : Int) : Txt.mul a n = sx (repS (tl a) n) := by
  refine ext_tl ?_
  unfold Txt.mul repS
  by_cases h : n < 1
  · rw [if_pos h]
    have e : n.toNat = 0 := by omega
    rw [e]; rfl
  · rw [if_neg h]
    split
    · rename_i hc
      rw [Bool.or_eq_true, beq_iff_eq, beq_iff_eq] at hc
      rcases hc with e | e
      · subst e
        show tl a = (List.replicate (Int.toNat 1) (tl a)).flatten
        simp
      · have e2 : tl a = [] := List.eq_nil_of_length_eq_zero (by rw [← len_tl]; exact e)
        show tl a = (List.replicate n.toNat (tl a)).flatten
        rw [e2]; simp
    · show ((List.replicate n.toNat a.cps).foldl (· ++ ·) #[]).toList = _
      rw [foldl_cat]; rfl
/-- * : ints, a text and an int -/
def rTimes (K : PySem.W.Frag) : R2 := fun x y H Q => match x, y with
  | .int i, .int j => CMulW i j ∧ Q (.int (i * j)) H
  | .str a, .int n => (-1000 ≤ n ∧ n ≤ 1000 ∧ (tl a).length ≤ 1000) ∧ Q (tx (repS (tl a) n)) H
  | .ref _, .int _ => rRep x y H Q
  | _, _ => False
theorem op_times : OpR X (binaryOp .Mult) (rTimes X.K) := by
  intro pins s σ H x y v u Q I rx ry h
  cases x with
  | int i =>
    cases y with
    | int j => exact op_mulW pins s σ H _ _ v u Q I rx ry ⟨i, j, rfl, rfl, h.1, h.2⟩
    | _ => exact False.elim h
  | str a =>
    cases y with
    | int n =>
      obtain ⟨t, rfl⟩ := rx
      obtain ⟨t', rfl⟩ := ry
      obtain ⟨⟨h1, h2, h3⟩, q⟩ := h
      refine SB.mul (mulOk_of 1000 1000 (by rw [len_str]; exact h3) h2 (by omega) (by decide) (by decide)) fun t2 k => ⟨.str (Txt.mul a n), H, I.tok k, ⟨t2, rfl⟩, ?_⟩
      rw [mul_tl]; exact q
    | _ => exact False.elim h
  | ref a =>
    cases y with
    | int n => exact op_rep pins s σ H _ _ v u Q I rx ry h
    | _ => exact False.elim h
  | _ => exact False.elim h

/-- data bear no dicts -/
theorem dp_plain {K : PySem.W.Frag} {H : Hp} : ∀ (d : PyData) (v : V), Dp K H v d → d.plain = true
  | .none, _, _ => rfl
  | .bool _, _, _ => rfl
  | .int _, _, _ => rfl
  | .str _, _, _ => rfl
  | .list ds, _, h => by
    cases h with
    | lst _ ha => exact all ds _ ha
  | .tuple ds, _, h => by
    cases h with
    | tup _ ha => exact all ds _ ha
  | .dict _, _, h => by cases h
where all {K : PySem.W.Frag} {H : Hp} : ∀ (ds : List PyData) (vs : List V), DpAll K H vs ds → PyData.plainAll ds = true
  | [], _, _ => rfl
  | d :: ds, _, h => by
    cases h with
    | cons h1 h2 =>
      show (d.plain && PyData.plainAll ds) = true
      rw [dp_plain d _ h1, all ds _ h2]; rfl
theorem un160 {A : Around} {k : Nat} (hr : Room k A) : A.units + 160 < cLine := by have := hr.un; omega
/-- ==, != : what is told apart at once, or data of any depth -/
def rEqP (K : PySem.W.Frag) : R2 := fun x y H Q => ∃ d e, Dp K H x d ∧ Dp K H y e ∧ min d.depth e.depth < 160 ∧ Q (.bl (PyData.eqv d e)) H
def rNeP (K : PySem.W.Frag) : R2 := fun x y H Q => ∃ d e, Dp K H x d ∧ Dp K H y e ∧ min d.depth e.depth < 160 ∧ Q (.bl (!PyData.eqv d e)) H
theorem op_eqP (hu : X.A.units + 160 < cLine) : OpR X (compareOp .Eq) (rEqP X.K) := by
  intro pins s σ H x y v u Q I rx ry h
  obtain ⟨d, e, hd, he, sd, q⟩ := h
  obtain ⟨as, r1⟩ := Dp.reads I d x v hd rx
  obtain ⟨bs, r2⟩ := Dp.reads I e y u he ry
  exact SeqAt.eq_plain r1 r2 (dp_plain d x hd) (dp_plain e y he) (by omega) ⟨.bl _, H, I, rfl, q⟩
theorem op_neP (hu : X.A.units + 160 < cLine) : OpR X (compareOp .NotEq) (rNeP X.K) := by
  intro pins s σ H x y v u Q I rx ry h
  obtain ⟨d, e, hd, he, sd, q⟩ := h
  obtain ⟨as, r1⟩ := Dp.reads I d x v hd rx
  obtain ⟨bs, r2⟩ := Dp.reads I e y u he ry
  exact SeqAt.ne_plain r1 r2 (dp_plain d x hd) (dp_plain e y he) (by omega) ⟨.bl _, H, I, rfl, q⟩
def rEqq (K : PySem.W.Frag) : R2 := fun x y H Q => match x, y with
  | .ref _, _ => rEqP K x y H Q
  | _, .ref _ => rEqP K x y H Q
  | _, _ => scal x y = true ∧ Q (.bl (decide (x = y))) H
def rNeq (K : PySem.W.Frag) : R2 := fun x y H Q => match x, y with
  | .ref _, _ => rNeP K x y H Q
  | _, .ref _ => rNeP K x y H Q
  | _, _ => scal x y = true ∧ Q (.bl (!decide (x = y))) H
theorem op_eqq (hu : X.A.units + 160 < cLine) : OpR X (compareOp .Eq) (rEqq X.K) := by
  intro pins s σ H x y v u Q I rx ry h
  unfold rEqq at h
  split at h
  · exact op_eqP hu pins s σ H _ _ v u Q I rx ry h
  · exact op_eqP hu pins s σ H _ _ v u Q I rx ry h
  · exact op_eq pins s σ H _ _ v u Q I rx ry h
theorem op_neq (hu : X.A.units + 160 < cLine) : OpR X (compareOp .NotEq) (rNeq X.K) := by
  intro pins s σ H x y v u Q I rx ry h
  unfold rNeq at h
  split at h
  · exact op_neP hu pins s σ H _ _ v u Q I rx ry h
  · exact op_neP hu pins s σ H _ _ v u Q I rx ry h
  · exact op_ne pins s σ H _ _ v u Q I rx ry h

/-- in, not in: a text in a text (one sign), else in a list or tuple of flat things -/
def rInn (K : PySem.W.Frag) : R2 := fun x y H Q => match x, y with
  | .str a, .str z => (∃ c, tl a = [c] ∧ Q (.bl (decide (c ∈ tl z))) H) ∨ Q (.bl (!(Builtin.Str.occurrences z a 0 z.length 1).isEmpty)) H
  | _, .ref _ => rIn K false x y H Q
  | _, _ => False
def rNin (K : PySem.W.Frag) : R2 := fun x y H Q => match x, y with
  | .str a, .str z => (∃ c, tl a = [c] ∧ Q (.bl (!decide (c ∈ tl z))) H) ∨ Q (.bl (!(!(Builtin.Str.occurrences z a 0 z.length 1).isEmpty))) H
  | _, .ref _ => rIn K true x y H Q
  | _, _ => False
theorem one_sign {a : Str} {c : Nat} (h : tl a = [c]) : a = ⟨#[c]⟩ := ext_tl h
theorem op_inn : OpR X (compareOp .In) (rInn X.K) := by
  intro pins s σ H x y v u Q I rx ry h
  unfold rInn at h
  split at h
  · rcases h with ⟨c, e, q⟩ | q
    · rename_i a z
      have e2 := one_sign e
      subst e2
      exact op_in_sign pins s σ H _ _ v u Q I rx ry ⟨c, z, rfl, rfl, q⟩
    · exact op_in_str pins s σ H _ _ v u Q I rx ry ⟨_, _, rfl, rfl, q⟩
  · exact op_in_seq pins s σ H _ _ v u Q I rx ry h
  · exact False.elim h
theorem op_nin : OpR X (compareOp .NotIn) (rNin X.K) := by
  intro pins s σ H x y v u Q I rx ry h
  unfold rNin at h
  split at h
  · rcases h with ⟨c, e, q⟩ | q
    · rename_i a z
      have e2 := one_sign e
      subst e2
      exact op_notIn_sign pins s σ H _ _ v u Q I rx ry ⟨c, z, rfl, rfl, q⟩
    · exact op_notin_str pins s σ H _ _ v u Q I rx ry ⟨_, _, rfl, rfl, q⟩
  · exact op_notIn_seq pins s σ H _ _ v u Q I rx ry h
  · exact False.elim h

/-- o[i]: a text, a list, a tuple -/
def rItem (K : PySem.W.Frag) : R2 := fun x y H Q => match x, y with
  | .str z, .int i => (tl z).length ≤ 100000 ∧ ∃ c, atI (tl z) i = some c ∧ Q (tx [c]) H
  | .ref p, .int i => ∃ xs v, (SqL K H p xs ∨ SqT K H p xs) ∧ atI xs i = some v ∧ Q v H
  | _, _ => False
theorem ix_item : IxR X (rItem X.K) := by
  intro value slice pins s σ H x y v u Q I rx ry h hs
  refine ix_seq value slice pins s σ H x y v u Q I rx ry ?_ hs
  unfold rItem at h
  split at h
  · obtain ⟨h1, c, h2, h3⟩ := h
    exact .inr (.inr ⟨_, _, c, rfl, rfl, by rw [len_str]; exact sz_le h1, h2, h3⟩)
  · obtain ⟨xs, w, h1 | h1, h2, h3⟩ := h
    · exact .inl ⟨_, xs, _, w, rfl, rfl, h1, h2, h3⟩
    · exact .inr (.inl ⟨_, xs, _, w, rfl, rfl, h1, h2, h3⟩)
  · exact False.elim h

/-- o[i:j] -/
def cutL (l : List Nat) (lo hi : Option Int) : List Nat := (l.drop (HT.sIx l.length 0 lo)).take (HT.sIx l.length l.length hi - HT.sIx l.length 0 lo)
theorem cutS_eq (z : Str) (lo hi : Option Int) : cutS z lo hi = sx (cutL (tl z) lo hi) := by
  unfold cutS cutL
  rw [len_str]
def rCut (K : PySem.W.Frag) : V → Option Int → Option Int → Hp → VK → Prop := fun x lo hi H Q => match x with
  | .str z => (tl z).length ≤ 100000 ∧ Q (tx (cutL (tl z) lo hi)) H
  | .ref _ => rSlL K x lo hi H Q ∨ rSlT K x lo hi H Q
  | _ => False
theorem sl_cut : SlR X (rCut X.K) := by
  have h0 := SlR.or (X := X) sl_list sl_tup
  have h1 := SlR.or (X := X) sl_str h0
  intro pins s σ H x v vl vu lo hi sl Q I rx hsl pl pu h
  refine h1 pins s σ H x v vl vu lo hi sl Q I rx hsl pl pu ?_
  cases x with
  | str z =>
    refine .inl ⟨z, rfl, by rw [len_str]; exact sz_le h.1, ?_⟩
    rw [cutS_eq]; exact h.2
  | ref a => exact .inr h
  | _ => exact False.elim h

/-- len -/
def rLenW (K : PySem.W.Frag) : List V → Hp → VK → Prop := fun xs H Q => match xs with
  | [.str z] => (tl z).length ≤ 100000 ∧ Q (.int ((tl z).length : Nat)) H
  | [.ref p] => ∃ ys, (SqL K H p ys ∨ SqT K H p ys) ∧ Q (.int (ys.length : Nat)) H
  | _ => False
theorem call_len1 : CallR X (.builtin "len") (rLenW X.K) := by
  intro pins s σ H xs us Q I r h
  refine call_len pins s σ H xs us Q I r ?_
  unfold rLenW at h
  split at h
  · rename_i z
    refine ⟨_, (tl z).length, rfl, ⟨by rw [len_str]; exact sz_le h.1, (len_str z).symm⟩, h.2⟩
  · obtain ⟨ys, h1 | h1, h2⟩ := h
    · exact ⟨_, _, rfl, .inl ⟨ys, h1, rfl⟩, h2⟩
    · exact ⟨_, _, rfl, .inr ⟨ys, h1, rfl⟩, h2⟩
  · exact False.elim h
/-- int of an int, a bool -/
def rInt1 : List V → Hp → VK → Prop := fun xs H Q => match xs with
  | [.int i] => Q (.int i) H
  | [.bl k] => Q (.int (if k then 1 else 0)) H
  | _ => False
theorem call_intM : CallR X (.type "int") rInt1 := by
  intro pins s σ H xs us Q I r h
  refine call_int1 pins s σ H xs us Q I r ?_
  unfold rInt1 at h
  split at h
  · exact .inl ⟨_, rfl, h⟩
  · exact .inr ⟨_, rfl, h⟩
  · exact False.elim h

/-! ## one def of the text called by another -/
structure Cal (P : Program) (w : World) (K : PySem.W.Frag) (mg : Str → Option Value) (base : Heap) (x : Str) (ps : List Str) (k : Nat) (sp : Sp) : Prop where
  ex : ∃ f fd, FnOk P w K mg base CX0 k f fd ps sp ∧ mg x = some (.ref f) ∧ PySem.W.keepIn K (.ref f) = true ∧ Binds K fd ps []
theorem Cal.call {x : Str} {ps : List Str} {k : Nat} {sp : Sp} {e : Expr} {es : List Expr} {t : TA} {p pos : Pos} (c : Cal X.prog X.w X.K X.mg X.base x ps k sp) (hr : Room k X.A) (hg : Gl X x) (ha : PA X (e :: es) t)
    (hdb : (x == ("__debug__" : Str)) = false := by decide) (he : starEach (e :: es) X.env = (false, eval e X.env) :: starEach es X.env := by rfl) (hpl : (backTo pos (starEach es X.env)).any (·.1) = false := by rfl) :
    PE X (.Call (.Name x p) (e :: es) [] pos) (tCall sp [] E0 t) := by
  obtain ⟨f, fd, F, hm, hk, hb⟩ := c.ex
  exact pe_call F hr hg hm hk hb .nil pass0 ha hdb he hpl
theorem Cal.mono {P : Program} {w : World} {K : PySem.W.Frag} {mg : Str → Option Value} {base : Heap} {x : Str} {ps : List Str} {j k : Nat} {sp : Sp} (c : Cal P w K mg base x ps j sp) (h : j ≤ k) : Cal P w K mg base x ps k sp := by
  obtain ⟨f, fd, F, r⟩ := c.ex
  exact ⟨f, fd, F.mono h, r⟩
end

/-! ## what stays as it was, all but what stands at p -/
def Kp (p : Addr) (H H' : Hp) : Prop := ∀ b o, b ≠ p → H b = some o → H' b = some o
theorem Kp.refl (p : Addr) (H : Hp) : Kp p H H := fun _ _ _ h => h
theorem Kp.trans {p : Addr} {H H1 H2 : Hp} (a : Kp p H H1) (b : Kp p H1 H2) : Kp p H H2 := fun c o n h => b c o n (a c o n h)
theorem Kp.of {p : Addr} {H H' : Hp} (s : Same H H') : Kp p H H' := fun b o _ h => s b o h
theorem Kp.new {p q : Addr} {H H' : Hp} {o : HO} (a : Kp p H H') (h : H' q = none) : Kp p H (upd H' q o) := fun b u n e => by
  rw [upd_ne (ne_of_none (a b u n e) h)]
  exact a b u n e
/-- a thing that was not there before may change -/
theorem Kp.mut {p q : Addr} {H H' : Hp} {o : HO} (a : Kp p H H') (h : H q = none) : Kp p H (upd H' q o) := fun b u n e => by
  rw [upd_ne (ne_of_none e h)]
  exact a b u n e
theorem Kp.free {p q : Addr} {H H' : Hp} (a : Kp p H H') (hp : ∃ o, H' p = some o) (h : H' q = none) : H q = none := by
  cases e : H q with
  | none => rfl
  | some o =>
    by_cases n : q = p
    · subst n
      obtain ⟨o', e'⟩ := hp
      rw [h] at e'
      cases e'
    · rw [a q o n e] at h
      cases h
theorem Same.new {H : Hp} {q : Addr} {o : HO} (h : H q = none) : Same H (upd H q o) := fun b u e => by
  rw [upd_ne (ne_of_none e h)]
  exact e
theorem Same.new' {H H' : Hp} {q : Addr} {o : HO} (a : Same H H') (h : H' q = none) : Same H (upd H' q o) := a.trans (Same.new h)
theorem Same.mut {H H' : Hp} {q : Addr} {o : HO} (a : Same H H') (h : H q = none) : Same H (upd H' q o) := fun b u e => by
  rw [upd_ne (ne_of_none e h)]
  exact a b u e

/-! ## more rules -/
section
variable {X : Cx}
/-- a written text by its signs -/
theorem pe_txt {x : Str} {l : List Nat} {j : Nat} {pos : Pos} (h : x = sx l) : PE X (.Constant (.str x) j pos) (tC (tx l)) := by
  subst h
  exact pe_str
/-- a walked thing: a text, a list, a tuple -/
def iAny (K : PySem.W.Frag) (te : TE) : TI := fun σ H R => te σ H fun x H1 => match x with
  | .str z => R (Its z) H1
  | .ref a => (∃ xs, SqL K H1 a xs ∧ R (Itl K a) H1) ∨ (∃ xs, SqT K H1 a xs ∧ R (Itt K a) H1)
  | _ => False
theorem pi_any {tg e : Expr} {te : TE} (he : PE X e te) : PI X tg e (iAny X.K te) := by
  refine ⟨fun pins s σ H R I h => ?_⟩
  refine thn (he.run pins s σ H _ I h) fun v s1 ⟨x, H1, I1, r1, q1⟩ => ?_
  cases x with
  | str z =>
    obtain ⟨t, rfl⟩ := r1
    cases ha : z.cps.all (· < 128)
    · exact wpAny_pyIter_wide ha (pi_one (tk := s1.toks) I1 _ (turn_str _ z t "str_iterator" (.inr rfl)) ⟨_, Heap.get?_push_size _ rfl, rfl, rfl⟩ q1)
    · exact wpAny_pyIter_ascii ha (pi_one (tk := s1.toks) I1 _ (turn_str _ z t "str_ascii_iterator" (.inl rfl)) ⟨_, Heap.get?_push_size _ rfl, rfl, rfl⟩ q1)
  | ref a =>
    cases r1
    rcases q1 with ⟨xs, hq, q⟩ | ⟨xs, hq, q⟩
    · obtain ⟨its, rv, p, hz⟩ := I1.list hq
      exact wpAny_pyIter_list p.isList (pi_one (tk := s1.toks) I1 _ (turn_list a _) ⟨_, Heap.get?_push_size _ rfl, rfl, rfl⟩ q)
    · obtain ⟨its, rv, p, hz⟩ := I1.tuple hq
      exact wpAny_pyIter_tuple (show s1.heap.IsTuple a its.toArray from p) (pi_one (tk := s1.toks) I1 _ (turn_tuple a _) ⟨_, Heap.get?_push_size _ rfl, rfl, rfl⟩ q)
  | _ => exact False.elim q1
/-- operators on ints, told by cases -/
def rMinus : R2 := fun x y H Q => match x, y with
  | .int i, .int j => Q (.int (i - j)) H
  | _, _ => False
theorem op_minus : OpR X (binaryOp .Sub) rMinus := by
  intro pins s σ H x y v u Q I rx ry h
  unfold rMinus at h
  split at h
  · exact op_sub pins s σ H _ _ v u Q I rx ry ⟨_, _, rfl, rfl, h⟩
  · exact False.elim h
def rRest : R2 := fun x y H Q => match x, y with
  | .int i, .int j => 0 < j ∧ Q (.int (i % j)) H
  | _, _ => False
theorem op_rest : OpR X (binaryOp .Mod) rRest := by
  intro pins s σ H x y v u Q I rx ry h
  unfold rRest at h
  split at h
  · exact op_mod pins s σ H _ _ v u Q I rx ry ⟨_, _, rfl, rfl, h⟩
  · exact False.elim h
def rOver : R2 := fun x y H Q => match x, y with
  | .int i, .int j => CDivW i j ∧ Q (.int (i / j)) H
  | _, _ => False
theorem op_over : OpR X (binaryOp .FloorDiv) rOver := by
  intro pins s σ H x y v u Q I rx ry h
  unfold rOver at h
  split at h
  · exact op_fdivW pins s σ H _ _ v u Q I rx ry ⟨_, _, rfl, rfl, h⟩
  · exact False.elim h
def rPower : R2 := fun x y H Q => match x, y with
  | .int i, .int j => CPow i j ∧ Q (.int (i ^ j.toNat)) H
  | _, _ => False
theorem op_power : OpR X (binaryOp .Pow) rPower := by
  intro pins s σ H x y v u Q I rx ry h
  unfold rPower at h
  split at h
  · exact op_pow pins s σ H _ _ v u Q I rx ry ⟨_, _, rfl, rfl, h⟩
  · exact False.elim h
def rLess : R2 := fun x y H Q => match x, y with
  | .int i, .int j => Q (.bl (decide (i < j))) H
  | _, _ => False
theorem op_less : OpR X (compareOp .Lt) rLess := by
  intro pins s σ H x y v u Q I rx ry h
  unfold rLess at h
  split at h
  · exact op_lt pins s σ H _ _ v u Q I rx ry ⟨_, _, rfl, rfl, h⟩
  · exact False.elim h
def rLeq : R2 := fun x y H Q => match x, y with
  | .int i, .int j => Q (.bl (decide (i ≤ j))) H
  | _, _ => False
theorem op_leq : OpR X (compareOp .LtE) rLeq := by
  intro pins s σ H x y v u Q I rx ry h
  unfold rLeq at h
  split at h
  · exact op_le pins s σ H _ _ v u Q I rx ry ⟨_, _, rfl, rfl, h⟩
  · exact False.elim h
def rMore : R2 := fun x y H Q => match x, y with
  | .int i, .int j => Q (.bl (decide (j < i))) H
  | _, _ => False
theorem op_more : OpR X (compareOp .Gt) rMore := by
  intro pins s σ H x y v u Q I rx ry h
  unfold rMore at h
  split at h
  · exact op_gt pins s σ H _ _ v u Q I rx ry ⟨_, _, rfl, rfl, h⟩
  · exact False.elim h
def rMeq : R2 := fun x y H Q => match x, y with
  | .int i, .int j => Q (.bl (decide (j ≤ i))) H
  | _, _ => False
theorem op_meq : OpR X (compareOp .GtE) rMeq := by
  intro pins s σ H x y v u Q I rx ry h
  unfold rMeq at h
  split at h
  · exact op_ge pins s σ H _ _ v u Q I rx ry ⟨_, _, rfl, rfl, h⟩
  · exact False.elim h
def rNeg : V → Hp → VK → Prop := fun x H Q => match x with
  | .int i => Q (.int (-i)) H
  | _ => False
theorem un_minus : UnR X (unaryOp .USub) rNeg := by
  intro pins s σ H x v Q I rx h
  unfold rNeg at h
  split at h
  · exact un_neg pins s σ H _ v Q I rx ⟨_, rfl, h⟩
  · exact False.elim h
def rAbs : List V → Hp → VK → Prop := fun xs H Q => match xs with
  | [.int i] => Q (.int (if i < 0 then -i else i)) H
  | _ => False
theorem call_abs1 : CallR X (.builtin "abs") rAbs := by
  intro pins s σ H xs us Q I r h
  unfold rAbs at h
  split at h
  · exact call_abs pins s σ H _ us Q I r ⟨_, rfl, h⟩
  · exact False.elim h
def rMin2 : List V → Hp → VK → Prop := fun xs H Q => match xs with
  | [.int i, .int j] => Q (.int (min i j)) H
  | _ => False
theorem call_min1 (hc : X.calm = true) : CallR X (.builtin "min") rMin2 := by
  intro pins s σ H xs us Q I r h
  unfold rMin2 at h
  split at h
  · rename_i i j
    refine call_min2 hc pins s σ H _ us Q I r ⟨_, _, rfl, ?_⟩
    rw [show (if j < i then j else i) = min i j by split <;> omega]
    exact h
  · exact False.elim h
/-- the truth of a value -/
def tTruth (K : PySem.W.Frag) (te : TE) : TT := fun σ H Q => te σ H fun x H' => match x with
  | .bl b => Q b H'
  | .int i => Q (i != 0) H'
  | _ => ∃ k, TruV K x H' k ∧ Q k H'
theorem pt_tru {e : Expr} {te : TE} (ha : PE X e te) (he : ∀ whole, isTrue e X.env whole = (do let v ← whole; standAt e.pos; holding [v] (truthy v))) : PT X e (tTruth X.K te) := by
  refine ⟨fun pins s σ H Q I h => ?_⟩
  refine isTrue_plain (thn (ha.run pins s σ H _ I h) fun v s1 ⟨x, H1, I1, r1, q1⟩ => tru_ok pins s1 σ H1 x v Q I1 r1 ?_) (he _)
  cases x with
  | bl b => exact ⟨b, rfl, q1⟩
  | int i => exact ⟨_, rfl, q1⟩
  | _ => exact q1
end
/-! ## the defs of the text -/
def Df (K : PySem.W.Frag) (mg : Str → Option Value) (x : Str) (st : Stmt) (ps : List Str) : Prop :=
  ∃ f fd, Fun K x x st f fd ∧ mg x = some (.ref f) ∧ ∀ us : List Value, us.length = ps.length → bindArgs fd ⟨us, []⟩ = pure (ps.zip us)
theorem df_mk {K : PySem.W.Frag} {h : Heap} {mg : Str → Option Value} {x : Str} {st : Stmt} {ps : List Str} {f : Addr} {oc : Value} {od an : Option Addr} {osl : Array (Option Value)} {kV doc pm cdv ct : Value}
    (X : K.In h) (G : h.Ns mainGlobals mg) (a : PySem.W.nsIn K mainGlobals x = some (some (.ref f)))
    (l : K.lookup f = some ⟨oc, od, .func (PySem.W.fnOf x x (defArgs st) (defBody st) (defScope st) .none kV doc pm an cdv ct), osl⟩) (c : PySem.W.codeIn K cdv x = true) (k : PySem.W.keepIn K (.ref f) = true)
    (hb : ∀ (kV doc pm : Value) (an : Option Addr) (cdv ct : Value) (us : List Value), us.length = ps.length → bindArgs (PySem.W.fnOf x x (defArgs st) (defBody st) (defScope st) .none kV doc pm an cdv ct) ⟨us, []⟩ = pure (ps.zip us)) :
    Df K mg x st ps := ⟨f, _, fun_mk (st := st) l c k, PySem.W.mg_of X G a, hb kV doc pm an cdv ct⟩
theorem Df.cal {P : Program} {w : World} {K : PySem.W.Frag} {mg : Str → Option Value} {base : Heap} {x : Str} {st : Stmt} {ps N : List Str} {k : Nat} {sp : Sp} (D : Df K mg x st ps) (S : FnScope N ps (defScope st))
    (len : ∀ vs H Q E, sp vs H Q E → vs.length = ps.length)
    (hbody : ∀ (f : Addr) (cdv : Value) (A : Around) (outer : List Env) (s : Shared) (H : Hp) (vs : List V) (Q : VK) (E : XK), Room k (A.deeper (envOfC x (defScope st) s.heap.objs.size f cdv)) → sp vs H Q E →
      ∃ t, PSs (cxOf CX0 P w K mg base N x (defScope st) f cdv A outer s H E).nox (defBody st) t ∧ t { nx := fun _ H' => Q .non H', rt := Q } (start N vs) H) : Cal P w K mg base x ps (k + 1) sp := by
  obtain ⟨f, fd, F, hm, hb⟩ := D
  exact ⟨f, fd, F.ok S len (hbody f), hm, F.kp, .all hb⟩
/-! ## more of built-ins -/
section
variable {X : Cx}
def rList1 (K : PySem.W.Frag) : List V → Hp → VK → Prop := fun xs H Q => match xs with
  | [.ref p] => ∃ ys, (SqL K H p ys ∨ SqT K H p ys) ∧ ∀ l, H l = none → Q (.ref l) (upd H l (.lst ys))
  | _ => False
theorem call_list1 : CallR X (.type "list") (rList1 X.K) := by
  intro pins s σ H xs us Q I r h
  unfold rList1 at h
  split at h
  · obtain ⟨ys, h1, h2⟩ := h
    exact call_list_of pins s σ H _ us Q I r ⟨_, ys, rfl, h1, h2⟩
  · exact False.elim h
/-- sep.join(texts) -/
def joinL (a : List Nat) : List (List Nat) → List Nat
  | [] => []
  | [x] => x
  | x :: y :: r => x ++ (a ++ joinL a (y :: r))
def rJoin (K : PySem.W.Frag) : V → List V → Hp → VK → Prop := fun x xs H Q => match x, xs with
  | .str a, [.ref p] => ∃ ys : List (List Nat), (SqL K H p (ys.map tx) ∨ SqT K H p (ys.map tx)) ∧ (ys.map List.length).sum + ys.length * (tl a).length ≤ 100000 ∧ Q (tx (joinL (tl a) ys)) H
  | _, _ => False
theorem foldl_join (a : Array Nat) : ∀ (r : List Str) (acc : Array Nat), (r.foldl (fun acc p => acc ++ a ++ p.cps) acc).toList = acc.toList ++ (r.map fun p => a.toList ++ p.cps.toList).flatten
  | [], acc => by simp
  | x :: r, acc => by
    rw [List.foldl_cons, foldl_join a r]
    simp
theorem joinL_cons (a x : List Nat) : ∀ r : List (List Nat), joinL a (x :: r) = x ++ (r.map fun p => a ++ p).flatten
  | [] => by simp [joinL]
  | y :: r => by
    rw [joinL, joinL_cons a y r]
    simp
theorem join_eq (a : Str) (ys : List (List Nat)) : Txt.join a (ys.map sx) = sx (joinL (tl a) ys) := by
  refine ext_tl ?_
  cases ys with
  | nil => rfl
  | cons x r =>
    rw [joinL_cons]
    show ((((x :: r).map sx).drop 1).foldl (fun acc p => acc ++ a.cps ++ p.cps) (((x :: r).map sx).headD Str.empty).cps).toList = _
    rw [foldl_join]
    simp [List.map_map, Function.comp_def]
theorem mt_joinT : MtR X "str.join" (rJoin X.K) := by
  intro pins s σ H x xs v us Q I rx rs h
  unfold rJoin at h
  split at h
  · rename_i a p
    obtain ⟨ys, h1, h2, h3⟩ := h
    refine mt_join pins s σ H _ _ v us Q I rx rs ⟨a, p, ys.map sx, rfl, rfl, ?_, ?_, ?_⟩
    · rw [List.map_map]; exact h1
    · rw [List.map_map, List.length_map, len_str a]
      have e : (fun x : Str => x.length) ∘ sx = List.length := by
        funext l; exact len_sx l
      rw [show ((fun (x : Str) => x.length) ∘ sx) = List.length from e]
      exact Nat.le_trans h2 (by decide)
    · rw [join_eq]; exact h3
  · exact False.elim h
theorem pe_joinT {o e : Expr} {to te : TE} {apos pos : Pos} (ho : PE X o to) (he : PE X e te) (hs : starEach [e] X.env = [(false, eval e X.env)] := by rfl) (hbase : attributeBase o "join" X.env (eval o X.env) = eval o X.env := by rfl) (hline : (apos.endLine == pos.line) = true := by rfl) :
    PE X (.Call (.Attribute o "join" apos) [e] [] pos) (tM1 (rJoin X.K) to te) := pe_m1 PySem.F.slot_str_join PySem.F.type_str_join mt_joinT ho he hs hbase hline
end
/-! ## tests whose answer is open -/
theorem iteB {b : Bool} {A B : Prop} (h1 : b = true → A) (h2 : b = false → B) : if b = true then A else B := by
  cases b with
  | true => rw [if_pos rfl]; exact h1 rfl
  | false => rw [if_neg Bool.false_ne_true]; exact h2 rfl
theorem iteD {c : Prop} [Decidable c] {A B : Prop} (h1 : c → A) (h2 : ¬ c → B) : if decide c = true then A else B := by
  by_cases h : c
  · rw [if_pos (decide_eq_true h)]; exact h1 h
  · rw [if_neg (fun q => h (of_decide_eq_true q))]; exact h2 h
theorem iteN {c : Prop} [Decidable c] {A B : Prop} (h1 : ¬ c → A) (h2 : c → B) : if (!decide c) = true then A else B := by
  by_cases h : c
  · rw [decide_eq_true h]; exact h2 h
  · rw [decide_eq_false h]; exact h1 h
/-! ## equal data -/
/-- no truth values and no dicts within: data are equal where they are the same -/
def noB : PyData → Bool
  | .none => true
  | .bool _ => false
  | .int _ => true
  | .str _ => true
  | .list xs => all xs
  | .tuple xs => all xs
  | .dict _ => false
where all : List PyData → Bool
  | [] => true
  | x :: xs => noB x && all xs
theorem eqv_noB : ∀ (d e : PyData), noB d = true → noB e = true → (PyData.eqv d e = true ↔ d = e)
  | .none, e, _, h => by cases e <;> simp_all [noB, PyData.eqv]
  | .bool _, e, h, _ => by simp [noB] at h
  | .int i, e, _, h => by cases e <;> simp_all [noB, PyData.eqv]
  | .str i, e, _, h => by cases e <;> simp_all [noB, PyData.eqv]
  | .list xs, e, h1, h => by
    cases e with
    | list ys =>
      have := all xs ys h1 h
      rw [PyData.eqv, this]
      exact ⟨fun q => by rw [q], fun q => by injection q⟩
    | _ => simp_all [noB, PyData.eqv]
  | .tuple xs, e, h1, h => by
    cases e with
    | tuple ys =>
      have := all xs ys h1 h
      rw [PyData.eqv, this]
      exact ⟨fun q => by rw [q], fun q => by injection q⟩
    | _ => simp_all [noB, PyData.eqv]
  | .dict _, e, h, _ => by simp [noB] at h
where all : ∀ (ds es : List PyData), noB.all ds = true → noB.all es = true → (PyData.eqvAll ds es = true ↔ ds = es)
  | [], [], _, _ => by simp [PyData.eqvAll]
  | [], _ :: _, _, _ => by simp [PyData.eqvAll]
  | _ :: _, [], _, _ => by simp [PyData.eqvAll]
  | d :: ds, e :: es, h1, h2 => by
    rw [noB.all, Bool.and_eq_true] at h1 h2
    rw [PyData.eqvAll, Bool.and_eq_true, eqv_noB d e h1.1 h2.1, all ds es h1.2 h2.2]
    simp
theorem eqv_self (d : PyData) (h : noB d = true) : PyData.eqv d d = true := (eqv_noB d d h h).mpr rfl
theorem depth_flat : ∀ ds : List PyData, (∀ d ∈ ds, d.depth = 0) → PyData.depthAll ds = 0
  | [], _ => by rw [PyData.depthAll]
  | d :: ds, h => by
    rw [PyData.depthAll, h d List.mem_cons_self, depth_flat ds fun e he => h e (List.mem_cons_of_mem _ he)]; rfl
theorem noB_ints : ∀ ns : List Int, noB.all (ns.map PyData.int) = true
  | [] => rfl
  | n :: r => by
    show (noB (.int n) && noB.all (r.map PyData.int)) = true
    rw [noB_ints r]; rfl
theorem depth_ints (ns : List Int) : PyData.depthAll (ns.map PyData.int) = 0 := depth_flat _ fun d hd => by
  obtain ⟨n, _, rfl⟩ := List.mem_map.mp hd
  simp [PyData.depth]
theorem dp_ints {K : PySem.W.Frag} {H : Hp} : ∀ ns : List Int, DpAll K H (ns.map V.int) (ns.map PyData.int)
  | [] => .nil
  | n :: r => .cons (.int n) (dp_ints r)
/-! ## a comprehension: what is made so far, and a word that does not look at the new list -/
theorem lcW {J : It} {n : Nat} {G : Hp → Prop} {Y : Nat → Hp → V → Hp → Prop} (w : Walk J n G Y) {g : TG} {tt : TT} {te : TE} {vs : List Nat} {σ : L2.St} {H1 : Hp} {D : Addr} {Qd : Hp → Prop}
    (I : Nat → List V → Hp → Prop) (stab : ∀ i acc H o, I i acc H → I i acc (upd H D o)) (hG : ∀ i acc H, i ≤ n → I i acc H → G H) (h0 : I 0 [] H1) (len : ∀ i acc H, I i acc H → acc.length ≤ 90000)
    (hs : ∀ i x acc H H', i < n → I i acc H → H D = some (.lst acc) → Y i H x H' → ∀ (K1 : V → Hp → Prop) (K2 : Hp → Prop), (∀ y H4, H4 D = some (.lst acc) → I (i + 1) (acc ++ [y]) H4 → K1 y H4) → (∀ H3, H3 D = some (.lst acc) → I (i + 1) acc H3 → K2 H3) →
      g x (wipe σ vs) H' fun σ2 H2 => wipe σ2 vs = wipe σ vs ∧ tt σ2 H2 fun b H3 => if b = true then te σ2 H3 K1 else K2 H3)
    (hd : ∀ acc H, H D = some (.lst acc) → I n acc H → Qd H) :
    ∃ W : Nat → Nat → Hp → Prop, (∃ m, W 0 m (upd H1 D (.lst []))) ∧ ∀ i m H, W i m H →
      (J.stop i H ∧ Qd H) ∨ (J.go i H ∧ ∃ Nx : Hp → Prop, (∀ H', Nx H' → ∃ m', m' < m ∧ W (i + 1) m' H') ∧ ∀ x H', J.yld i H x H' → g x (wipe σ vs) H' fun σ2 H2 => wipe σ2 vs = wipe σ vs ∧ tt σ2 H2 fun b H3 =>
        if b = true then te σ2 H3 fun y H4 => ∃ acc, H4 D = some (.lst acc) ∧ acc.length < sizeLine ∧ Nx (upd H4 D (.lst (acc ++ [y]))) else Nx H3) :=
  lc_it w (fun i H => ∃ acc, H D = some (.lst acc) ∧ I i acc H) ⟨[], upd_same, stab _ _ _ _ h0⟩ (fun i H hi ⟨acc, _, h⟩ => hG i acc H hi h)
    (fun i x H H' hi ⟨acc, e, h⟩ y => hs i x acc H H' hi h e y _ _
      (fun y H4 e4 h4 => ⟨acc, e4, sz_lt (by have := len _ _ _ h; omega), acc ++ [y], upd_same, stab _ _ _ _ h4⟩) fun H3 e3 h3 => ⟨acc, e3, h3⟩)
    fun H ⟨acc, e, h⟩ => hd acc H e h
/-! ## what is read stays -/
theorem sqL_kp {K : PySem.W.Frag} {p a : Addr} {H H' : Hp} {xs : List V} (k : Kp p H H') (hp : ∀ o, H p = some o → (∀ ys, o ≠ .lst ys) ∧ ∀ u ys, o ≠ .frz u (.lst ys)) (h : SqL K H a xs) : SqL K H' a xs := by
  rcases h with (h | ⟨o, h⟩) | h
  · exact .inl (.inl (k a _ (fun e => by rw [e] at h; exact (hp _ h).1 _ rfl) h))
  · exact .inl (.inr ⟨o, k a _ (fun e => by rw [e] at h; exact (hp _ h).2 _ _ rfl) h⟩)
  · exact .inr h
theorem sqT_kp {K : PySem.W.Frag} {p a : Addr} {H H' : Hp} {xs : List V} (k : Kp p H H') (hp : ∀ o, H p = some o → (∀ ys, o ≠ .tup ys) ∧ ∀ u ys, o ≠ .frz u (.tup ys)) (h : SqT K H a xs) : SqT K H' a xs := by
  rcases h with (h | ⟨o, h⟩) | h
  · exact .inl (.inl (k a _ (fun e => by rw [e] at h; exact (hp _ h).1 _ rfl) h))
  · exact .inl (.inr ⟨o, k a _ (fun e => by rw [e] at h; exact (hp _ h).2 _ _ rfl) h⟩)
  · exact .inr h
theorem sqT_same {K : PySem.W.Frag} {a : Addr} {H H' : Hp} {xs : List V} (k : Same H H') (h : SqT K H a xs) : SqT K H' a xs := by
  rcases h with (h | ⟨o, h⟩) | h
  · exact .inl (.inl (k _ _ h))
  · exact .inl (.inr ⟨o, k _ _ h⟩)
  · exact .inr h
theorem cutL_take (l : List Nat) (n : Nat) : cutL l none (some (n : Int)) = l.take n := by
  unfold cutL
  rw [HT.sIx_none, HT.sIx_nat]
  simp only [List.drop_zero, Nat.sub_zero]
  by_cases h : n ≤ l.length
  · rw [Nat.min_eq_left h]
  · rw [Nat.min_eq_right (by omega), List.take_of_length_le (Nat.le_refl _), List.take_of_length_le (by omega)]
theorem cutL_drop (l : List Nat) (n : Nat) : cutL l (some (n : Int)) none = l.drop n := by
  unfold cutL
  rw [HT.sIx_none, HT.sIx_nat]
  by_cases h : n ≤ l.length
  · rw [Nat.min_eq_left h, List.take_of_length_le (by simp)]
  · rw [Nat.min_eq_right (by omega), List.drop_of_length_le (Nat.le_refl _), List.drop_of_length_le (by omega)]; simp
theorem cutL_mid (l : List Nat) (m n : Nat) : cutL l (some (m : Int)) (some (n : Int)) = (l.drop m).take (n - m) := by
  unfold cutL
  rw [HT.sIx_nat, HT.sIx_nat]
  by_cases h : m ≤ l.length
  · rw [Nat.min_eq_left h]
    by_cases h2 : n ≤ l.length
    · rw [Nat.min_eq_left h2]
    · have e1 : min n l.length = l.length := by omega
      rw [e1, List.take_of_length_le (by simp), List.take_of_length_le (by simp; omega)]
  · have e1 : min m l.length = l.length := by omega
    rw [e1, List.drop_of_length_le (Nat.le_refl _), List.drop_of_length_le (by omega)]; simp
theorem cutV_take (l : List V) (n : Nat) : cutV l none (some (n : Int)) = l.take n := by
  unfold cutV
  rw [HT.sIx_none, HT.sIx_nat]
  simp only [List.drop_zero, Nat.sub_zero]
  by_cases h : n ≤ l.length
  · rw [Nat.min_eq_left h]
  · rw [Nat.min_eq_right (by omega), List.take_of_length_le (Nat.le_refl _), List.take_of_length_le (by omega)]
theorem cutV_drop (l : List V) (n : Nat) : cutV l (some (n : Int)) none = l.drop n := by
  unfold cutV
  rw [HT.sIx_none, HT.sIx_nat]
  by_cases h : n ≤ l.length
  · rw [Nat.min_eq_left h, List.take_of_length_le (by simp)]
  · rw [Nat.min_eq_right (by omega), List.drop_of_length_le (Nat.le_refl _), List.drop_of_length_le (by omega)]; simp
/-- texts of one sign, joined -/
theorem wjoin1 (l : List Nat) : joinL [] (l.map fun c => [c]) = l := by
  cases l with
  | nil => rfl
  | cons a r =>
    rw [List.map_cons, joinL_cons]
    have : ∀ r : List Nat, ((r.map fun c => [c]).map fun p => [] ++ p).flatten = r := fun r => by
      induction r with
      | nil => rfl
      | cons b r ih => simp at ih ⊢; exact ih
    rw [this]; rfl
theorem sum_one {α : Type} : ∀ l : List α, (l.map fun _ => 1).sum = l.length
  | [] => rfl
  | a :: r => by
    rw [List.map_cons, List.sum_cons, sum_one r, List.length_cons]
    omega
theorem len_ones (l : List Nat) : (((l.map fun s => [s])).map List.length).sum + ((l.map fun s => [s]) : List (List Nat)).length * (tl (sx [])).length = l.length := by
  have e : ((l.map fun s => [s])).map List.length = l.map fun _ => 1 := by simp [List.map_map, Function.comp_def]
  rw [e, sum_one]
  rfl
theorem rep_length (l : List Nat) (n : Int) : (repS l n).length = n.toNat * l.length := by
  unfold repS
  simp
/-- the law's own def: its binding, then what it keeps over any base -/
theorem Df.law {P : Program} {w : World} {K : PySem.W.Frag} {mg : Str → Option Value} {x : Str} {st : Stmt} {ps N : List Str} {k : Nat} {sp : Sp} {fa : Addr} (D : Df K mg x st ps) (hfa : mg x = some (.ref fa)) (S : FnScope N ps (defScope st))
    (len : ∀ vs H Q E, sp vs H Q E → vs.length = ps.length)
    (hbody : ∀ (base : Heap) (f : Addr) (cdv : Value) (A : Around) (outer : List Env) (s : Shared) (H : Hp) (vs : List V) (Q : VK) (E : XK), Room k (A.deeper (envOfC x (defScope st) s.heap.objs.size f cdv)) → sp vs H Q E →
      ∃ t, PSs (cxOf CX0 P w K mg base N x (defScope st) f cdv A outer s H E).nox (defBody st) t ∧ t { nx := fun _ H' => Q .non H', rt := Q } (start N vs) H) :
    ∃ fd : FuncData, (∀ (s : Shared) (us : List Value), us.length = ps.length → BindsTo s fd ⟨us, []⟩ (ps.zip us)) ∧ ∀ base : Heap, FnOk P w K mg base CX0 (k + 1) fa fd ps sp := by
  obtain ⟨f, fd, F, hm, hb⟩ := D
  rw [hfa] at hm
  cases hm
  exact ⟨fd, fun s us hl => .of_eq (hb us hl), fun base => F.ok S len (hbody base fa)⟩
end Wk

namespace Wk
open PySem PySem.Spec PyProof.Rows L2
open TL (tl len_tl ext_tl tl_append mk_tl)

/-! ## what an iterator over a text, a list, a tuple draws -/
structure Drw (P : Program) (w : World) (K : PySem.W.Frag) (it : Addr) (n : Nat) (ys : Nat → Option V) (G : Hp → Prop) (S : Nat → Heap → Prop) : Prop where
  obj : ∀ i h, S i h → ∃ o, h.get? it = some o ∧ ∀ v, o.data ≠ .cell v
  keep : ∀ i h h', S i h → (∀ o, h.get? it = some o → h'.get? it = some o) → S i h'
  drw : ∀ (X : Cx), X.prog = P → X.w = w → X.K = K → ∀ (pins : List (Addr × Obj)) (σ : L2.St) (H : Hp) (s : Shared), Inv X pins σ H s → G H → (∃ i, S i s.heap) → FpOk X pins H it →
    ∃ (fp : List Addr) (PV : Nat → Value → Prop) (St : Nat → Heap → Prop), (∀ A : Around, A.handled = none → Draws P w A it fp n PV St) ∧ it ∈ fp ∧ (∀ b ∈ fp, b = it ∨ ¬ FpOk X pins H b) ∧
      (∀ i, S i s.heap → St i s.heap) ∧ (∀ i h', St i h' → S i h') ∧ ∀ i v, PV i v → ∃ y, ys i = some y ∧ RelV y v
theorem not_fp {X : Cx} {pins : List (Addr × Obj)} {σ : L2.St} {H : Hp} {s : Shared} (I : Inv X pins σ H s) {a : Addr} (h : (∃ u, Rd H a u) ∨ ∃ o, X.K.lookup a = some o) : ¬ FpOk X pins H a := by
  rintro ⟨f0, _, _, f3, _⟩
  rcases h with ⟨u, h | ⟨o, h⟩⟩ | ⟨o, h⟩
  · rw [f0] at h; cases h
  · rw [f0] at h; cases h
  · have hb : X.base.get? a = some o := I.ok.mod.kin a o h
    rcases f3 with f3 | f3
    · exact I.ok.noex a o hb f3
    · exact absurd (Nat.lt_of_lt_of_le (Heap.lt_size (I.ok.bs a o hb).1) f3) (Nat.lt_irrefl _)
theorem drw_text {P : Program} {w : World} {K : PySem.W.Frag} (it : Addr) (z : Str) (t : Tok) : Drw P w K it (tl z).length (fun i => (tl z)[i]?.map fun c => tx [c]) (fun _ => True) (fun i h => h.IsStrIter it (strIterType z) z t i) where
  obj := fun i h ⟨o, e, c, d⟩ => ⟨o, e, fun v q => by rw [d] at q; cases q⟩
  keep := fun i h h' ⟨o, e, r⟩ k => ⟨o, k o e, r⟩
  drw := fun X hP hw hK pins σ H s I hG hS hF => by
    subst hP hw hK
    refine ⟨[it], fun i v => ∃ c u, z.cps[i]? = some c ∧ v = .str ⟨#[c]⟩ u, fun i h => h.IsStrIter it (strIterType z) z t i, fun A hA => ?_, by simp, fun b hb => .inl (by simpa using hb), fun i h => h, fun i h' h => h, fun i v hv => ?_⟩
    · have := Draws.text (prog := X.prog) (w := X.w) hA it z t
      rw [show z.cps.size = (tl z).length by simp] at this
      exact this
    · obtain ⟨c, u, hc, rfl⟩ := hv
      refine ⟨tx [c], ?_, ⟨u, rfl⟩⟩
      rw [show (tl z)[i]? = some c by rw [← hc]; simp]
      rfl
theorem drw_list {P : Program} {w : World} {K : PySem.W.Frag} (it a : Addr) (xs : List V) : Drw P w K it xs.length (fun i => xs[i]?) (fun H => SqL K H a xs) (fun i h => h.IsListIter it a i) where
  obj := fun i h ⟨o, e, c, d⟩ => ⟨o, e, fun v q => by rw [d] at q; cases q⟩
  keep := fun i h h' st k => st.at k
  drw := fun X hP hw hK pins σ H s I hG hS hF => by
    subst hP hw hK
    obtain ⟨its, rv, p, _⟩ := I.list hG
    have na : ¬ FpOk X pins H a := not_fp I (by
      rcases hG with h | ⟨o, _, _, h, _⟩
      · exact .inl ⟨_, h⟩
      · exact .inr ⟨o, h⟩)
    have hne : a ≠ it := fun e => na (by rw [e]; exact hF)
    have hl := rv.length
    refine ⟨[it, a], fun i v => its.toArray[i]? = some v, fun i h => h.IsListIter it a i ∧ h.IsList a its.toArray, fun A hA => ?_, by simp, fun b hb => ?_, fun i h => ⟨h, p.isList⟩, fun i h' h => h.1, fun i v hv => ?_⟩
    · have := Draws.list (prog := X.prog) (w := X.w) hA it a hne its.toArray
      rw [show its.toArray.size = xs.length by simp [hl]] at this
      exact this
    · have e : b = it ∨ b = a := by simpa using hb
      rcases e with e | e
      · exact .inl e
      · exact .inr (by rw [e]; exact na)
    · have hlt : i < xs.length := by
        have := (Array.getElem?_eq_some_iff.mp hv).1
        simp at this
        omega
      obtain ⟨u, hu, ru⟩ := rv.get (List.getElem?_eq_getElem hlt)
      have : u = v := by
        have q : its.toArray[i]? = some u := by simpa using hu
        have hv : its.toArray[i]? = some v := hv
        rw [q] at hv
        exact Option.some.inj hv
      subst this
      exact ⟨_, List.getElem?_eq_getElem hlt, ru⟩
theorem drw_tup {P : Program} {w : World} {K : PySem.W.Frag} (it a : Addr) (xs : List V) : Drw P w K it xs.length (fun i => xs[i]?) (fun H => SqT K H a xs) (fun i h => h.IsTupleIter it a i) where
  obj := fun i h ⟨o, e, c, d⟩ => ⟨o, e, fun v q => by rw [d] at q; cases q⟩
  keep := fun i h h' st k => st.at k
  drw := fun X hP hw hK pins σ H s I hG hS hF => by
    subst hP hw hK
    obtain ⟨its, rv, p, _⟩ := I.tuple hG
    have na : ¬ FpOk X pins H a := not_fp I (by
      rcases hG with h | ⟨o, _, _, h, _⟩
      · exact .inl ⟨_, h⟩
      · exact .inr ⟨o, h⟩)
    have hne : a ≠ it := fun e => na (by rw [e]; exact hF)
    have hl := rv.length
    refine ⟨[it, a], fun i v => its.toArray[i]? = some v, fun i h => h.IsTupleIter it a i ∧ h.IsTuple a its.toArray, fun A hA => ?_, by simp, fun b hb => ?_, fun i h => ⟨h, p⟩, fun i h' h => h.1, fun i v hv => ?_⟩
    · have := Draws.tuple (prog := X.prog) (w := X.w) hA it a hne its.toArray
      rw [show its.toArray.size = xs.length by simp [hl]] at this
      exact this
    · have e : b = it ∨ b = a := by simpa using hb
      rcases e with e | e
      · exact .inl e
      · exact .inr (by rw [e]; exact na)
    · have hlt : i < xs.length := by
        have := (Array.getElem?_eq_some_iff.mp hv).1
        simp at this
        omega
      obtain ⟨u, hu, ru⟩ := rv.get (List.getElem?_eq_getElem hlt)
      have : u = v := by
        have q : its.toArray[i]? = some u := by simpa using hu
        have hv : its.toArray[i]? = some v := hv
        rw [q] at hv
        exact Option.some.inj hv
      subst this
      exact ⟨_, List.getElem?_eq_getElem hlt, ru⟩
/-- pairs of two sources -/
def ItG (n1 n2 : Nat) (ys1 ys2 : Nat → Option V) (G1 G2 : Hp → Prop) : It :=
  ⟨fun i H => i < min n1 n2 ∧ G1 H ∧ G2 H, fun i H v H' => ∃ T x y, v = .ref T ∧ H T = none ∧ H' = upd H T (.tup [x, y]) ∧ ys1 i = some x ∧ ys2 i = some y, fun i H => i = min n1 n2 ∧ G1 H ∧ G2 H⟩
theorem walk_G {n1 n2 : Nat} {ys1 ys2 : Nat → Option V} {G1 G2 : Hp → Prop} : Walk (ItG n1 n2 ys1 ys2 G1 G2) (min n1 n2) (fun H => G1 H ∧ G2 H) (YPair ys1 ys2) :=
  ⟨fun _ _ hi q => ⟨hi, q.1, q.2⟩, fun _ q => ⟨rfl, q.1, q.2⟩, fun _ _ _ _ _ _ y => y⟩
section
variable {P : Program} {w : World} {K : PySem.W.Frag} {elts : List Expr} {kk : Nat} {tpos : Pos} {n1 n2 : Nat} {ys1 ys2 : Nat → Option V} {G1 G2 : Hp → Prop} {S1 S2 : Nat → Heap → Prop}
theorem turn_G {I0 : Nat} (D1 : Drw P w K I0 n1 ys1 G1 S1) (D2 : Drw P w K (I0 + 1) n2 ys2 G2 S2) :
    Turn P w K (.Tuple elts kk tpos) (ItG n1 n2 ys1 ys2 G1 G2) [I0 + 4, I0 + 2, I0 + 3, I0, I0 + 1] (I0 + 4)
      (fun i h => IsZip h (I0 + 4) (I0 + 2) (I0 + 3) .none ∧ IsTupOf2 h (I0 + 2) (.ref I0) (.ref (I0 + 1)) ∧ (∃ a1 a2, IsTupOf2 h (I0 + 3) a1 a2) ∧ S1 i h ∧ S2 i h) := by
  have sub : ∀ b : Nat, b ∉ [I0 + 4, I0 + 2, I0 + 3, I0, I0 + 1] → b ∉ [I0 + 4, I0 + 3, I0, I0 + 1] := fun b hb hm => hb (by simp at hm ⊢; omega)
  have five : ∀ {c : Nat}, c ∈ [I0 + 4, I0 + 2, I0 + 3, I0, I0 + 1] → c = I0 + 4 ∨ c = I0 + 2 ∨ c = I0 + 3 ∨ c = I0 ∨ c = I0 + 1 := fun h => by simpa using h
  -- the cells of one state
  have sepd : ∀ (X : Cx) (pins : List (Addr × Obj)) (H : Hp) (fp1 fp2 : List Addr), (∀ b ∈ [I0 + 4, I0 + 2, I0 + 3, I0, I0 + 1], FpOk X pins H b) → I0 ∈ fp1 → I0 + 1 ∈ fp2 →
      (∀ b ∈ fp1, b = I0 ∨ ¬ FpOk X pins H b) → (∀ b ∈ fp2, b = I0 + 1 ∨ ¬ FpOk X pins H b) → ZipSep2 (I0 + 4) (I0 + 2) (I0 + 3) I0 (I0 + 1) fp1 fp2 := fun X pins H fp1 fp2 hf m1 m2 s1 s2 => by
    have out1 : ∀ b : Nat, b ∈ [I0 + 4, I0 + 2, I0 + 3, I0, I0 + 1] → b ≠ I0 → b ∉ fp1 := fun b hb hn hm => (s1 b hm).elim hn fun z => z (hf b hb)
    have out2 : ∀ b : Nat, b ∈ [I0 + 4, I0 + 2, I0 + 3, I0, I0 + 1] → b ≠ I0 + 1 → b ∉ fp2 := fun b hb hn hm => (s2 b hm).elim hn fun z => z (hf b hb)
    exact
      { TIz := by show (I0 + 2 : Nat) ≠ I0 + 4; omega
        TOz := by show (I0 + 3 : Nat) ≠ I0 + 4; omega
        TITO := by show (I0 + 2 : Nat) ≠ I0 + 3; omega
        TIi1 := by show (I0 + 2 : Nat) ≠ I0; omega
        mem1 := m1
        zf1 := out1 _ (by simp) (by omega)
        Tf1 := out1 _ (by simp) (by omega)
        TIi2 := by show (I0 + 2 : Nat) ≠ I0 + 1; omega
        mem2 := m2
        zf2 := out2 _ (by simp) (by omega)
        Tf2 := out2 _ (by simp) (by omega)
        sep1_2 := out2 _ (by simp) (by omega)
        sep2_1 := out1 _ (by simp) (by omega) }
  exact
  { mem := by simp
    obj := fun i h st c hc => by
      obtain ⟨hz, hTI, ⟨x, y, hTO⟩, h1, h2⟩ := st
      rcases five hc with q | q | q | q | q
      · rw [q]; exact ⟨_, hz, fun v q => nomatch q⟩
      · rw [q]; exact ⟨_, hTI, fun v q => nomatch q⟩
      · rw [q]; exact ⟨_, hTO, fun v q => nomatch q⟩
      · rw [q]; exact D1.obj i h h1
      · rw [q]; exact D2.obj i h h2
    keep := fun i h h' st k => by
      obtain ⟨hz, hTI, ⟨x, y, hTO⟩, h1, h2⟩ := st
      exact ⟨k _ (by simp) _ hz, k _ (by simp) _ hTI, ⟨x, y, k _ (by simp) _ hTO⟩, D1.keep _ _ _ h1 fun o q => k _ (by simp) o q, D2.keep _ _ _ h2 fun o q => k _ (by simp) o q⟩
    item := by
      intro X hP hw hK hc i pins s σ H E I hf st hg
      obtain ⟨hlt, g1, g2⟩ := hg
      obtain ⟨fp1, PV1, St1, dr1, m1, sp1, to1, of1, val1⟩ := D1.drw X hP hw hK pins σ H s I g1 ⟨i, st.2.2.2.1⟩ (hf _ (by simp))
      obtain ⟨fp2, PV2, St2, dr2, m2, sp2, to2, of2, val2⟩ := D2.drw X hP hw hK pins σ H s I g2 ⟨i, st.2.2.2.2⟩ (hf _ (by simp))
      subst hP hw hK
      have Sp := sepd X pins H fp1 fp2 hf m1 m2 sp1 sp2
      have hA : X.A.in1.handled = none := by
        have := I.ok.hd hc
        first | exact this | (show X.A.handled = none; exact this)
      have W := WalksT.zipD2 (prog := X.prog) (w := X.w) (A := X.A) Sp (dr1 _ hA) (dr2 _ hA)
      obtain ⟨hz, hTI, hTO, h1, h2⟩ := st
      refine W.item i s _ _ hlt ⟨hz, hTI, hTO, to1 i h1, to2 i h2⟩ fun T vals h' tk hPt hT hTup hMid hk => ?_
      obtain ⟨x1, x2, p1, p2, rfl⟩ := hPt
      obtain ⟨y1, e1, r1⟩ := val1 i x1 p1
      obtain ⟨y2, e2, r2⟩ := val2 i x2 p2
      have ap := W.apart i T h' hMid
      refine ⟨.ref T, rfl, W.go elts kk tpos i T { s with heap := h', toks := tk } _ _ hMid fun h'' st'' hk'' => ?_⟩
      have hT'' : IsTup h'' T #[x1, x2] := by
        obtain ⟨o, ho, r⟩ := hTup
        exact ⟨o, hk'' T o ap ho, r⟩
      have new : ObjOk X.prog X.w (upd H T (.tup [y1, y2])) h'' T (.tup [y1, y2]) := ⟨by show 2 ≤ sizeLine; decide, [x1, x2], .cons r1 (.cons r2 .nil), hT''⟩
      have I1 : Inv X pins σ (upd H T (.tup [y1, y2])) { s with heap := h'', toks := tk } :=
        I.turnedNew (ch := [I0 + 4, I0 + 2, I0 + 3, I0, I0 + 1]) (fun c o hb q => hk'' c o (sub c hb) (hk c o (sub c hb) q)) hf hT new
      obtain ⟨a, b, c, d1, d2⟩ := st''
      refine ⟨.ref T, _, I1, rfl, ⟨T, y1, y2, rfl, I.hok.fresh hT, rfl, e1, e2⟩, ⟨a, b, c, of1 _ _ d1, of2 _ _ d2⟩, fun c hcm => ?_⟩
      have hlt : c < s.heap.objs.size := by
        rcases five hcm with q | q | q | q | q
        · rw [q]; exact Heap.lt_size hz
        · rw [q]; exact Heap.lt_size hTI
        · rw [q]; obtain ⟨_, _, e⟩ := hTO; exact Heap.lt_size e
        · rw [q]; obtain ⟨_, e, _⟩ := D1.obj _ _ h1; exact Heap.lt_size e
        · rw [q]; obtain ⟨_, e, _⟩ := D2.obj _ _ h2; exact Heap.lt_size e
      rw [upd_ne (Nat.ne_of_lt (Nat.lt_of_lt_of_le hlt hT))]
      exact (hf c hcm).1
    done := by
      intro X hP hw hK hc i pins s σ H E I hf st hg
      obtain ⟨hlt, g1, g2⟩ := hg
      obtain ⟨fp1, PV1, St1, dr1, m1, sp1, to1, of1, val1⟩ := D1.drw X hP hw hK pins σ H s I g1 ⟨i, st.2.2.2.1⟩ (hf _ (by simp))
      obtain ⟨fp2, PV2, St2, dr2, m2, sp2, to2, of2, val2⟩ := D2.drw X hP hw hK pins σ H s I g2 ⟨i, st.2.2.2.2⟩ (hf _ (by simp))
      subst hP hw hK
      have Sp := sepd X pins H fp1 fp2 hf m1 m2 sp1 sp2
      have hA : X.A.in1.handled = none := by
        have := I.ok.hd hc
        first | exact this | (show X.A.handled = none; exact this)
      have W := WalksT.zipD2 (prog := X.prog) (w := X.w) (A := X.A) Sp (dr1 _ hA) (dr2 _ hA)
      obtain ⟨hz, hTI, hTO, h1, h2⟩ := st
      subst hlt
      refine W.done s _ _ ⟨hz, hTI, hTO, to1 _ h1, to2 _ h2⟩ fun h' tk hk => ⟨rfl, I.turnedL (ch := [I0 + 4, I0 + 2, I0 + 3, I0, I0 + 1]) (fun c o hb q => hk c o (sub c hb) q) hf⟩
    self := fun A i s Q E st h => wpAny_pyIter_zip st.1 h }
end
/-- a text, a list, a tuple as a source: how many, what, while what stands -/
inductive SrcV (K : PySem.W.Frag) (H : Hp) : V → Nat → (Nat → Option V) → (Hp → Prop) → Prop
  | text (z : Str) : SrcV K H (.str z) (tl z).length (fun i => (tl z)[i]?.map fun c => tx [c]) (fun _ => True)
  | list {a : Addr} {xs : List V} (h : SqL K H a xs) : SrcV K H (.ref a) xs.length (fun i => xs[i]?) (fun H => SqL K H a xs)
  | tup {a : Addr} {xs : List V} (h : SqT K H a xs) : SrcV K H (.ref a) xs.length (fun i => xs[i]?) (fun H => SqT K H a xs)
/-- how it begins, as the library asks it -/
theorem SrcV.begins {X : Cx} {pins : List (Addr × Obj)} {σ : L2.St} {H : Hp} {s : Shared} {v : V} {u : Value} {n : Nat} {ys : Nat → Option V} {G : Hp → Prop} (I : Inv X pins σ H s) (h : SrcV X.K H v n ys G) (r : RelV v u) :
    ∃ (o : Obj) (B : Heap → Prop), Begins u o B ∧ B s.heap ∧ ∀ it : Addr, ∃ S : Nat → Heap → Prop, Drw X.prog X.w X.K it n ys G S ∧ ∀ h' : Heap, h'.get? it = some o → S 0 h' := by
  cases h with
  | text z =>
    obtain ⟨t, rfl⟩ := r
    exact ⟨_, _, begins_text z t, trivial, fun it => ⟨_, drw_text it z t, fun h' e => ⟨_, e, rfl, rfl⟩⟩⟩
  | @list a xs hq =>
    cases r
    obtain ⟨its, rv, p, _⟩ := I.list hq
    exact ⟨_, _, begins_list a its.toArray, p.isList, fun it => ⟨_, drw_list it a xs, fun h' e => ⟨_, e, rfl, rfl⟩⟩⟩
  | @tup a xs hq =>
    cases r
    obtain ⟨its, rv, p, _⟩ := I.tuple hq
    exact ⟨_, _, begins_tuple a its.toArray, p, fun it => ⟨_, drw_tup it a xs, fun h' e => ⟨_, e, rfl, rfl⟩⟩⟩
def iZipG (K : PySem.W.Frag) (ta : TA) : TI := fun σ H R => ta σ H fun vs H1 => ∃ v1 v2 n1 n2 ys1 ys2 G1 G2, vs = [v1, v2] ∧ SrcV K H1 v1 n1 ys1 G1 ∧ SrcV K H1 v2 n2 ys2 G2 ∧ R (ItG n1 n2 ys1 ys2 G1 G2) H1
theorem pi_zipG {X : Cx} {e e2 : Expr} {ta : TA} {p pos tpos : Pos} {elts : List Expr} {kk : Nat} (hg : Gl X "zip") (hm : X.mg "zip" = none) (ha : PA X [e, e2] ta)
    (hs : starEach [e, e2] X.env = (false, eval e X.env) :: starEach [e2] X.env := by rfl) (hpl : (backTo pos (starEach [e2] X.env)).any (·.1) = false := by rfl) :
    PI X (.Tuple elts kk tpos) (.Call (.Name "zip" p) [e, e2] [] pos) (iZipG X.K ta) := by
  refine ⟨fun pins s σ H R I h => ?_⟩
  refine Call_ (ld_blt I hg hm PyProof.Rows.boot_zip (PyProof.Rows.callWith_type1 (thn (ha.run pos pins s σ H _ I h) fun us s1 ⟨vs, H1, I1, r1, q1⟩ => ?_) hs hpl))
  obtain ⟨v1, v2, n1, n2, ys1, ys2, G1, G2, ex, sc1, sc2, q⟩ := q1
  subst ex
  obtain ⟨u1, u2, rfl, rv1, rv2⟩ := vals2 r1
  obtain ⟨o1, B1, b1, hb1, d1⟩ := sc1.begins I1 rv1
  obtain ⟨o2, B2, b2, hb2, d2⟩ := sc2.begins I1 rv2
  refine zip_begins2 b1 b2 hb1 hb2 fun h' hz hTI hTO g1 g2 hsz hk => wpAny_pyIter_zip hz ?_
  obtain ⟨S1, D1, st1⟩ := d1 s1.heap.objs.size
  obtain ⟨S2, D2, st2⟩ := d2 (s1.heap.objs.size + 1)
  have I2 : Inv X pins σ H1 { s1 with heap := h' } := I1.kept (t' := s1.toks) hk
  refine ⟨s1.heap.objs.size + 4, [s1.heap.objs.size + 4, s1.heap.objs.size + 2, s1.heap.objs.size + 3, s1.heap.objs.size, s1.heap.objs.size + 1], _, _, H1, rfl, I2, turn_G D1 D2, ⟨hz, hTI, ⟨_, _, hTO⟩, st1 h' g1, st2 h' g2⟩, fun c hcm => ?_, q⟩
  have e' : c = s1.heap.objs.size + 4 ∨ c = s1.heap.objs.size + 2 ∨ c = s1.heap.objs.size + 3 ∨ c = s1.heap.objs.size ∨ c = s1.heap.objs.size + 1 := by simpa using hcm
  have hle : s1.heap.objs.size ≤ c := by
    rcases e' with z | z | z | z | z <;> (rw [z]; first | exact Nat.le_refl _ | exact Nat.le_add_right _ _)
  exact I1.fpOk hle (I1.hok.fresh hle)
end Wk

/-! own: the set of a text's signs, and how many they are -/
namespace WkS
open PySem PySem.Spec PyProof.Rows L2
open TL (tl len_tl ext_tl tl_append mk_tl)
/-- the texts met so far, the latest ahead -/
def met (val : Nat → Str) : Nat → List Str
  | 0 => []
  | i + 1 => if (met val i).any (· == val i) then met val i else val i :: met val i
theorem met_len (val : Nat → Str) : ∀ i, (met val i).length ≤ i
  | 0 => Nat.le_refl _
  | i + 1 => by
    have := met_len val i
    unfold met
    split
    · omega
    · rw [List.length_cons]; omega
theorem met_step (val : Nat → Str) (i : Nat) (k : Str) : ((met val i).any (· == k) || decide (k = val i)) = (met val (i + 1)).any (· == k) := by
  rw [met]
  by_cases h : (met val i).any (· == val i) = true
  · rw [if_pos h]
    by_cases e : k = val i
    · rw [e, h]; rfl
    · rw [decide_eq_false e, Bool.or_false]
  · rw [if_neg h, List.any_cons, Bool.or_comm]
    congr 1
    rw [Bool.eq_iff_iff, decide_eq_true_iff, beq_iff_eq]
    exact ⟨fun e => e.symm, fun e => e.symm⟩
theorem met_many (val : Nat → Str) (i : Nat) : (if (met val i).any (· == val i) then (met val i).length else (met val i).length + 1) = (met val (i + 1)).length := by
  rw [met]
  split <;> simp
theorem met_mem (val : Nat → Str) : ∀ (i : Nat) (x : Str), x ∈ met val i ↔ ∃ j, j < i ∧ val j = x
  | 0, x => by simp [met]
  | i + 1, x => by
    have ih := met_mem val i
    rw [met]
    by_cases h : (met val i).any (· == val i) = true
    · rw [if_pos h, ih]
      obtain ⟨y, hy, ey⟩ := List.any_eq_true.mp h
      rw [beq_iff_eq.mp ey] at hy
      obtain ⟨j0, h0, e0⟩ := (ih _).mp hy
      constructor
      · rintro ⟨j, hj, e⟩
        exact ⟨j, by omega, e⟩
      · rintro ⟨j, hj, e⟩
        by_cases ej : j = i
        · subst ej
          exact ⟨j0, h0, by rw [e0, e]⟩
        · exact ⟨j, by omega, e⟩
    · rw [if_neg h, List.mem_cons, ih]
      constructor
      · rintro (e | ⟨j, hj, e⟩)
        · exact ⟨i, by omega, e.symm⟩
        · exact ⟨j, by omega, e⟩
      · rintro ⟨j, hj, e⟩
        by_cases ej : j = i
        · subst ej; exact .inl e.symm
        · exact .inr ⟨j, by omega, e⟩
/-- all new: just as many as there are -/
theorem met_full (val : Nat → Str) : ∀ i, (met val i).length = i ↔ ∀ j k, j < k → k < i → val j ≠ val k
  | 0 => ⟨fun _ j k _ h => absurd h (Nat.not_lt_zero _), fun _ => rfl⟩
  | i + 1 => by
    have ih := met_full val i
    have hl := met_len val i
    rw [met]
    by_cases h : (met val i).any (· == val i) = true
    · rw [if_pos h]
      obtain ⟨y, hy, ey⟩ := List.any_eq_true.mp h
      rw [beq_iff_eq.mp ey] at hy
      obtain ⟨j0, h0, e0⟩ := (met_mem val i _).mp hy
      exact ⟨fun q => by omega, fun q => absurd e0 (q j0 i h0 (Nat.lt_succ_self _))⟩
    · rw [if_neg h, List.length_cons]
      have hn : ∀ j, j < i → val j ≠ val i := fun j hj e => h (List.any_eq_true.mpr ⟨val i, (met_mem val i _).mpr ⟨j, hj, e⟩, beq_self_eq_true _⟩)
      constructor
      · intro q j k hj hk
        by_cases ek : k = i
        · subst ek; exact hn j hj
        · exact ih.mp (by omega) j k hj (by omega)
      · intro q
        rw [ih.mpr fun j k hj hk => q j k hj (by omega)]
section
variable {prog : Program} {w : World} {A : Around} {R : Result → Shared → Prop} {it : Addr} {own wrt : List Addr} {gg : Array GenState → Array GenState → Prop} {m : Nat} {Pi : Nat → Value → Prop} {Sti : Nat → Shared → Prop}
theorem fill (W : WalksS prog w A.in1 it own wrt gg m Pi Sti) (z : Addr) (hz : z ∉ own) (val : Nat → Str) (hv : ∀ i v, Pi i v → ∃ t, v = .str (val i) t) (hm : m + 1 < scanBound) :
    ∀ (d i : Nat) (s : Shared), m - i = d → i ≤ m → Sti i s → s.heap.SetOf (PySem.strKind prog w) z (fun x => (met val i).any (· == x)) (met val i).length →
      (∀ s', Moved (z :: wrt) gg s s' → s'.heap.SetOf (PySem.strKind prog w) z (fun x => (met val m).any (· == x)) (met val m).length → R (.ok (.ret .none)) s') →
      codeAny (model prog w) A (.builtin "set.update.loop" ⟨[.ref z, .ref it], []⟩) R s := by
  have hzw : z ∉ wrt := fun h => hz (W.sub _ h)
  have wide : ∀ b ∈ wrt, b ∈ z :: wrt := fun b hb => .tail _ hb
  intro d
  induction d with
  | zero =>
    intro i s hd hi st hS fin
    obtain rfl : i = m := by omega
    refine codeAny_builtin PyProof.Rows.F.entry_set_update_loop ?_
    rw [Around.under_plainId PyProof.Rows.F.plain_set_update_loop _]
    show wpAny _ A.in1 (pyNext (.ref it) >>= _) _ _ s
    refine wpAny_bind (W.done s _ _ st fun s' mv => ?_)
    show wpAny _ A.in1 (ret Value.none) _ _ s'
    refine wpAny_pure (fin s' (mv.mono wide) ?_)
    obtain ⟨ob, es, ep, tb, e, more⟩ := hS
    exact ⟨ob, es, ep, tb, mv.heap z _ hzw e, more⟩
  | succ d ih =>
    intro i s hd hi st hS fin
    have hlt : i < m := by omega
    refine codeAny_builtin PyProof.Rows.F.entry_set_update_loop ?_
    rw [Around.under_plainId PyProof.Rows.F.plain_set_update_loop _]
    show wpAny _ A.in1 (pyNext (.ref it) >>= _) _ _ s
    refine wpAny_bind (W.item i s _ _ hlt st fun v s' pv st' mv => ?_)
    obtain ⟨t, rfl⟩ := hv i v pv
    have hS1 : s'.heap.SetOf (PySem.strKind prog w) z (fun x => (met val i).any (· == x)) (met val i).length := by
      obtain ⟨ob, es, ep, tb, e, more⟩ := hS
      exact ⟨ob, es, ep, tb, mv.heap z _ hzw e, more⟩
    show wpAny _ A.in1 (holding [Value.str (val i) t] (setAdd z (.str (val i) t)) >>= _) _ _ s'
    refine wpAny_bind (wpAny_holding ?_)
    unfold setAdd
    refine wpAny_holding (wpAny_bind ((PySem.strKind prog w).pyHash (k := val i) (strKind_is _ _ _ _) ?_))
    have room := met_len val i
    refine wpAny_setAddHashed_of (knd := PySem.strKind prog w) (s := { s' with toks := s'.toks + 1 }) (strKind_is _ _ _ _) rfl hS1 (by omega) fun h' sb hS2 => ?_
    have hS3 : h'.SetOf (PySem.strKind prog w) z (fun x => (met val (i + 1)).any (· == x)) (met val (i + 1)).length := SetOf_congr hS2 (met_step val i) (met_many val i)
    refine wpAny_pure ⟨plainId_quiet PyProof.Rows.F.plain_set_update_loop _, ih (i + 1) _ (by omega) hlt (W.frame _ s' _ _ st' (Nat.le_succ _) fun b hb o e => ?_) hS3 fun s2 mv2 hS4 => fin s2 (Moved.trans W.gtrans ((mv.mono wide).then_heap (Nat.le_succ _) fun b o hb e => ?_) mv2) hS4⟩
    · rw [sb.2 b fun e2 => hz (by rw [← e2]; exact hb)]
      exact e
    · rw [sb.2 b fun e2 => hb (by rw [e2]; exact .head _)]
      exact e
end
/-- the sign at a place, as a text -/
def sgn (x : Str) (i : Nat) : Str := ⟨#[(tl x).getD i 0]⟩
section
variable {prog : Program} {w : World} {A : Around} {E : Value → Shared → Prop} {s : Shared}
set_option maxHeartbeats 3200000 in
theorem new_of_text {x : Str} {t : Tok} {Q : Value → Shared → Prop} (quiet : A.handled = none) (few : x.cps.size + 1 < scanBound)
    (go : ∀ (h' : Heap) (tk : Nat), h'.SetOf (PySem.strKind prog w) s.heap.objs.size (fun k => (met (sgn x) x.cps.size).any (· == k)) (met (sgn x) x.cps.size).length →
      (∀ b o, b < s.heap.objs.size → s.heap.get? b = some o → h'.get? b = some o) → Q (.ref s.heap.objs.size) { s with heap := h', toks := tk }) :
    wpAny (model prog w) A (call (.type "set") [.str x t]) Q E s := by
  obtain ⟨cc, ctl, r0⟩ := PySem.F.called_set.mro
  have r1 := PySem.F.called_set.made
  have r2 := PySem.F.called_set.sub
  refine wpAny_call (codeAny_of_tree ?_)
  show wpAny _ _ (callAny (.type "set") _) _ _ _
  refine wpAny_pure ⟨Code.quiet_builtin _ (by decide +kernel), codeAny_builtin PySem.F.entry_type_call ?_⟩
  rw [Around.under_plain (weight_type_call_type "set" [.str x t] []) rfl]
  have r3 := PySem.F.called_set.notType
  have r4 := PySem.F.called_set.canCreate
  have r5 := PySem.F.typeCall_set_1 (.str x t)
  repeat (any_goals (first | assumption | wp_step))

  refine codeAny_mono (code_set_new_1 (.str x t) (E := E) (Q₁ := fun r s1 => ∃ fol : Bool, r = .ref s.heap.objs.size ∧ s1 = { s with heap := s.heap.push { cls := .type "set", dict := none, data := .set #[] 0 (.fresh 0 0 fol) } }) fun fol => ⟨fol, rfl, rfl⟩) fun r s1 hr => ?_
  cases r with
  | error e => exact hr
  | ok fl =>
    cases fl with
    | ret ob =>
      obtain ⟨fol, rfl, rfl⟩ := hr
      have q0 : (s.heap.push { cls := .type "set", dict := none, data := .set #[] 0 (.fresh 0 0 fol) }).get? s.heap.objs.size = some { cls := .type "set", dict := none, data := .set #[] 0 (.fresh 0 0 fol) } := Heap.get?_push_size _ rfl
      have q1 : Shared.TypeIs { s with heap := s.heap.push { cls := .type "set", dict := none, data := .set #[] 0 (.fresh 0 0 fol) } } (.ref s.heap.objs.size) "set" := ⟨_, q0, rfl⟩
      have q2 := PySem.F.called_set.init.lookup
      have q3 := PySem.F.called_set.init.bind (.ref s.heap.objs.size)
      repeat (any_goals (first | assumption | wp_step))

      refine codeAny_mono (codeAny_call_builtin (R := wants (fun r s2 => r = .none ∧ ∃ h' tk, s2 = { s with heap := h', toks := tk } ∧
          h'.SetOf (PySem.strKind prog w) s.heap.objs.size (fun k => (met (sgn x) x.cps.size).any (· == k)) (met (sgn x) x.cps.size).length ∧
          (∀ b o, b < s.heap.objs.size → s.heap.get? b = some o → h'.get? b = some o)) E) PySem.F.called_set.init.plain PySem.F.entry_set_init (check_set_init_1 q1 ?_)) fun r2 s2 hr2 => ?_
      · have u1 := PySem.F.sub_str_set
        have u2 := PySem.F.sub_str_frozenset
        have u3 : (Value.type "str" == Value.type "dict") = false := by decide
        unfold Builtin.«set.__init__» noKeywords Builtin.Frozenset.updateFrom
        generalize hPI : pyIter = PI
        wp_walk
        subst hPI

        refine wpAny_pyIter_str fun o St hW hst => ?_
        refine wpAny_bind (wpAny_runValue ?_)
        have hz : s.heap.objs.size ∉ [(s.heap.push { cls := .type "set", dict := none, data := .set #[] 0 (.fresh 0 0 fol) }).objs.size] := by
          rw [Heap.size_push, List.mem_singleton]
          exact Nat.ne_of_lt (Nat.lt_succ_self _)
        refine fill (hW _ (by simp [quiet])).toS s.heap.objs.size hz (sgn x) ?vals few (x.cps.size - 0) 0 _ (by omega) (Nat.zero_le _) hst ?first ?last
        case vals =>
          rintro i v ⟨c, u, hc, rfl⟩
          refine ⟨u, ?_⟩
          have e : (tl x)[i]? = some c := by
            show x.cps.toList[i]? = some c
            rw [Array.getElem?_toList]
            exact hc
          unfold sgn
          rw [List.getD_eq_getElem?_getD, e]
          rfl
        case first =>
          have hget : ((s.heap.push { cls := .type "set", dict := none, data := .set #[] 0 (.fresh 0 0 fol) }).push o).get? s.heap.objs.size = some { cls := .type "set", dict := none, data := .set #[] 0 (.fresh 0 0 fol) } := Heap.get?_push_of_some _ q0
          exact SetOf_congr ((setObjOf_fresh (knd := PySem.strKind prog w) fol).setOf hget (by unfold scanBound; omega)) (fun _ => rfl) rfl
        case last =>
          intro s3 mv hS3
          obtain ⟨h3, g3, d3, tk3, os3⟩ := s3
          obtain rfl : g3 = s.gens := mv.gens
          obtain rfl : d3 = s.drawn := mv.drawn
          obtain rfl : os3 = s.os := mv.os
          show wpAny _ _ _ _ _ _
          refine wpAny_pure ?_
          show wpAny _ _ (ret Value.none) _ _ _
          refine wpAny_pure ⟨rfl, h3, tk3, rfl, hS3, fun b o2 hb e => ?_⟩
          refine mv.heap b o2 ?_ (Heap.get?_push_of_some _ (Heap.get?_push_of_some _ e))
          rw [Heap.size_push, List.mem_cons, List.mem_singleton]
          rintro (q | q) <;> rw [q] at hb
          · exact Nat.lt_irrefl _ hb
          · exact Nat.lt_irrefl _ (Nat.lt_trans (Nat.lt_succ_self _) hb)

      · cases r2 with
        | error e => exact hr2
        | ok fl2 =>
          cases fl2 with
          | ret r3 =>
            obtain ⟨rfl, h', tk, rfl, hS5, kp⟩ := hr2
            repeat (any_goals (first | assumption | wp_step))
            exact go _ _ hS5 kp
          | _ => exact hr2.elim
    | _ => exact hr.elim
end
/-- how many signs a text has, each once -/
def distN (l : List Nat) : Nat := (met (sgn (Wk.sx l)) l.length).length
theorem distN_le (l : List Nat) : distN l ≤ l.length := met_len _ _
theorem distN_all (l : List Nat) : distN l = l.length ↔ l.Nodup := by
  unfold distN
  rw [met_full]
  unfold List.Nodup
  rw [List.pairwise_iff_getElem]
  constructor
  · intro h i j hi hj hij q
    refine h i j hij hj ?_
    show (⟨#[l.getD i 0]⟩ : Str) = ⟨#[l.getD j 0]⟩
    rw [List.getD_eq_getElem?_getD, List.getD_eq_getElem?_getD, List.getElem?_eq_getElem hi, List.getElem?_eq_getElem hj, q]
  · intro h i j hij hj q
    refine h i j (by omega) hj hij ?_
    have q1 : (⟨#[l.getD i 0]⟩ : Str) = ⟨#[l.getD j 0]⟩ := q
    have q2 : [l.getD i 0] = [l.getD j 0] := congrArg tl q1
    have q3 : l.getD i 0 = l.getD j 0 := List.head_eq_of_cons_eq q2
    rw [List.getD_eq_getElem?_getD, List.getD_eq_getElem?_getD, List.getElem?_eq_getElem (by omega), List.getElem?_eq_getElem hj] at q3
    exact q3
/-- len(set(text)) -/
def tSigns (ta : TE) : TE := fun σ H Q => ta σ H fun x H1 => match x with
  | .str z => (tl z).length ≤ 4000 ∧ Q (.int (distN (tl z) : Nat)) H1
  | _ => False
section
variable {X : Cx}
theorem pe_signs {a : Expr} {ta : TE} {p p2 q pos : Pos} (hc : X.calm = true) (hg : Gl X "len") (hm : X.mg "len" = none) (hg2 : Gl X "set") (hm2 : X.mg "set" = none) (ha : PE X a ta)
    (na : starEach [a] X.env = (false, eval a X.env) :: starEach [] X.env := by rfl) : PE X (.Call (.Name "len" p) [.Call (.Name "set" p2) [a] [] q] [] pos) (tSigns ta) := by
  refine ⟨fun pins s σ H Q I h => ?_⟩
  refine Call_ (ld_blt I hg hm boot_len ?_)
  refine PyProof.Rows.callWith_builtin1 (PyProof.Rows.args_cons ?_ rfl) rfl rfl
  refine Call_ (ld_blt I hg2 hm2 boot_set ?_)
  refine PyProof.Rows.callWith_type1 (PyProof.Rows.args_cons (thn (ha.run pins s σ H _ I h) fun v s1 ⟨x, H1, I1, r, g⟩ => PyProof.Rows.args_nil ?_) na) na rfl
  cases x with
  | str z =>
    obtain ⟨t, rfl⟩ := r
    obtain ⟨few, g⟩ := g
    have few2 : z.cps.size ≤ 4000 := few
    refine new_of_text (I1.ok.hd hc) (by unfold scanBound; omega) fun h' tk hS kp => PyProof.Rows.args_nil ?_
    obtain ⟨o, es, ep, tb, ho, hex, hd, _, _, _, hf, hn⟩ := hS
    have I2 : Inv X pins σ H1 { s1 with heap := h', toks := tk } := I1.kept fun b o e => kp b o (Heap.lt_size e) e
    have hle : (met (sgn z) z.cps.size).length ≤ z.cps.size := met_len _ _
    have ed : (met (sgn z) z.cps.size).length = distN (tl z) := rfl
    refine call_len_set ho hex hd hf (by rw [hn]; omega) ⟨.int (distN (tl z) : Nat), H1, I2.tok _, ⟨_, by rw [hn, ed]⟩, g⟩
  | _ => exact False.elim g
end
end WkS

/-! own: enumerate over a text, a list, a tuple; isinstance; tuple(..); is None -/
namespace PySem
theorem meets_enum1 {v : Value} {ob : Obj} {Bg : Heap → Prop} (B : Begins v ob Bg) : Meets (Builtin.«enumerate.__new__» ⟨[.type "enumerate", v], []⟩) (fun _ R s => Bg s.heap ∧
      R (.ok (.ret (.ref (s.heap.push ob).objs.size))) { s with heap := (s.heap.push ob).push { cls := .type "enumerate", data := .fields #[.none, .bool false, .ref s.heap.objs.size, rawInt 0, .none, .none] } }) :=
  .of_wp fun prog w A R s h => by
    obtain ⟨hp, gs, dr, tk, sy⟩ := s
    obtain ⟨h1, h⟩ := h
    have hsub := sub_enumerate
    have road : ∀ {A' : Around} {E : Value → Shared → Prop} {Q : Value → Shared → Prop}, Q (.ref hp.objs.size) ⟨hp.push ob, gs, dr, tk, sy⟩ → wpAny (model prog w) A' (pyIter v) Q E ⟨hp, gs, dr, tk, sy⟩ :=
      fun q => B.iter prog w _ _ ⟨hp, gs, dr, tk, sy⟩ _ h1 q
    wp_walk using road
    refine wpAny_stack_any fun st => wpAny_pure ?_
    split
    · rename_i c _ _ _ _ _
      cases (c == Value.type "enumerate") <;> (wp_walk using road; exact ⟨_, rfl, h⟩)
    · wp_walk using road
      exact ⟨_, rfl, h⟩
theorem enum_one {prog : Program} {w : World} {A : Around} {E : Value → Shared → Prop} {s : Shared} {v : Value} {ob : Obj} {Bg : Heap → Prop} {Q : Value → Shared → Prop} (B : Begins v ob Bg) (h1 : Bg s.heap)
    (go : ∀ h', IsEnum h' (s.heap.objs.size + 1) s.heap.objs.size 0 .none → h'.get? s.heap.objs.size = some ob → (∀ b o, s.heap.get? b = some o → h'.get? b = some o) → Q (.ref (s.heap.objs.size + 1)) { s with heap := h' }) :
    wpAny (model prog w) A (call (.type "enumerate") [v]) Q E s := by
  refine callType_new F.called_enumerate (by decide) (F.typeCall_enumerate_1 _) (F.newCall_enumerate_1 _) (fun obj => F.args_object_init_2 obj _) F.entry_enumerate_new (meets_enum1 B) ⟨h1, ?_⟩
  have ez : (s.heap.push ob).objs.size = s.heap.objs.size + 1 := Heap.size_push ..
  show _ ∧ _
  rw [ez]
  have at1 : IsEnum ((s.heap.push ob).push { cls := .type "enumerate", data := .fields #[.none, .bool false, .ref s.heap.objs.size, rawInt 0, .none, .none] }) (s.heap.objs.size + 1) s.heap.objs.size 0 .none := by
    have q := Heap.get?_push_size (s.heap.push ob) (o := { cls := .type "enumerate", data := .fields #[.none, .bool false, .ref s.heap.objs.size, rawInt 0, .none, .none] }) rfl
    rw [ez] at q
    exact q
  exact ⟨⟨_, at1, rfl⟩, go _ at1 (Heap.get?_push_of_some _ (Heap.get?_push_size _ B.free)) fun b o x => Heap.get?_push_of_some _ (Heap.get?_push_of_some _ x)⟩
end PySem
namespace Wk
open PySem PySem.Spec PyProof.Rows L2
open TL (tl len_tl ext_tl tl_append mk_tl)
/-- places and what stands there -/
def ItE (n : Nat) (ys : Nat → Option V) (G : Hp → Prop) : It :=
  ⟨fun i H => i < n ∧ G H, fun i H v H' => ∃ T x, v = .ref T ∧ H T = none ∧ H' = upd H T (.tup [.int (i : Nat), x]) ∧ ys i = some x, fun i H => i = n ∧ G H⟩
def YEn (ys : Nat → Option V) (i : Nat) (H : Hp) (v : V) (H' : Hp) : Prop := ∃ T x, v = .ref T ∧ H T = none ∧ H' = upd H T (.tup [.int (i : Nat), x]) ∧ ys i = some x
theorem walk_E {n : Nat} {ys : Nat → Option V} {G : Hp → Prop} : Walk (ItE n ys G) n G (YEn ys) :=
  ⟨fun _ _ hi q => ⟨hi, q⟩, fun _ q => ⟨rfl, q⟩, fun _ _ _ _ _ _ y => y⟩
theorem turn_E {P : Program} {w : World} {K : PySem.W.Frag} {elts : List Expr} {kk : Nat} {tpos : Pos} {n : Nat} {ys : Nat → Option V} {G : Hp → Prop} {S : Nat → Heap → Prop} {I0 : Nat} (D : Drw P w K I0 n ys G S) :
    Turn P w K (.Tuple elts kk tpos) (ItE n ys G) [I0 + 1, I0] (I0 + 1) (fun i h => (∃ old, IsEnum h (I0 + 1) I0 ((i : Nat) : Int) old) ∧ S i h) where
  mem := by simp
  obj := fun i h st c hc => by
    obtain ⟨⟨old, he⟩, hs⟩ := st
    have e : c = I0 + 1 ∨ c = I0 := by simpa using hc
    rcases e with q | q
    · rw [q]; exact ⟨_, he, fun v q => nomatch q⟩
    · rw [q]; exact D.obj i h hs
  keep := fun i h h' st k => by
    obtain ⟨⟨old, he⟩, hs⟩ := st
    exact ⟨⟨old, k _ (by simp) _ he⟩, D.keep _ _ _ hs fun o q => k _ (by simp) o q⟩
  item := by
    intro X hP hw hK hc i pins s σ H E I hf st hg
    obtain ⟨hlt, g⟩ := hg
    obtain ⟨fp, PV, St, dr, m, sp, to, of, val⟩ := D.drw X hP hw hK pins σ H s I g ⟨i, st.2⟩ (hf _ (by simp))
    subst hP hw hK
    have hA : X.A.in1.handled = none := by
      have := I.ok.hd hc
      first | exact this | (show X.A.handled = none; exact this)
    have out : I0 + 1 ∉ fp := fun q => (sp _ q).elim (fun e => absurd e (Nat.succ_ne_self _)) fun z => z (hf _ (by simp))
    have W := WalksT.enumerateD (prog := X.prog) (w := X.w) (A := X.A) (dr _ hA) (I0 + 1) (Nat.succ_ne_self _) out m
    obtain ⟨he, hs⟩ := st
    refine W.item i s _ _ hlt ⟨he, to i hs⟩ fun T vals h' tk hPt hT hTup hMid hk => ?_
    obtain ⟨t, x, px, rfl⟩ := hPt
    obtain ⟨y, ey, ry⟩ := val i x px
    have ap := W.apart i T h' hMid
    refine ⟨.ref T, rfl, W.go elts kk tpos i T { s with heap := h', toks := tk } _ _ hMid fun h2 st2 hk2 => ?_⟩
    have hT2 : IsTup h2 T #[.int (i : Nat) t, x] := by
      obtain ⟨o, ho, r⟩ := hTup
      exact ⟨o, hk2 T o ap ho, r⟩
    have new : ObjOk X.prog X.w (upd H T (.tup [.int (i : Nat), y])) h2 T (.tup [.int (i : Nat), y]) := ⟨by show 2 ≤ sizeLine; decide, [.int (i : Nat) t, x], .cons ⟨_, rfl⟩ (.cons ry .nil), hT2⟩
    have I1 : Inv X pins σ (upd H T (.tup [.int (i : Nat), y])) { s with heap := h2, toks := tk } :=
      I.turnedNew (ch := [I0 + 1, I0]) (fun c o hb q => hk2 c o hb (hk c o hb q)) hf hT new
    refine ⟨.ref T, _, I1, rfl, ⟨T, y, rfl, I.hok.fresh hT, rfl, ey⟩, ⟨st2.1, of _ _ st2.2⟩, fun c hcm => ?_⟩
    have hlt2 : c < s.heap.objs.size := by
      have e : c = I0 + 1 ∨ c = I0 := by simpa using hcm
      rcases e with q | q
      · rw [q]; obtain ⟨_, e⟩ := he; exact Heap.lt_size e
      · rw [q]; obtain ⟨_, e, _⟩ := D.obj _ _ hs; exact Heap.lt_size e
    rw [upd_ne (Nat.ne_of_lt (Nat.lt_of_lt_of_le hlt2 hT))]
    exact (hf c hcm).1
  done := by
    intro X hP hw hK hc i pins s σ H E I hf st hg
    obtain ⟨rfl, g⟩ := hg
    obtain ⟨fp, PV, St, dr, m, sp, to, of, val⟩ := D.drw X hP hw hK pins σ H s I g ⟨i, st.2⟩ (hf _ (by simp))
    subst hP hw hK
    have hA : X.A.in1.handled = none := by
      have := I.ok.hd hc
      first | exact this | (show X.A.handled = none; exact this)
    have out : I0 + 1 ∉ fp := fun q => (sp _ q).elim (fun e => absurd e (Nat.succ_ne_self _)) fun z => z (hf _ (by simp))
    have W := WalksT.enumerateD (prog := X.prog) (w := X.w) (A := X.A) (dr _ hA) (I0 + 1) (Nat.succ_ne_self _) out m
    obtain ⟨he, hs⟩ := st
    exact W.done s _ _ ⟨he, to _ hs⟩ fun h' tk hk => ⟨rfl, I.turnedL (ch := [I0 + 1, I0]) (fun c o hb q => hk c o hb q) hf⟩
  self := fun A i s Q E st h => by
    obtain ⟨⟨old, he⟩, _⟩ := st
    exact wpAny_pyIter_enum he h
def iEnumG (K : PySem.W.Frag) (ta : TA) : TI := fun σ H R => ta σ H fun vs H1 => ∃ v n ys G, vs = [v] ∧ SrcV K H1 v n ys G ∧ R (ItE n ys G) H1
theorem pi_enumG {X : Cx} {e : Expr} {ta : TA} {p pos tpos : Pos} {elts : List Expr} {kk : Nat} (hg : Gl X "enumerate") (hm : X.mg "enumerate" = none) (ha : PA X [e] ta)
    (hs : starEach [e] X.env = [(false, eval e X.env)] := by rfl) : PI X (.Tuple elts kk tpos) (.Call (.Name "enumerate" p) [e] [] pos) (iEnumG X.K ta) := by
  refine ⟨fun pins s σ H R I h => ?_⟩
  refine Call_ (ld_blt I hg hm boot_enumerate (PyProof.Rows.callWith_type1 (thn (ha.run pos pins s σ H _ I h) fun us s1 ⟨vs, H1, I1, r1, q1⟩ => ?_) hs rfl))
  obtain ⟨v, n, ys, G, rfl, sc, q⟩ := q1
  obtain ⟨u, rfl, rv⟩ := vals1 r1
  obtain ⟨o1, B1, b1, hb1, d1⟩ := sc.begins I1 rv
  refine enum_one b1 hb1 fun h' he g1 hk => wpAny_pyIter_enum he ?_
  obtain ⟨S1, D1, st1⟩ := d1 s1.heap.objs.size
  have I2 : Inv X pins σ H1 { s1 with heap := h' } := I1.kept (t' := s1.toks) hk
  refine ⟨s1.heap.objs.size + 1, [s1.heap.objs.size + 1, s1.heap.objs.size], _, _, H1, rfl, I2, turn_E D1, ⟨⟨_, he⟩, st1 h' g1⟩, fun c hcm => ?_, q⟩
  have e' : c = s1.heap.objs.size + 1 ∨ c = s1.heap.objs.size := by simpa using hcm
  have hle : s1.heap.objs.size ≤ c := by
    rcases e' with z | z <;> (rw [z]; first | exact Nat.le_refl _ | exact Nat.le_add_right _ _)
  exact I1.fpOk hle (I1.hok.fresh hle)
/-! ## of what type -/
/-- isinstance(x, c): the type, and what the library says of the two -/
def rIsi1 (K : PySem.W.Frag) : List V → Hp → VK → Prop := fun xs H Q => match xs with
  | [x, .ty c] => ∃ t b, TyX K H x (.type t) ∧ kitB t c = some b ∧ Q (.bl b) H
  | [x, .ref C] => (∃ t b, TyX K H x t ∧ PySem.W.kitOne K t (.ref C) = some b ∧ Q (.bl b) H) ∨ (∃ cs us t b, H C = some (.tup cs) ∧ Paired ClsV cs us ∧ TyX K H x t ∧ PySem.W.kitAny K t us = some b ∧ Q (.bl b) H)
  | _ => False
def rTup1 (K : PySem.W.Frag) : List V → Hp → VK → Prop := fun xs H Q => match xs with
  | [.ref p] => ∃ ys, (SqL K H p ys ∧ ∀ l, H l = none → Q (.ref l) (upd H l (.tup ys))) ∨ (SqT K H p ys ∧ Q (.ref p) H)
  | _ => False
def rIsNone : R2 := fun x y H Q => y = .non ∧ Q (.bl (decide (x = .non))) H
def rNotNone : R2 := fun x y H Q => y = .non ∧ Q (.bl (!decide (x = .non))) H
section
variable {X : Cx}
theorem call_isi1 : CallR X (.builtin "isinstance") (rIsi1 X.K) := by
  intro pins s σ H xs us Q I r h
  unfold rIsi1 at h
  split at h
  · refine call_isi pins s σ H _ us Q I r ?_
    obtain ⟨t, b, h1, h2, h3⟩ := h
    exact ⟨_, _, _, _, b, rfl, .ty _, h1, kit_ty h2, h3⟩
  · rcases h with ⟨t, b, h1, h2, h3⟩ | ⟨cs, ws, t, b, h0, h1, h2, h3, h4⟩
    · exact call_isi pins s σ H _ us Q I r ⟨_, _, _, _, b, rfl, .own _, h1, h2, h3⟩
    · exact call_isiT pins s σ H _ us Q I r ⟨_, _, cs, t, ws, b, rfl, h0, h1, h2, h3, h4⟩
  · exact False.elim h
theorem call_tup1 : CallR X (.type "tuple") (rTup1 X.K) := by
  intro pins s σ H xs us Q I r h
  refine call_tuple_of pins s σ H xs us Q I r ?_
  unfold rTup1 at h
  split at h
  · obtain ⟨ys, h⟩ := h
    exact ⟨_, ys, rfl, h⟩
  · exact False.elim h
end
theorem kb_str : kitB "str" "str" = some true := by decide +kernel
theorem kb_int_str : kitB "int" "str" = some false := by decide +kernel
theorem kb_bool_str : kitB "bool" "str" = some false := by decide +kernel
theorem kb_non_str : kitB "NoneType" "str" = some false := by decide +kernel
theorem kb_list_str : kitB "list" "str" = some false := by decide +kernel
theorem kb_tuple_str : kitB "tuple" "str" = some false := by decide +kernel
theorem kb_dict_str : kitB "dict" "str" = some false := by decide +kernel
theorem kb_list : kitB "list" "list" = some true := by decide +kernel
theorem kb_tuple : kitB "tuple" "tuple" = some true := by decide +kernel
theorem tyx_list {K : PySem.W.Frag} {H : Hp} {a : Addr} {xs : List V} (h : SqL K H a xs) : TyX K H (.ref a) (.type "list") := by
  rcases h with (h | ⟨o, h⟩) | ⟨o, its, m, h2, h3, _⟩
  · exact .base (.lst h)
  · exact .base (.frz h)
  · exact .kList h2 h3
theorem tyx_tup {K : PySem.W.Frag} {H : Hp} {a : Addr} {xs : List V} (h : SqT K H a xs) : TyX K H (.ref a) (.type "tuple") := by
  rcases h with (h | ⟨o, h⟩) | ⟨o, its, m, h2, h3, _⟩
  · exact .base (.tup h)
  · exact .fTuple h
  · exact .kTuple h2 h3
/-! ## a written tuple as a global -/
def GT (K : PySem.W.Frag) (mg : Str → Option Value) (x : Str) (xs : List V) : Prop := ∃ a, mg x = some (.ref a) ∧ ∀ H : Hp, SqT K H a xs
theorem gt_mk {K : PySem.W.Frag} {h : Heap} {mg : Str → Option Value} {x : Str} {xs : List V} {a : Addr} {od : Option Addr} {its : Array Value} {n : Nat} {sl : Array (Option Value)} (X : K.In h) (G : h.Ns mainGlobals mg)
    (e : PySem.W.nsIn K mainGlobals x = some (some (.ref a))) (l : K.lookup a = some ⟨.type "tuple", od, .seq its n, sl⟩) (hs : its.size ≤ sizeLine) (r : Vals xs its.toList) : GT K mg x xs :=
  ⟨a, PySem.W.mg_of X G e, fun _ => .inr ⟨_, its, n, l, rfl, rfl, hs, r⟩⟩
def tGT (K : PySem.W.Frag) (xs : List V) : TE := fun _ H Q => ∀ a, SqT K H a xs → Q (.ref a) H
theorem pe_gt {X : Cx} {x : Str} {xs : List V} {pos : Pos} (hg : Gl X x) (h : GT X.K X.mg x xs) (hd : (x == ("__debug__" : Str)) = false) : PE X (.Name x pos) (tGT X.K xs) := by
  obtain ⟨a, e, q⟩ := h
  refine ⟨fun pins s σ H Q I hq => (pe_glob (v := .ref a) (u := .ref a) hg e (show Value.ref a = Value.ref a from rfl) hd).run pins s σ H Q I (hq a (q H))⟩
def GV (mg : Str → Option Value) (x : Str) (v : V) : Prop := ∃ u, mg x = some u ∧ RelV v u
theorem pe_gv {X : Cx} {x : Str} {v : V} {pos : Pos} (hg : Gl X x) (h : GV X.mg x v) (hd : (x == ("__debug__" : Str)) = false) : PE X (.Name x pos) (tC v) := by
  obtain ⟨u, e, r⟩ := h
  exact pe_glob hg e r hd
/-! ## a def with defaults behind -/
def DfD (K : PySem.W.Frag) (mg : Str → Option Value) (x : Str) (st : Stmt) (ps : List Str) (dvs : List V) : Prop :=
  ∃ f fd, FunD K x x (defArgs st) (defBody st) (defScope st) dvs [] f fd ∧ mg x = some (.ref f) ∧ Binds K fd ps [] ∧ ∃ ds, Vals dvs ds ∧ Binds K fd ps ds
theorem dfd_mk {K : PySem.W.Frag} {h : Heap} {mg : Str → Option Value} {x : Str} {st : Stmt} {ps : List Str} {dvs : List V} {f T : Addr} {oc tc : Value} {od an td : Option Addr} {osl tsl : Array (Option Value)} {kV doc pm cdv ct : Value} {its : List Value} {n m : Nat}
    (X : K.In h) (G : h.Ns mainGlobals mg) (a : PySem.W.nsIn K mainGlobals x = some (some (.ref f)))
    (l : K.lookup f = some ⟨oc, od, .func (PySem.W.fnOf x x (defArgs st) (defBody st) (defScope st) (.ref T) kV doc pm an cdv ct), osl⟩) (lT : K.lookup T = some ⟨tc, td, .seq its.toArray n, tsl⟩)
    (c : PySem.W.codeIn K cdv x = true) (k : PySem.W.keepIn K (.ref f) = true) (rv : Vals dvs its) (hd : dvs ≠ []) (hm : m + dvs.length = ps.length)
    (b1 : ∀ (T : Addr) (kV doc pm : Value) (an : Option Addr) (cdv ct : Value) (us its : List Value), us.length = ps.length → its.length = dvs.length →
      ∃ k, bindArgs (PySem.W.fnOf x x (defArgs st) (defBody st) (defScope st) (.ref T) kV doc pm an cdv ct) ⟨us, []⟩ = seqItems? (.ref T) >>= k ∧ k (some its.toArray) = pure (ps.zip (us ++ its.drop dvs.length)))
    (b0 : ∀ (T : Addr) (kV doc pm : Value) (an : Option Addr) (cdv ct : Value) (us its : List Value), us.length = m → its.length = dvs.length →
      ∃ k, bindArgs (PySem.W.fnOf x x (defArgs st) (defBody st) (defScope st) (.ref T) kV doc pm an cdv ct) ⟨us, []⟩ = seqItems? (.ref T) >>= k ∧ k (some its.toArray) = pure (ps.zip (us ++ its.drop 0))) : DfD K mg x st ps dvs := by
  have F : FunD K x x (defArgs st) (defBody st) (defScope st) dvs [] f _ := ⟨⟨oc, od, .ref T, kV, doc, pm, an, cdv, ct, osl, rfl, l, c, .inr ⟨hd, T, _, its, n, rfl, lT, rfl, rv⟩, .inl rfl⟩, k⟩
  refine ⟨f, _, F, PySem.W.mg_of X G a, ?_, ?_⟩
  · obtain ⟨ds, r, b⟩ := F.binds1 ps.length dvs.length hd (by omega) b1
    rw [List.drop_length] at r
    cases r
    exact b
  · exact F.binds1 m 0 hd (by omega) b0
structure CalD (P : Program) (w : World) (K : PySem.W.Frag) (mg : Str → Option Value) (base : Heap) (x : Str) (ps : List Str) (k : Nat) (dvs : List V) (sp : Sp) : Prop where
  ex : ∃ f fd ds, FnOk P w K mg base CX0 k f fd ps sp ∧ mg x = some (.ref f) ∧ PySem.W.keepIn K (.ref f) = true ∧ Binds K fd ps [] ∧ Vals dvs ds ∧ Binds K fd ps ds
theorem DfD.cal {P : Program} {w : World} {K : PySem.W.Frag} {mg : Str → Option Value} {base : Heap} {x : Str} {st : Stmt} {ps N : List Str} {k : Nat} {dvs : List V} {sp : Sp} (D : DfD K mg x st ps dvs) (S : FnScope N ps (defScope st))
    (len : ∀ vs H Q E, sp vs H Q E → vs.length = ps.length)
    (hbody : ∀ (f : Addr) (cdv : Value) (A : Around) (outer : List Env) (s : Shared) (H : Hp) (vs : List V) (Q : VK) (E : XK), Room k (A.deeper (envOfC x (defScope st) s.heap.objs.size f cdv)) → sp vs H Q E →
      ∃ t, PSs (cxOf CX0 P w K mg base N x (defScope st) f cdv A outer s H E).nox (defBody st) t ∧ t { nx := fun _ H' => Q .non H', rt := Q } (start N vs) H) : CalD P w K mg base x ps (k + 1) dvs sp := by
  obtain ⟨f, fd, F, hm, hb, ds, r, b⟩ := D
  exact ⟨f, fd, ds, F.ok S len fun cdv A outer s H vs Q E hr hsp => (hbody f cdv A outer s H vs Q E hr hsp).elim fun t h => ⟨t, h.1.nox, h.2⟩, hm, F.kp, hb, r, b⟩
section
variable {X : Cx} {x : Str} {ps : List Str} {k : Nat} {dvs : List V} {sp : Sp} {e : Expr} {es : List Expr} {t : TA} {p pos : Pos}
theorem CalD.call (c : CalD X.prog X.w X.K X.mg X.base x ps k dvs sp) (hr : Room k X.A) (hg : Gl X x) (ha : PA X (e :: es) t)
    (hdb : (x == ("__debug__" : Str)) = false := by decide) (he : starEach (e :: es) X.env = (false, eval e X.env) :: starEach es X.env := by rfl) (hpl : (backTo pos (starEach es X.env)).any (·.1) = false := by rfl) :
    PE X (.Call (.Name x p) (e :: es) [] pos) (tCall sp [] E0 t) := by
  obtain ⟨f, fd, ds, F, hm, hk, hb, _, _⟩ := c.ex
  exact pe_call F hr hg hm hk hb .nil pass0 ha hdb he hpl
theorem CalD.callD (c : CalD X.prog X.w X.K X.mg X.base x ps k dvs sp) (hr : Room k X.A) (hg : Gl X x) (ha : PA X (e :: es) t)
    (hdb : (x == ("__debug__" : Str)) = false := by decide) (he : starEach (e :: es) X.env = (false, eval e X.env) :: starEach es X.env := by rfl) (hpl : (backTo pos (starEach es X.env)).any (·.1) = false := by rfl) :
    PE X (.Call (.Name x p) (e :: es) [] pos) (tCall sp dvs E0 t) := by
  obtain ⟨f, fd, ds, F, hm, hk, _, r, hb⟩ := c.ex
  exact pe_call F hr hg hm hk hb r pass0 ha hdb he hpl
end
/-! ## while, with no word on the test -/
theorem while_w {c : TT} {tb : TS} {D : Ends} {σ : L2.St} {H : Hp} (Pv : L2.St → Hp → Prop) (μ : L2.St → Hp → Nat) (h0 : Pv σ H)
    (hs : ∀ σ H, Pv σ H → c σ H fun b H1 => if b = true then ∃ N : L2.St → Hp → Prop, (∀ σ' H', N σ' H' → ∃ m', m' < μ σ H ∧ (m' = μ σ' H' ∧ Pv σ' H')) ∧ tb { D with nx := N, ct := N, bk := D.nx } σ H1 else D.nx σ H1) : tWhile c tb D σ H :=
  ⟨fun m σ H => m = μ σ H ∧ Pv σ H, ⟨_, rfl, h0⟩, fun m σ H h => by
    obtain ⟨rfl, p⟩ := h
    exact hs σ H p⟩
/-- the next round, if all is kept and the measure fell -/
def Nxt (Pv : L2.St → Hp → Prop) (μ : L2.St → Hp → Nat) (m : Nat) : L2.St → Hp → Prop := fun σ' H' => Pv σ' H' ∧ μ σ' H' < m
theorem Nxt.ok {Pv : L2.St → Hp → Prop} {μ : L2.St → Hp → Nat} {m : Nat} : ∀ σ' H', Nxt Pv μ m σ' H' → ∃ m', m' < m ∧ (m' = μ σ' H' ∧ Pv σ' H') := fun _ _ h => ⟨_, h.2, rfl, h.1⟩
end Wk

namespace WkA
open PySem PySem.Spec PyProof.Rows L2 Wk
open TL (tl len_tl ext_tl tl_append mk_tl)
def t__law_pen (K : PySem.W.Frag) : TS :=
  (tRet (tDisp [((tC (tx [99, 101, 108, 108, 115])), (tCB (rList1 K) (tCons (tSl (rCut K) (tVar 0) tNoPart (tPart (tC (.int 63)))) tNil))), ((tC (tx [111, 112, 101, 110, 101, 100])), (tC (.int 0))), ((tC (tx [108, 101, 102, 116])), (tC (.int 0)))]))
def t__law_draw (K : PySem.W.Frag) : TS :=
  (tSeq (tIfS (tTest (tOp (rMore) (tDGet (tVar 0) (tC (tx [108, 101, 102, 116]))) (tC (.int 0)))) (tSeq (tAsg (tOp (rRest) (tCB (rInt1) (tCons (tDGet (tVar 0) (tC (tx [108, 101, 102, 116]))) tNil)) (tVar 1)) (gName 2))
    (tSeq (sDPut (tVar 0) (tC (tx [108, 101, 102, 116])) (tOp (rOver) (tDGet (tVar 0) (tC (tx [108, 101, 102, 116]))) (tVar 1)))
    (tRet (tVar 2)))) tNext)
    (tSeq (tPar 3 4 (tCons (tDGet (tVar 0) (tC (tx [111, 112, 101, 110, 101, 100]))) (tCons (tDGet (tVar 0) (tC (tx [99, 101, 108, 108, 115]))) tNil)))
    (tSeq (sDPut (tVar 0) (tC (tx [111, 112, 101, 110, 101, 100])) (tOp (rPlus K) (tVar 3) (tC (.int 1))))
    (tSeq (tIfS (tTest (tOp (rEqq K) (tVar 4) (tLst tNil))) (tRet (tOp (rRest) (tCB (rInt1) (tCons (tOp (rPlus K) (tOp (rTimes K) (tC (.int 7)) (tVar 3)) (tC (.int 3))) tNil)) (tVar 1))) tNext)
    (tSeq (tAsg (tOp (rItem K) (tVar 4) (tOp (rRest) (tCB (rInt1) (tCons (tVar 3) tNil)) (tCB (rLenW K) (tCons (tVar 4) tNil)))) (gName 5))
    (tSeq (tIfS (tAnd (tTest (tOp (rLess) (tVar 3) (tCB (rLenW K) (tCons (tVar 4) tNil)))) (tTest (tOp (rMeq) (tCB (rAbs) (tCons (tVar 5) tNil)) (tOp (rPower) (tC (.int 10)) (tC (.int 18)))))) (tSeq (sDPut (tVar 0) (tC (tx [108, 101, 102, 116])) (tOp (rOver) (tOp (rMinus) (tCB (rAbs) (tCons (tVar 5) tNil)) (tOp (rPower) (tC (.int 10)) (tC (.int 18)))) (tVar 1)))
    (tRet (tOp (rRest) (tCB (rInt1) (tCons (tOp (rMinus) (tCB (rAbs) (tCons (tVar 5) tNil)) (tOp (rPower) (tC (.int 10)) (tC (.int 18)))) tNil)) (tVar 1)))) tNext)
    (tSeq (tAsg (tOp (rRest) (tCB (rInt1) (tCons (tOp (rPlus K) (tOp (rPlus K) (tOp (rPlus K) (tOp (rTimes K) (tOp (rRest) (tCB (rInt1) (tCons (tVar 5) tNil)) (tC (.int 4294965521))) (tC (.int 43793))) (tOp (rTimes K) (tOp (rTimes K) (tC (.int 25999)) (tVar 3)) (tVar 3))) (tOp (rTimes K) (tC (.int 839)) (tVar 3))) (tC (.int 67))) tNil)) (tC (.int 4294965583))) (gName 6))
    (tSeq (tAsg (tOp (rRest) (tCB (rInt1) (tCons (tOp (rPlus K) (tOp (rPlus K) (tOp (rTimes K) (tVar 6) (tVar 6)) (tOp (rTimes K) (tC (.int 40163)) (tVar 6))) (tOp (rTimes K) (tC (.int 31)) (tVar 3))) tNil)) (tC (.int 4294965511))) (gName 6))
    (tRet (tOp (rRest) (tCB (rInt1) (tCons (tOp (rOver) (tOp (rRest) (tCB (rInt1) (tCons (tOp (rTimes K) (tVar 6) (tOp (rPlus K) (tVar 6) (tC (.int 60289)))) tNil)) (tC (.int 4294965491))) (tC (.int 128))) tNil)) (tVar 1)))))))))))
def t__law_pick (K : PySem.W.Frag) (s__law_draw : Sp) : TS :=
  (tRet (tOp (rItem K) (tVar 1) (tCall s__law_draw [] E0 (tCons (tVar 0) (tCons (tCB (rLenW K) (tCons (tVar 1) tNil)) tNil)))))
def t__law_letters (K : PySem.W.Frag) (s__law_draw : Sp) (s__law_pick : Sp) : TS :=
  (tSeq (tAsg (tTup (tCons (tC (tx [97, 98, 99, 100, 101, 102, 103, 104, 105, 106, 107, 108, 109, 110, 111, 112, 113, 114, 115, 116, 117, 118, 119, 120, 121, 122])) (tCons (tCall s__law_draw [] E0 (tCons (tVar 0) (tCons (tC (.int 26)) tNil))) tNil))) (gTup K 2 (gCons (gName 1) (gCons (gName 2) gNil))))
    (tSeq (tAsg (tCall s__law_pick [] E0 (tCons (tVar 0) (tCons (tLst (tCons (tC (.int 1)) (tCons (tC (.int 3)) (tCons (tC (.int 5)) (tCons (tC (.int 7)) (tCons (tC (.int 9)) (tCons (tC (.int 11)) (tCons (tC (.int 15)) (tCons (tC (.int 17)) (tCons (tC (.int 19)) (tCons (tC (.int 21)) (tCons (tC (.int 23)) (tCons (tC (.int 25)) tNil))))))))))))) tNil))) (gName 3))
    (tRet (tM1 (rJoin K) (tC (tx [])) (tLc (iRng1 (tCons (tOp (rPlus K) (tC (.int 2)) (tCall s__law_draw [] E0 (tCons (tVar 0) (tCons (tC (.int 3)) tNil)))) tNil)) (gName 4) tYes (tOp (rItem K) (tVar 1) (tOp (rRest) (tCB (rInt1) (tCons (tOp (rPlus K) (tVar 2) (tOp (rTimes K) (tVar 3) (tVar 4))) tNil)) (tC (.int 26)))) [4])))))
def t__law_word (K : PySem.W.Frag) (s__law_draw : Sp) (s__law_pick : Sp) : TS :=
  (tSeq (tPar 3 4 (tCons (tCall s__law_draw [] E0 (tCons (tVar 0) (tCons (tC (.int 4)) tNil))) (tCons (tCall s__law_draw [] E0 (tCons (tVar 0) (tCons (tVar 2) tNil))) tNil)))
    (tSeq (tAsg (tM1 (rJoin K) (tC (tx [])) (tLc (iRng1 (tCons (tOp (rPlus K) (tC (.int 1)) (tCall s__law_draw [] E0 (tCons (tVar 0) (tCons (tC (.int 3)) tNil)))) tNil)) (gName 7) tYes (tCall s__law_pick [] E0 (tCons (tVar 0) (tCons (tVar 1) tNil))) [7])) (gName 5))
    (tSeq (tAsg (tSl (rCut K) (tOp (rTimes K) (tVar 5) (tVar 2)) tNoPart (tPart (tVar 2))) (gName 6))
    (tSeq (tIfS (tTest (tOp (rEqq K) (tVar 3) (tC (.int 0)))) (tRet (tM1 (rJoin K) (tC (tx [])) (tLc (iRng1 (tCons (tVar 2) tNil)) (gName 7) tYes (tCall s__law_pick [] E0 (tCons (tVar 0) (tCons (tVar 1) tNil))) [7]))) tNext)
    (tRet (tIf (tTest (tOp (rEqq K) (tVar 3) (tC (.int 1)))) (tOp (rPlus K) (tOp (rPlus K) (tSl (rCut K) (tVar 6) tNoPart (tPart (tVar 4))) (tCall s__law_pick [] E0 (tCons (tVar 0) (tCons (tVar 1) tNil)))) (tSl (rCut K) (tVar 6) (tPart (tOp (rPlus K) (tVar 4) (tC (.int 1)))) tNoPart)) (tVar 6)))))))
abbrev n__law_pen : List Str := ["_law_script"]
abbrev n__law_draw : List Str := ["_law_pen_here", "_law_many", "_law_digit", "_law_k", "_law_cells", "_law_cell", "_law_mix"]
abbrev n__law_pick : List Str := ["_law_pen_here", "_law_some"]
abbrev n__law_letters : List Str := ["_law_pen_here", "_law_small", "_law_first", "_law_pace", "_law_k"]
abbrev n__law_word : List Str := ["_law_pen_here", "_law_letters_here", "_law_width", "_law_way", "_law_at", "_law_piece", "_law_word_here", "_law_k"]
def t__law_draw_rest (K : PySem.W.Frag) : TS :=
  (tSeq (tAsg (tOp (rRest) (tCB (rInt1) (tCons (tOp (rPlus K) (tOp (rPlus K) (tOp (rPlus K) (tOp (rTimes K) (tOp (rRest) (tCB (rInt1) (tCons (tVar 5) tNil)) (tC (.int 4294965521))) (tC (.int 43793))) (tOp (rTimes K) (tOp (rTimes K) (tC (.int 25999)) (tVar 3)) (tVar 3))) (tOp (rTimes K) (tC (.int 839)) (tVar 3))) (tC (.int 67))) tNil)) (tC (.int 4294965583))) (gName 6))
    (tSeq (tAsg (tOp (rRest) (tCB (rInt1) (tCons (tOp (rPlus K) (tOp (rPlus K) (tOp (rTimes K) (tVar 6) (tVar 6)) (tOp (rTimes K) (tC (.int 40163)) (tVar 6))) (tOp (rTimes K) (tC (.int 31)) (tVar 3))) tNil)) (tC (.int 4294965511))) (gName 6))
    (tRet (tOp (rRest) (tCB (rInt1) (tCons (tOp (rOver) (tOp (rRest) (tCB (rInt1) (tCons (tOp (rTimes K) (tVar 6) (tOp (rPlus K) (tVar 6) (tC (.int 60289)))) tNil)) (tC (.int 4294965491))) (tC (.int 128))) tNil)) (tVar 1)))))
/-! ## the pen: a dict of the cells, how many were opened, what is left -/
def kC : Key := Sum.inr (sx [99, 101, 108, 108, 115])
def kO : Key := Sum.inr (sx [111, 112, 101, 110, 101, 100])
def kL : Key := Sum.inr (sx [108, 101, 102, 116])
theorem nCO : ¬ kC = kO := by decide +kernel
theorem nCL : ¬ kC = kL := by decide +kernel
theorem nOL : ¬ kO = kL := by decide +kernel
theorem nOC : ¬ kO = kC := by decide +kernel
theorem nLC : ¬ kL = kC := by decide +kernel
theorem nLO : ¬ kL = kO := by decide +kernel
def penD (c : Addr) (k l : Int) : List (Key × V) := [(kC, .ref c), (kO, .int k), (kL, .int l)]
theorem penD_C (c : Addr) (k l : Int) : valV (penD c k l) kC = some (.ref c) := valV_pos rfl
theorem penD_O (c : Addr) (k l : Int) : valV (penD c k l) kO = some (.int k) := by
  unfold penD
  rw [valV_neg nCO, valV_pos rfl]
theorem penD_L (c : Addr) (k l : Int) : valV (penD c k l) kL = some (.int l) := by
  unfold penD
  rw [valV_neg nCL, valV_neg nOL, valV_pos rfl]
theorem putK_O (c : Addr) (k l j : Int) : putK (penD c k l) kO (.int j) = penD c j l := by
  unfold putK penD
  simp [nCO, nLO]
theorem putK_L (c : Addr) (k l j : Int) : putK (penD c k l) kL (.int j) = penD c k j := by
  unfold putK penD
  simp [nCL, nOL]
/-- a pen at p over the cells at c, with which at most n cells were opened -/
def Pen (p c : Addr) (H : Hp) (n : Nat) : Prop := ∃ (k l : Int) (ns : List Int), H p = some (.dK (penD c k l)) ∧ H c = some (.lst (ns.map V.int)) ∧ ns.length ≤ 63 ∧ 0 ≤ k ∧ k ≤ n ∧ 0 ≤ l
section
variable {p c q : Addr} {H H1 H' : Hp} {n m : Nat} {o : HO}
theorem Pen.mono (h : Pen p c H n) (l : n ≤ m) : Pen p c H m := by
  obtain ⟨k, j, ns, h1, h2, h3, h4, h5, h6⟩ := h
  exact ⟨k, j, ns, h1, h2, h3, h4, by omega, h6⟩
theorem Pen.same (h : Pen p c H n) (s : Same H H') : Pen p c H' n := by
  obtain ⟨k, j, ns, h1, h2, r⟩ := h
  exact ⟨k, j, ns, s _ _ h1, s _ _ h2, r⟩
theorem Pen.at (h : Pen p c H n) : ∃ o, H p = some o := by
  obtain ⟨k, j, ns, h1, _⟩ := h
  exact ⟨_, h1⟩
theorem Pen.ne (h : Pen p c H n) (hq : H q = none) : q ≠ p ∧ q ≠ c := by
  obtain ⟨k, j, ns, h1, h2, _⟩ := h
  exact ⟨fun e => (by rw [e, h1] at hq; cases hq), fun e => (by rw [e, h2] at hq; cases hq)⟩
theorem Pen.put (h : Pen p c H n) (h1 : q ≠ p) (h2 : q ≠ c) : Pen p c (upd H q o) n := by
  obtain ⟨k, j, ns, e1, e2, r⟩ := h
  exact ⟨k, j, ns, by rw [upd_ne h1.symm]; exact e1, by rw [upd_ne h2.symm]; exact e2, r⟩
theorem Pen.new (h : Pen p c H n) (hq : H q = none) : Pen p c (upd H q o) n := h.put (h.ne hq).1 (h.ne hq).2
theorem Pen.dict (h : Pen p c H n) : ∀ o, H p = some o → (∀ ys, o ≠ .lst ys) ∧ ∀ u ys, o ≠ .frz u (.lst ys) := fun o e => by
  obtain ⟨k, j, ns, h1, _⟩ := h
  rw [h1] at e
  cases e
  exact ⟨fun ys z => (by cases z), fun u ys z => (by cases z)⟩
theorem Pen.dict2 (h : Pen p c H n) : ∀ o, H p = some o → (∀ ys, o ≠ .tup ys) ∧ ∀ u ys, o ≠ .frz u (.tup ys) := fun o e => by
  obtain ⟨k, j, ns, h1, _⟩ := h
  rw [h1] at e
  cases e
  exact ⟨fun ys z => (by cases z), fun u ys z => (by cases z)⟩
theorem Pen.ne_l {xs : List V} (h : Pen p c H n) (hq : H q = some (.lst xs)) : q ≠ p := fun e => by
  rw [e] at hq
  exact (h.dict _ hq).1 _ rfl
theorem Pen.ne_t {xs : List V} (h : Pen p c H n) (hq : H q = some (.tup xs)) : q ≠ p := fun e => by
  rw [e] at hq
  exact (h.dict2 _ hq).1 _ rfl
/-- the state behind some draws: the pen still one, all else as it was -/
structure Pn (p c : Addr) (H : Hp) (n : Nat) (H' : Hp) : Prop where
  pen : Pen p c H' n
  kp : Kp p H H'
theorem Pn.trans (a : Pn p c H n H1) (b : Pn p c H1 m H') : Pn p c H m H' := ⟨b.pen, a.kp.trans b.kp⟩
theorem Pn.new (a : Pn p c H n H') (h : H' q = none) : Pn p c H n (upd H' q o) := ⟨a.pen.new h, a.kp.new h⟩
/-- a thing changes that was not there at the beginning -/
theorem Pn.put (a : Pn p c H n H') (b : Pen p c H m) (h : H q = none) : Pn p c H n (upd H' q o) := ⟨a.pen.put (b.ne h).1 (b.ne h).2, a.kp.mut h⟩
theorem Pn.mono (a : Pn p c H n H') (l : n ≤ m) : Pn p c H m H' := ⟨a.pen.mono l, a.kp⟩
theorem Pn.refl (h : Pen p c H n) : Pn p c H n H := ⟨h, Kp.refl p H⟩
theorem Pn.same (h : Pen p c H n) (s : Same H H') : Pn p c H n H' := ⟨h.same s, Kp.of s⟩
theorem Pn.then (a : Pn p c H n H1) (s : Same H1 H') : Pn p c H n H' := a.trans (Pn.same a.pen s)
theorem Pn.back (a : Pn p c H n H') (h : H' q = none) : H q = none := a.kp.free a.pen.at h
theorem Pn.lst {xs : List V} (a : Pn p c H n H') (b : Pen p c H m) (h : H q = some (.lst xs)) : H' q = some (.lst xs) := a.kp _ _ (b.ne_l h) h
theorem Pn.tup {xs : List V} (a : Pn p c H n H') (b : Pen p c H m) (h : H q = some (.tup xs)) : H' q = some (.tup xs) := a.kp _ _ (b.ne_t h) h
theorem Pn.sqL {K : PySem.W.Frag} {xs : List V} (a : Pn p c H n H') (b : Pen p c H m) (h : SqL K H q xs) : SqL K H' q xs := sqL_kp a.kp b.dict h
theorem Pn.sqT {K : PySem.W.Frag} {xs : List V} (a : Pn p c H n H') (b : Pen p c H m) (h : SqT K H q xs) : SqT K H' q xs := sqT_kp a.kp b.dict2 h
end

/-! ## a number drawn -/
def spDraw : Sp := fun vs H Q _ => ∃ (p c : Addr) (n : Nat) (b : Int), vs = [.ref p, .int b] ∧ Pen p c H n ∧ n < 2 ^ 30 ∧ 0 < b ∧ b < 2 ^ 62 ∧
  ∀ (r : Int) (H' : Hp), 0 ≤ r → r < b → Pn p c H (n + 1) H' → Q (.int r) H'
theorem small_div {b : Int} (h0 : 0 < b) (h1 : b < 2 ^ 62) : ∀ i : Int, CDivW i b := fun i => wide_div (b := 62) h0 (by omega) (by decide) (by decide)
theorem mod_ok {b r : Int} (h0 : 0 < b) : 0 ≤ r % b ∧ r % b < b := ⟨Int.emod_nonneg r (by omega), Int.emod_lt_of_pos r h0⟩
theorem mulw {i j : Int} (hi : i.natAbs < 2 ^ 200) (hj : j.natAbs < 2 ^ 200) : CMulW i j := wide_mul hi hj (by decide) (by decide) (by decide)
theorem rd_draw (K : PySem.W.Frag) (vs : List V) (H : Hp) (Q : VK) (E : XK) (h : spDraw vs H Q E) : t__law_draw K { nx := fun _ H' => Q .non H', rt := Q } (start n__law_draw vs) H := by
  obtain ⟨p, c, n, b, rfl, ⟨k, l, ns, hp, hc, hlen, k0, kn, l0⟩, hn, b0, bb, q⟩ := h
  have gC : ∀ {H : Hp} {k l : Int}, H p = some (.dK (penD c k l)) → DGet H p (kV kC) (some (.ref c)) := fun {H k l} e => by rw [← penD_C c k l]; exact DGet.k e
  have gO : ∀ {H : Hp} {k l : Int}, H p = some (.dK (penD c k l)) → DGet H p (kV kO) (some (.int k)) := fun {H k l} e => by rw [← penD_O c k l]; exact DGet.k e
  have gL : ∀ {H : Hp} {k l : Int}, H p = some (.dK (penD c k l)) → DGet H p (kV kL) (some (.int l)) := fun {H k l} e => by rw [← penD_L c k l]; exact DGet.k e
  have pO : ∀ {H : Hp} {k l j : Int}, H p = some (.dK (penD c k l)) → DPut H p (kV kO) (.int j) (upd H p (.dK (penD c j l))) := fun {H k l j} e => by rw [← putK_O c k l j]; exact DPut.k e (by show 3 < sizeLine; decide)
  have pL : ∀ {H : Hp} {k l j : Int}, H p = some (.dK (penD c k l)) → DPut H p (kV kL) (.int j) (upd H p (.dK (penD c k j))) := fun {H k l j} e => by rw [← putK_L c k l j]; exact DPut.k e (by show 3 < sizeLine; decide)
  have ncp : c ≠ p := ne_of hc hp (by intro z; cases z)
  have dv := small_div b0 bb
  -- the ways out: a rest by b, the pen behind it
  have out : ∀ (z : Int) (H' : Hp) (k' l' : Int), H' p = some (.dK (penD c k' l')) → H' c = some (.lst (ns.map V.int)) → 0 ≤ k' → k' ≤ n + 1 → 0 ≤ l' → Kp p H H' → Q (.int (z % b)) H' :=
    fun z H' k' l' e1 e2 e3 e4 e5 kp => q _ _ (mod_ok b0).1 (mod_ok b0).2 ⟨⟨k', l', ns, e1, e2, hlen, e3, by omega, e5⟩, kp⟩
  have kpp : ∀ (o : HO), Kp p H (upd H p o) := fun o b' u nb e => by rw [upd_ne nb]; exact e
  refine ⟨.ref p, rfl, p, .int l, rfl, gL hp, _, rfl, iteD (fun hl => ?_) (fun hl => ?_)⟩
  · -- a digit of what is left
    refine ⟨.ref p, rfl, p, .int l, rfl, gL hp, .int b, rfl, b0, ?_⟩
    refine ⟨.ref p, rfl, p, .int l, rfl, gL hp, .int b, rfl, dv l, .ref p, rfl, p, _, rfl, pL hp, _, rfl, ?_⟩
    exact out l _ k (l / b) upd_same (by rw [upd_ne ncp]; exact hc) k0 (by omega) (Int.ediv_nonneg l0 (by omega)) (kpp _)
  · refine ⟨.ref p, rfl, p, .int k, rfl, gO hp, .ref p, rfl, p, .ref c, rfl, gC hp, _, _, rfl, ?_⟩
    refine ⟨.int k, rfl, .ref p, rfl, p, _, rfl, pO hp, ?_⟩
    generalize hH1 : upd H p (.dK (penD c (k + 1) l)) = H1
    have hp1 : H1 p = some (.dK (penD c (k + 1) l)) := by rw [← hH1]; exact upd_same
    have hc1 : H1 c = some (.lst (ns.map V.int)) := by rw [← hH1, upd_ne ncp]; exact hc
    have kp1 : Kp p H H1 := by rw [← hH1]; exact kpp _
    clear hH1
    refine ⟨.ref c, rfl, Nat.zero_le _, fun e he => ?_⟩
    have nep : p ≠ e := ne_of_none hp1 he
    have nec : c ≠ e := ne_of_none hc1 he
    refine ⟨.list (ns.map PyData.int), .list [], .lst (SqL.of (by rw [upd_ne nec]; exact hc1)) (dp_ints ns), .lst (SqL.of upd_same) .nil, ?_, _, rfl, ?_⟩
    · simp only [PyData.depth, depth_ints, PyData.depthAll]; decide
    generalize hH2 : upd H1 e (.lst []) = H2
    have hp2 : H2 p = some (.dK (penD c (k + 1) l)) := by rw [← hH2, upd_ne nep]; exact hp1
    have hc2 : H2 c = some (.lst (ns.map V.int)) := by rw [← hH2, upd_ne nec]; exact hc1
    have kp2 : Kp p H H2 := by rw [← hH2]; exact kp1.new he
    clear hH2
    refine iteB (fun hz => ?_) (fun hz => ?_)
    · refine ⟨.int k, rfl, mulw (by decide) (by omega), .int b, rfl, b0, ?_⟩
      exact out _ H2 (k + 1) l hp2 hc2 (by omega) (by omega) l0 kp2
    · have hne : ns ≠ [] := fun e => by rw [e] at hz; simp [PyData.eqv, PyData.eqvAll] at hz
      have hpos : 0 < ns.length := by
        cases ns with
        | nil => exact absurd rfl hne
        | cons a r => exact Nat.succ_pos _
      have hix : ∃ j : Nat, k % (((ns.map V.int).length : Nat) : Int) = (j : Int) ∧ j < ns.length := by
        have hl : (((ns.map V.int).length : Nat) : Int) = (ns.length : Int) := by rw [List.length_map]
        rw [hl]
        have h1 := Int.emod_nonneg k (show (ns.length : Int) ≠ 0 by omega)
        have h2 := Int.emod_lt_of_pos k (show (0 : Int) < ns.length by omega)
        exact ⟨(k % (ns.length : Int)).toNat, by omega, by omega⟩
      obtain ⟨j, hj, hjl⟩ := hix
      have hat : atI (ns.map V.int) (k % (((ns.map V.int).length : Nat) : Int)) = some (V.int ns[j]) := by
        rw [hj]
        exact atI_nat (by rw [List.getElem?_map, List.getElem?_eq_getElem hjl]; rfl)
      refine ⟨.ref c, rfl, .int k, rfl, .ref c, rfl, ns.map V.int, .inl (SqL.of hc2), by rw [List.length_map]; omega, ns.map V.int, V.int ns[j], .inl (SqL.of hc2), hat, ?_⟩
      generalize ns[j] = cell
      have fin : ∀ (b' : Bool), b' = true ∨ b' = false := fun b' => by cases b' <;> simp
      -- the rest of the body, where the cell is not a large one
      have mixed : ∀ (k' : Int), k' = k → t__law_draw_rest K { nx := fun _ H' => Q .non H', rt := Q } [some (.ref p), some (.int b), none, some (.int k), some (.ref c), some (.int cell), none] H2 := fun k' _ => by
        have c1 := mod_ok (b := 4294965521) (r := cell) (by decide)
        have h1 : (25999 * k * k).natAbs < 2 ^ 200 := by
          rw [Int.natAbs_mul, Int.natAbs_mul]
          have e1 : k.natAbs < 2 ^ 40 := by omega
          calc 25999 * k.natAbs * k.natAbs ≤ 25999 * 2 ^ 40 * 2 ^ 40 := Nat.mul_le_mul (Nat.mul_le_mul (Nat.le_refl _) (by omega)) (by omega)
            _ < 2 ^ 200 := by decide
        refine ⟨.int cell, rfl, by decide, mulw (by omega) (by decide), .int k, rfl, mulw (by decide) (by omega), .int k, rfl, mulw (by omega) (by omega), .int k, rfl, mulw (by decide) (by omega), by decide, ?_⟩
        generalize (cell % 4294965521 * 43793 + 25999 * k * k + 839 * k + 67) = z1
        have c2 := mod_ok (b := 4294965583) (r := z1) (by decide)
        generalize z1 % 4294965583 = m1 at c2
        refine ⟨.int m1, rfl, .int m1, rfl, mulw (by omega) (by omega), .int m1, rfl, mulw (by decide) (by omega), .int k, rfl, mulw (by decide) (by omega), by decide, ?_⟩
        generalize (m1 * m1 + 40163 * m1 + 31 * k) = z2
        have c3 := mod_ok (b := 4294965511) (r := z2) (by decide)
        generalize z2 % 4294965511 = m2 at c3
        refine ⟨.int m2, rfl, .int m2, rfl, mulw (by omega) (by omega), by decide, small_div (by decide) (by decide) _, .int b, rfl, b0, ?_⟩
        exact out _ H2 (k + 1) l hp2 hc2 (by omega) (by omega) l0 kp2
      refine ⟨.int k, rfl, .ref c, rfl, ns.map V.int, .inl (SqL.of hc2), _, rfl, iteD (fun hk => ?_) (fun hk => ?_)⟩
      · refine ⟨.int cell, rfl, ⟨by decide, by decide, by decide⟩, _, rfl, iteD (fun hg => ?_) (fun hg => ?_)⟩
        · refine ⟨.int cell, rfl, ⟨by decide, by decide, by decide⟩, .int b, rfl, dv _, .ref p, rfl, p, _, rfl, pL hp2, .int cell, rfl, ⟨by decide, by decide, by decide⟩, .int b, rfl, b0, ?_⟩
          refine out _ _ (k + 1) _ upd_same (by rw [upd_ne ncp]; exact hc2) (by omega) (by omega) (Int.ediv_nonneg ?_ (by omega)) (fun b' u nb e => by rw [upd_ne nb]; exact kp2 b' u nb e)
          have e : (10 : Int) ^ (Int.toNat 18) = 1000000000000000000 := by decide
          rw [e] at hg ⊢
          omega
        · exact mixed k rfl
      · exact mixed k rfl

/-! ## one of some things: of a list, a tuple, a text -/
def spPick (K : PySem.W.Frag) : Sp := fun vs H Q _ => ∃ (p c : Addr) (n : Nat), Pen p c H n ∧ n < 2 ^ 30 ∧
  ((∃ (a : Addr) (xs : List V), vs = [.ref p, .ref a] ∧ (SqL K H a xs ∨ SqT K H a xs) ∧ 0 < xs.length ∧ xs.length ≤ 100000 ∧ ∀ (v : V) (H' : Hp), v ∈ xs → Pn p c H (n + 1) H' → Q v H') ∨
   (∃ l : List Nat, vs = [.ref p, tx l] ∧ 0 < l.length ∧ l.length ≤ 100000 ∧ ∀ (s : Nat) (H' : Hp), s ∈ l → Pn p c H (n + 1) H' → Q (tx [s]) H'))
theorem at_in {α : Type} {xs : List α} {r : Int} (h0 : 0 ≤ r) (h1 : r < (xs.length : Nat)) : ∃ v, atI xs r = some v ∧ v ∈ xs := by
  obtain ⟨j, rfl⟩ : ∃ j : Nat, r = j := ⟨r.toNat, by omega⟩
  have hj : j < xs.length := by omega
  exact ⟨xs[j], atI_nat (List.getElem?_eq_getElem hj), List.getElem_mem hj⟩
theorem rd_pick (K : PySem.W.Frag) (vs : List V) (H : Hp) (Q : VK) (E : XK) (h : spPick K vs H Q E) : t__law_pick K spDraw { nx := fun _ H' => Q .non H', rt := Q } (start n__law_pick vs) H := by
  obtain ⟨p, c, n, hp, hn, ⟨a, xs, rfl, hx, h0, h1, q⟩ | ⟨l, rfl, h0, h1, q⟩⟩ := h
  · refine ⟨.ref a, rfl, .ref p, rfl, .ref a, rfl, xs, hx, p, c, n, _, rfl, hp, hn, by omega, by omega, fun r H' r0 r1 hP => ?_⟩
    obtain ⟨v, hv, hm⟩ := at_in r0 r1
    exact ⟨xs, v, hx.imp (fun h => hP.sqL hp h) (fun h => hP.sqT hp h), hv, q v H' hm hP⟩
  · refine ⟨tx l, rfl, .ref p, rfl, tx l, rfl, h1, p, c, n, _, rfl, hp, hn, by show (0 : Int) < (l.length : Nat); omega, by show ((l.length : Nat) : Int) < 2 ^ 62; omega, fun r H' r0 r1 hP => ?_⟩
    obtain ⟨v, hv, hm⟩ := at_in (xs := l) r0 r1
    exact ⟨h1, v, hv, q v H' hm hP⟩
/-! ## a new pen -/
def spPen (K : PySem.W.Frag) : Sp := fun vs H Q _ => ∃ (a : Addr) (ns : List Int), vs = [.ref a] ∧ SqL K H a (ns.map V.int) ∧ ns.length ≤ 63 ∧
  ∀ (p c : Addr) (H' : Hp), H p = none → H c = none → Same H H' → Pen p c H' 0 → Q (.ref p) H'
theorem rd_pen (K : PySem.W.Frag) (vs : List V) (H : Hp) (Q : VK) (E : XK) (h : spPen K vs H Q E) : t__law_pen K { nx := fun _ H' => Q .non H', rt := Q } (start n__law_pen vs) H := by
  obtain ⟨a, ns, rfl, hx, hl, q⟩ := h
  intro p hp
  have s1 : Same H (upd H p (.dK [])) := Same.new hp
  refine ⟨.ref a, rfl, 63, rfl, .inl ⟨a, ns.map V.int, rfl, s1.seq hx, fun b hb => ?_⟩⟩
  have hb0 : H b = none := s1.free hb
  refine ⟨_, .inl (SqL.of upd_same), fun c hc => ?_⟩
  have hcut : cutV (ns.map V.int) none (some 63) = ns.map V.int := by
    have := cutV_take (ns.map V.int) 63
    rw [List.take_of_length_le (by rw [List.length_map]; exact hl)] at this
    exact this
  rw [hcut] at hc ⊢
  have npb : p ≠ b := fun e => by rw [e, upd_same] at hb; cases hb
  have npc : p ≠ c := fun e => by
    rw [← e, upd_ne npb, upd_same] at hc
    cases hc
  have nbc : b ≠ c := fun e => by rw [e, upd_same] at hc; cases hc
  have hc0 : H c = none := by
    rw [upd_ne nbc.symm, upd_ne npc.symm] at hc
    exact hc
  refine ⟨?_, [(kC, .ref c), (kO, .int 0), (kL, .int 0)], rfl, by simp, ?_⟩
  · rw [upd_ne npc, upd_ne npb, upd_same]
  · have hm : mergeK [] [(kC, V.ref c), (kO, .int 0), (kL, .int 0)] = penD c 0 0 := by
      simp [mergeK, putK, penD, nCO, nCL, nOL]
    rw [hm]
    refine q p c _ hp hc0 ?_ ⟨0, 0, ns, upd_same, ?_, hl, Int.le_refl _, Int.le_refl _, Int.le_refl _⟩
    · exact Same.mut (Same.mut (Same.mut (Same.new' (Same.refl H) hp) hb0) hc0) hp
    · rw [upd_ne npc.symm, upd_same]
/-! ## letters -/
def LetOk (L : List Nat) : Prop := 2 ≤ L.length ∧ L.length ≤ 4 ∧ L.Nodup ∧ ∀ c ∈ L, 97 ≤ c ∧ c ≤ 122
def spLetters : Sp := fun vs H Q _ => ∃ (p c : Addr) (n : Nat), vs = [.ref p] ∧ Pen p c H n ∧ n < 2 ^ 29 ∧ ∀ (L : List Nat) (H' : Hp), LetOk L → Pn p c H (n + 3) H' → Q (tx L) H'
def abc : List Nat := [97, 98, 99, 100, 101, 102, 103, 104, 105, 106, 107, 108, 109, 110, 111, 112, 113, 114, 115, 116, 117, 118, 119, 120, 121, 122]
def paces : List Int := [1, 3, 5, 7, 9, 11, 15, 17, 19, 21, 23, 25]
def letAt (f g : Int) (k : Nat) : Nat := 97 + ((f + g * (k : Int)) % 26).toNat
theorem abc_at (z : Int) : atI abc (z % 26) = some (97 + (z % 26).toNat) := by
  have h1 := Int.emod_nonneg z (show (26 : Int) ≠ 0 by decide)
  have h2 := Int.emod_lt_of_pos z (show (0 : Int) < 26 by decide)
  have e : z % 26 = (((z % 26).toNat : Nat) : Int) := by omega
  generalize (z % 26).toNat = j at e ⊢
  rw [e]
  have hj : j < 26 := by omega
  refine atI_nat ?_
  have : ∀ j : Nat, j < 26 → abc[j]? = some (97 + j) := by decide
  exact this j hj
theorem letters_ok (f g : Int) (m : Nat) (hf0 : 0 ≤ f) (hf1 : f < 26) (hg : g ∈ paces) (hm : 2 ≤ m) (hm2 : m ≤ 4) : LetOk ((List.range m).map (letAt f g)) := by
  refine ⟨by simp; exact hm, by simp; exact hm2, ?_, fun c hc => ?_⟩
  · have key : ∀ f' : Nat, f' < 26 → ∀ g ∈ paces, ((List.range 4).map (letAt (f' : Int) g)).Nodup := by decide +kernel
    have h4 := key f.toNat (by omega) g hg
    rw [show ((f.toNat : Nat) : Int) = f by omega] at h4
    refine List.Nodup.sublist ?_ h4
    exact List.Sublist.map _ (List.range_sublist.mpr hm2)
  · obtain ⟨k, _, rfl⟩ := List.mem_map.mp hc
    unfold letAt
    have h1 := Int.emod_nonneg (f + g * (k : Int)) (show (26 : Int) ≠ 0 by decide)
    have h2 := Int.emod_lt_of_pos (f + g * (k : Int)) (show (0 : Int) < 26 by decide)
    omega
theorem rd_letters (K : PySem.W.Frag) (vs : List V) (H : Hp) (Q : VK) (E : XK) (h : spLetters vs H Q E) : t__law_letters K spDraw (spPick K) { nx := fun _ H' => Q .non H', rt := Q } (start n__law_letters vs) H := by
  obtain ⟨p, c, n, rfl, hp, hn, q⟩ := h
  refine ⟨.ref p, rfl, p, c, n, 26, rfl, hp, by omega, by decide, by decide, fun f H1 f0 f1 P1 => ?_⟩
  refine ⟨by show 2 ≤ sizeLine; decide, fun t ht => ⟨t, _, rfl, SqT.of upd_same, rfl, _, _, rfl, _, _, rfl, rfl, ?_⟩⟩
  refine ⟨.ref p, rfl, by show 12 ≤ sizeLine; decide, fun a ha => ?_⟩
  have P3 := (P1.new (o := .tup [tx abc, .int f]) ht).new (o := .lst (paces.map V.int)) ha
  refine ⟨p, c, n + 1, P3.pen, by omega, .inl ⟨a, paces.map V.int, rfl, .inl (SqL.of upd_same), by decide, by decide, fun v H4 hv P4 => ?_⟩⟩
  obtain ⟨g, hg, rfl⟩ := List.mem_map.mp hv
  replace P4 := P3.trans P4
  clear P3 P1
  refine ⟨⟨_, rfl⟩, ?_⟩
  refine ⟨.ref p, rfl, p, c, n + 1 + 1, 3, rfl, P4.pen, by omega, by decide, by decide, fun r H5 r0 r1 P5 => ?_⟩
  replace P5 := P4.trans P5
  refine ⟨_, rfl, by omega, by omega, fun D hD => ?_⟩
  have hD0 : H D = none := P5.back hD
  refine lcW walk_range (I := fun i acc H' => i ≤ 4 ∧ acc = ((List.range i).map (letAt f g)).map (fun s => tx [s]) ∧ Pn p c H (n + 3) H') (fun i acc H' o h => ⟨h.1, h.2.1, h.2.2.put hp hD0⟩) (fun _ _ _ _ _ => trivial) ⟨by decide, rfl, P5⟩ (fun i acc H' h => ?len)
    (fun i x acc H' H'' hi hI hacc y K1 K2 k1 k2 => ?step) (fun acc H' hacc hI => ?fin)
  case len =>
    rw [h.2.1, List.length_map, List.length_map, List.length_range]
    have := h.1
    omega
  case step =>
    obtain ⟨rfl, rfl⟩ := y
    obtain ⟨hi4, rfl, hP⟩ := hI
    have gb : ∀ g ∈ paces, g.natAbs < 2 ^ 200 := by decide
    refine ⟨rfl, tx abc, rfl, .int f, rfl, .int g, rfl, _, rfl, mulw (gb g hg) (by omega), by decide, by decide, _, abc_at _, ?_⟩
    refine k1 _ _ hacc ⟨by omega, ?_, hP⟩
    rw [List.range_succ, List.map_append, List.map_append, Int.zero_add]
    rfl
  case fin =>
    obtain ⟨h4, rfl, hP⟩ := hI
    refine ⟨((List.range (2 + r).toNat).map (letAt f g)).map fun s => [s], .inl (SqL.of ?_), ?_, ?_⟩
    · rw [hacc]
      simp [List.map_map, Function.comp_def]
    · rw [len_ones, List.length_map, List.length_range]
      omega
    · rw [tl_sx, wjoin1]
      exact q _ _ (letters_ok f g _ f0 f1 hg (by omega) h4) hP
/-! ## a word -/
/-- letters of L -/
def AllIn (L l : List Nat) : Prop := ∀ s ∈ l, s ∈ L
def spWord : Sp := fun vs H Q _ => ∃ (p c : Addr) (n : Nat) (L : List Nat) (m : Int), vs = [.ref p, tx L, .int m] ∧ Pen p c H n ∧ n < 2 ^ 29 ∧ 0 < L.length ∧ L.length ≤ 100 ∧ 1 ≤ m ∧ m ≤ 100 ∧
  ∀ (l : List Nat) (H' : Hp), (l.length : Int) = m → AllIn L l → Pn p c H (n + 200) H' → Q (tx l) H'
/-- "".join([pick(pen, letters) for k in range(j)]) : the place s of k, the pen's and the letters' places -/
theorem picked {K : PySem.W.Frag} {p c : Addr} {H0 : Hp} {n0 : Nat} (hp : Pen p c H0 n0) {L : List Nat} (hL : 0 < L.length) (hL2 : L.length ≤ 100000) {σ : L2.St} {ip iL s : Nat} (j : Int) (hj : 0 ≤ j) (hj2 : j ≤ 90000) {H : Hp} {n : Nat} (P : Pn p c H0 n H) (hn : n + j.toNat < 2 ^ 30)
    (e1 : ((wipe σ [s]).set s (some (V.int 0)))[ip]? = some (some (.ref p))) (e2 : ∀ z, ((wipe σ [s]).set s (some (V.int z)))[ip]? = some (some (.ref p))) (e3 : ∀ z, ((wipe σ [s]).set s (some (V.int z)))[iL]? = some (some (tx L)))
    (e4 : ∀ z, wipe ((wipe σ [s]).set s (some (V.int z))) [s] = wipe σ [s])
    {Q : V → Hp → Prop} (q : ∀ (l : List Nat) (H' : Hp), (l.length : Int) = j → AllIn L l → Pn p c H0 (n + j.toNat) H' → Q (tx l) H') :
    ∀ D, H D = none → ∃ W : Nat → Nat → Hp → Prop, (∃ m, W 0 m (upd H D (.lst []))) ∧ ∀ i m H, W i m H →
      ((Itr 0 j.toNat).stop i H ∧ rJoin K (tx []) [.ref D] H Q) ∨ ((Itr 0 j.toNat).go i H ∧ ∃ Nx : Hp → Prop, (∀ H', Nx H' → ∃ m', m' < m ∧ W (i + 1) m' H') ∧ ∀ x H', (Itr 0 j.toNat).yld i H x H' → gName s x (wipe σ [s]) H' fun σ2 H2 => wipe σ2 [s] = wipe σ [s] ∧ tYes σ2 H2 fun b H3 =>
        if b = true then tCall (spPick K) [] E0 (tCons (tVar ip) (tCons (tVar iL) tNil)) σ2 H3 fun y H4 => ∃ acc, H4 D = some (.lst acc) ∧ acc.length < sizeLine ∧ Nx (upd H4 D (.lst (acc ++ [y]))) else Nx H3) := by
  intro D hD
  have hD0 : H0 D = none := P.back hD
  refine lcW walk_range (I := fun i acc H' => i ≤ j.toNat ∧ ∃ l : List Nat, l.length = i ∧ AllIn L l ∧ acc = l.map (fun s => tx [s]) ∧ Pn p c H0 (n + i) H') (fun i acc H' o h => ⟨h.1, ?st⟩) (fun _ _ _ _ _ => trivial) ⟨Nat.zero_le _, [], rfl, ?nil, rfl, P⟩ (fun i acc H' h => ?len)
    (fun i x acc H' H'' hi hI hacc y K1 K2 k1 k2 => ?step) (fun acc H' hacc hI => ?fin)
  case st =>
    obtain ⟨_, l, h1, h2, h3, h4⟩ := h
    exact ⟨l, h1, h2, h3, h4.put hp hD0⟩
  case nil => exact fun s hs => by cases hs
  case len =>
    obtain ⟨h0, l, h1, _, rfl, _⟩ := h
    rw [List.length_map]
    omega
  case step =>
    obtain ⟨rfl, rfl⟩ := y
    obtain ⟨h0, l, h1, h2, rfl, h4⟩ := hI
    refine ⟨e4 _, .ref p, e2 _, tx L, e3 _, p, c, n + i, h4.pen, by omega, .inr ⟨L, rfl, hL, hL2, fun s' H4 hs P4 => ?_⟩⟩
    have hDp := hp.ne hD0
    refine k1 _ _ (P4.kp D _ hDp.1 hacc) ⟨by omega, l ++ [s'], by simp [h1], ?_, by simp, h4.trans P4⟩
    intro z hz
    rcases List.mem_append.mp hz with hz | hz
    · exact h2 z hz
    · rw [List.mem_singleton.mp hz]; exact hs
  case fin =>
    obtain ⟨h0, l, h1, h2, rfl, h4⟩ := hI
    refine ⟨l.map fun s => [s], .inl (SqL.of ?_), ?_, ?_⟩
    · rw [hacc]
      simp [List.map_map, Function.comp_def]
    · rw [len_ones]
      omega
    · rw [tl_sx, wjoin1]
      exact q l H' (by omega) h2 h4
theorem allIn_cut {L l : List Nat} (h : AllIn L l) (lo hi : Option Int) : AllIn L (cutL l lo hi) := fun s hs => h s (List.mem_of_mem_drop (List.mem_of_mem_take hs))
theorem allIn_app {L l m : List Nat} (h : AllIn L l) (k : AllIn L m) : AllIn L (l ++ m) := fun s hs => (List.mem_append.mp hs).elim (h s) (k s)
theorem allIn_rep {L l : List Nat} (h : AllIn L l) (n : Int) : AllIn L (repS l n) := fun s hs => by
  unfold repS at hs
  obtain ⟨x, hx, hs⟩ := List.mem_flatten.mp hs
  rw [List.eq_of_mem_replicate hx] at hs
  exact h s hs
theorem rd_word (K : PySem.W.Frag) (vs : List V) (H : Hp) (Q : VK) (E : XK) (h : spWord vs H Q E) : t__law_word K spDraw (spPick K) { nx := fun _ H' => Q .non H', rt := Q } (start n__law_word vs) H := by
  obtain ⟨p, c, n, L, m, rfl, hp, hn, l0, l1, m0, m1, q⟩ := h
  refine ⟨.ref p, rfl, p, c, n, 4, rfl, hp, by omega, by decide, by decide, fun way H1 w0 w1 P1 => ?_⟩
  refine ⟨.ref p, rfl, .int m, rfl, p, c, n + 1, m, rfl, P1.pen, by omega, by omega, by omega, fun at_ H2 a0 a1 P2 => ?_⟩
  replace P2 := P1.trans P2
  clear P1
  refine ⟨_, _, rfl, ⟨_, rfl⟩, .ref p, rfl, p, c, n + 1 + 1, 3, rfl, P2.pen, by omega, by decide, by decide, fun r H3 r0 r1 P3 => ?_⟩
  replace P3 := P2.trans P3
  clear P2
  refine ⟨_, rfl, by omega, by omega, picked (ip := 0) (iL := 1) hp l0 (by omega) (1 + r) (by omega) (by omega) P3 (by omega) rfl (fun _ => rfl) (fun _ => rfl) (fun _ => rfl) fun piece H4 hl hpc P4 => ?_⟩
  -- (piece * width)[:width]
  refine ⟨tx piece, rfl, .int m, rfl, ⟨by omega, by omega, by show piece.length ≤ 1000; omega⟩, .int m, rfl, _, rfl, ?_, ?_⟩
  · simp only [tl_sx, rep_length]
    have : m.toNat * piece.length ≤ 100 * 100 := Nat.mul_le_mul (by omega) (by omega)
    omega
  simp only [tl_sx]
  have hw : ∀ w : List Nat, w = cutL (repS piece m) none (some m) → (w.length : Int) = m ∧ AllIn L w := fun w e => by
    obtain ⟨k, rfl⟩ : ∃ k : Nat, m = k := ⟨m.toNat, by omega⟩
    rw [cutL_take] at e
    subst e
    refine ⟨?_, fun s hs => allIn_rep hpc _ s (List.mem_of_mem_take hs)⟩
    rw [List.length_take, rep_length]
    have h1 : 1 ≤ piece.length := by omega
    have h2 : k ≤ k * piece.length := Nat.le_mul_of_pos_right k h1
    simp only [Int.toNat_natCast]
    omega
  obtain ⟨w1l, w1a⟩ := hw _ rfl
  generalize cutL (repS piece m) none (some m) = word at w1l w1a
  refine ⟨.int way, rfl, rfl, _, rfl, iteD (fun hway => ?_) (fun hway => ?_)⟩
  · refine ⟨⟨_, rfl⟩, .int m, rfl, _, rfl, by omega, by omega, picked (ip := 0) (iL := 1) hp l0 (by omega) m (by omega) (by omega) P4 (by omega) rfl (fun _ => rfl) (fun _ => rfl) (fun _ => rfl) fun l H5 hl5 ha P5 => ?_⟩
    exact q l H5 hl5 ha (P5.mono (by omega))
  · refine ⟨.int way, rfl, rfl, _, rfl, iteD (fun hway => ?_) (fun hway => ?_)⟩
    · refine ⟨tx word, rfl, .int at_, rfl, _, rfl, by show word.length ≤ 100000; omega, .ref p, rfl, tx L, rfl, p, c, _, P4.pen, by omega, .inr ⟨L, rfl, l0, by omega, fun s H5 hs P5 => ?_⟩⟩
      obtain ⟨k, rfl⟩ : ∃ k : Nat, at_ = k := ⟨at_.toNat, by omega⟩
      have e1 : ((k : Int) + 1) = ((k + 1 : Nat) : Int) := by omega
      refine ⟨?_, tx word, rfl, .int k, rfl, _, rfl, by show word.length ≤ 100000; omega, ?_, ?_⟩
      · rw [tl_sx, tl_sx, tl_sx, cutL_take, List.length_take]
        simp; omega
      · rw [tl_sx, tl_sx, tl_sx, tl_sx, tl_sx, cutL_take, e1, cutL_drop]
        simp; omega
      · rw [tl_sx, tl_sx, tl_sx, tl_sx, tl_sx]
        refine q _ _ ?_ ?_ ((P4.trans P5).mono (by omega))
        · rw [cutL_take, e1, cutL_drop]
          simp; omega
        · refine allIn_app (allIn_app (allIn_cut w1a _ _) ?_) (allIn_cut w1a _ _)
          intro z hz
          rw [List.mem_singleton.mp hz]
          exact hs
    · exact ⟨tx word, rfl, q word H4 w1l w1a (P4.mono (by omega))⟩
/-! ## how many arguments -/
theorem len_draw : ∀ vs H Q E, spDraw vs H Q E → vs.length = 2 := by
  rintro _ _ _ _ ⟨_, _, _, _, rfl, _⟩; rfl
theorem len_pick (K : PySem.W.Frag) : ∀ vs H Q E, spPick K vs H Q E → vs.length = 2 := by
  rintro _ _ _ _ ⟨_, _, _, _, _, ⟨_, _, rfl, _⟩ | ⟨_, rfl, _⟩⟩ <;> rfl
theorem len_pen (K : PySem.W.Frag) : ∀ vs H Q E, spPen K vs H Q E → vs.length = 1 := by
  rintro _ _ _ _ ⟨_, _, rfl, _⟩; rfl
theorem len_letters : ∀ vs H Q E, spLetters vs H Q E → vs.length = 1 := by
  rintro _ _ _ _ ⟨_, _, _, rfl, _⟩; rfl
theorem len_word : ∀ vs H Q E, spWord vs H Q E → vs.length = 3 := by
  rintro _ _ _ _ ⟨_, _, _, _, _, rfl, _⟩; rfl
end WkA

namespace WkP
open PySem PySem.Spec PyProof.Rows L2 Wk WkS WkA
open TL (tl len_tl ext_tl tl_append mk_tl)
def t_check_letters (K : PySem.W.Frag) : TS :=
  (tSeq (tIfS (tOr (tNot (tTruth K (tCB (rIsi1 K) (tCons (tVar 0) (tCons (tC (.ty "str")) tNil))))) (tOr (tNot (tTest (tChain (rLeq) (rLeq) (tC (.int 2)) (tCB (rLenW K) (tCons (tVar 0) tNil)) (tC (.int 4))))) (tTest (tOp (rLess) (WkS.tSigns (tVar 0)) (tCB (rLenW K) (tCons (tVar 0) tNil)))))) tNever tNext)
    (tIfS (tNot (tTruth K (tCB (rAll K) (tCons (tLc (iAny K (tVar 0)) (gName 1) tYes (tOp (rInn K) (tVar 1) (tC (tx [97, 98, 99, 100, 101, 102, 103, 104, 105, 106, 107, 108, 109, 110, 111, 112, 113, 114, 115, 116, 117, 118, 119, 120, 121, 122]))) [1]) tNil)))) tNever tNext))
def t_is_word (K : PySem.W.Frag) : TS :=
  (tSeq (tIfS (tOr (tNot (tTruth K (tCB (rIsi1 K) (tCons (tVar 1) (tCons (tC (.ty "str")) tNil))))) (tNot (tTest (tChain (rLeq) (rLeq) (tC (.int 1)) (tCB (rLenW K) (tCons (tVar 1) tNil)) (tC (.int 8)))))) (tRet (tC (.bl false))) tNext)
    (tRet (tCB (rAll K) (tCons (tLc (iAny K (tVar 1)) (gName 2) tYes (tOp (rInn K) (tVar 2) (tVar 0)) [2]) tNil))))
def t_check_words (K : PySem.W.Frag) (s_check_letters : Sp) (s_is_word : Sp) : TS :=
  (tSeq (tDrop (tCall s_check_letters [] E0 (tCons (tVar 0) tNil)))
    (tSeq (tFor (iEnumG K (tCons (tVar 1) tNil)) (gTup K 2 (gCons (gName 2) (gCons (gName 3) gNil))) (tIfS (tOr (tTest (tOp (rEqq K) (tVar 2) (tC (.int 3)))) (tOr (tNot (tTruth K (tCall s_is_word [] E0 (tCons (tVar 0) (tCons (tVar 3) tNil))))) (tOr (tTest (tOp (rNeq K) (tCB (rLenW K) (tCons (tVar 3) tNil)) (tCB (rLenW K) (tCons (tOp (rItem K) (tVar 1) (tC (.int 0))) tNil)))) (tTest (tOp (rInn K) (tVar 3) (tSl (rCut K) (tVar 1) tNoPart (tPart (tVar 2)))))))) tNever tNext))
    (tIfS (tTest (tOp (rEqq K) (tCB (rLenW K) (tCons (tVar 1) tNil)) (tC (.int 0)))) tNever tNext)))
def t_check_text (K : PySem.W.Frag) : TS :=
  (tSeq (tIfS (tNot (tTruth K (tCB (rIsi1 K) (tCons (tVar 1) (tCons (tC (.ty "str")) tNil))))) tNever tNext)
    (tFor (iEnumG K (tCons (tVar 1) tNil)) (gTup K 2 (gCons (gName 2) (gCons (gName 3) gNil))) (tIfS (tTest (tOp (rNin K) (tVar 3) (tVar 0))) tNever tNext)))
def t_all_places (K : PySem.W.Frag) : TS :=
  (tSeq (tPar 2 3 (tCons (tCB (rLenW K) (tCons (tOp (rItem K) (tVar 0) (tC (.int 0))) tNil)) (tCons (tLst tNil) tNil)))
    (tSeq (tFor (iRng1 (tCons (tOp (rPlus K) (tOp (rMinus) (tCB (rLenW K) (tCons (tVar 1) tNil)) (tVar 2)) (tC (.int 1))) tNil)) (gName 4) (tFor (iEnumG K (tCons (tVar 0) tNil)) (gTup K 2 (gCons (gName 5) (gCons (gName 6) gNil))) (tIfS (tTest (tOp (rEqq K) (tSl (rCut K) (tVar 1) (tPart (tVar 4)) (tPart (tOp (rPlus K) (tVar 4) (tVar 2)))) (tVar 6))) (tDrop (tBM K "list" rAppend (tVar 3) (tCons (tTup (tCons (tVar 4) (tCons (tVar 5) tNil))) tNil))) tNext)))
    (tRet (tVar 3))))
def t_wanted (K : PySem.W.Frag) (s_check_words : Sp) (s_check_text : Sp) (s_all_places : Sp) : TS :=
  (tSeq (tDrop (tCall s_check_words [] E0 (tCons (tVar 0) (tCons (tVar 1) tNil))))
    (tSeq (tDrop (tCall s_check_text [] E0 (tCons (tVar 0) (tCons (tVar 2) tNil))))
    (tSeq (tIfS (tOr (tNot (tTruth K (tCB (rIsi1 K) (tCons (tVar 3) (tCons (tC (.ty "str")) tNil))))) (tTest (tOp (rNin K) (tVar 3) (tGT K [(tx [97, 108, 108]), (tx [97, 112, 97, 114, 116]), (tx [102, 105, 114, 115, 116])])))) tNever tNext)
    (tSeq (tAsg (tCall s_all_places [] E0 (tCons (tVar 1) (tCons (tVar 2) tNil))) (gName 4))
    (tSeq (tIfS (tTest (tOp (rEqq K) (tVar 3) (tC (tx [102, 105, 114, 115, 116])))) (tRet (tSl (rCut K) (tVar 4) tNoPart (tPart (tC (.int 1))))) tNext)
    (tSeq (tIfS (tTest (tOp (rEqq K) (tVar 3) (tC (tx [97, 108, 108])))) (tRet (tVar 4)) tNext)
    (tSeq (tPar 5 6 (tCons (tLst tNil) (tCons (tC (.int 0)) tNil)))
    (tSeq (tFor (iAny K (tVar 4)) (gTup K 2 (gCons (gName 7) (gCons (gName 8) gNil))) (tIfS (tTest (tOp (rMeq) (tVar 7) (tVar 6))) (tSeq (tDrop (tBM K "list" rAppend (tVar 5) (tCons (tTup (tCons (tVar 7) (tCons (tVar 8) tNil))) tNil)))
    (tAsg (tOp (rPlus K) (tVar 7) (tCB (rLenW K) (tCons (tOp (rItem K) (tVar 1) (tC (.int 0))) tNil))) (gName 6))) tNext))
    (tRet (tVar 5))))))))))
abbrev n_check_letters : List Str := ["letters", "letter"]
abbrev n_is_word : List Str := ["letters", "value", "letter"]
abbrev n_check_words : List Str := ["letters", "words", "place", "word"]
abbrev n_check_text : List Str := ["letters", "text", "place", "letter"]
abbrev n_all_places : List Str := ["words", "text", "width", "found", "place", "number", "word"]
abbrev n_wanted : List Str := ["letters", "words", "text", "wish", "found", "kept", "end", "place", "number"]
theorem same_no {v : V} {A B : Prop} (h : B) : if (!decide (v = v)) = true then A else B := by
  rw [decide_eq_true rfl, if_neg (by decide)]
  exact h
/-! ## what stays equal while things are laid anew -/
mutual
theorem dp_same {K : PySem.W.Frag} {H H' : Hp} (s : Same H H') : ∀ {v : V} {d : PyData}, Dp K H v d → Dp K H' v d
  | _, _, .non => .non
  | _, _, .bl b => .bl b
  | _, _, .int i => .int i
  | _, _, .str x => .str x
  | _, _, .lst h k => .lst (s.seq h) (dpa_same s k)
  | _, _, .tup h k => .tup (sqT_same s h) (dpa_same s k)
theorem dpa_same {K : PySem.W.Frag} {H H' : Hp} (s : Same H H') : ∀ {vs : List V} {ds : List PyData}, DpAll K H vs ds → DpAll K H' vs ds
  | _, _, .nil => .nil
  | _, _, .cons h k => .cons (dp_same s h) (dpa_same s k)
end
theorem dpa_len {K : PySem.W.Frag} {H : Hp} : ∀ {vs : List V} {ds : List PyData}, DpAll K H vs ds → vs.length = ds.length
  | _, _, .nil => rfl
  | _, _, .cons _ k => congrArg Nat.succ (dpa_len k)
theorem dpa_get {K : PySem.W.Frag} {H : Hp} : ∀ {vs : List V} {ds : List PyData} {i : Nat} {v : V}, DpAll K H vs ds → vs[i]? = some v → ∃ d, ds[i]? = some d ∧ Dp K H v d
  | _, _, 0, _, .cons h _, e => by simp at e; subst e; exact ⟨_, rfl, h⟩
  | _, _, i + 1, v, .cons _ k, e => by
    obtain ⟨d, h1, h2⟩ := dpa_get (i := i) (v := v) k (by simpa using e)
    exact ⟨d, by simpa using h1, h2⟩
theorem dpa_app {K : PySem.W.Frag} {H : Hp} : ∀ {vs ws : List V} {ds es : List PyData}, DpAll K H vs ds → DpAll K H ws es → DpAll K H (vs ++ ws) (ds ++ es)
  | _, _, _, _, .nil, k => k
  | _, _, _, _, .cons h r, k => .cons h (dpa_app r k)
theorem dpa_take {K : PySem.W.Frag} {H : Hp} : ∀ (n : Nat) {vs : List V} {ds : List PyData}, DpAll K H vs ds → DpAll K H (vs.take n) (ds.take n)
  | 0, _, _, _ => by rw [List.take_zero, List.take_zero]; exact .nil
  | n + 1, _, _, .nil => .nil
  | n + 1, _, _, .cons h r => .cons h (dpa_take n r)
/-- pairs of places -/
def pd (q : Nat × Nat) : PyData := .tuple [.int (q.1 : Nat), .int (q.2 : Nat)]
theorem pd_inv {K : PySem.W.Frag} {H : Hp} {v : V} {q : Nat × Nat} (h : Dp K H v (pd q)) : ∃ t, v = .ref t ∧ SqT K H t [.int (q.1 : Nat), .int (q.2 : Nat)] := by
  unfold pd at h
  cases h with
  | tup h k =>
    cases k with
    | cons h1 k =>
      cases k with
      | cons h2 k =>
        cases k
        cases h1
        cases h2
        exact ⟨_, rfl, h⟩
theorem pd_new {K : PySem.W.Frag} {H : Hp} {t : Addr} {a b : Nat} (h : H t = some (.tup [.int (a : Nat), .int (b : Nat)])) : Dp K H (.ref t) (pd (a, b)) := .tup (SqT.of h) (.cons (.int _) (.cons (.int _) .nil))
theorem pd_depth (q : Nat × Nat) : (pd q).depth ≤ 1 := by
  unfold pd
  simp [PyData.depth, PyData.depthAll]
theorem prs_depth : ∀ ps : List (Nat × Nat), PyData.depthAll (ps.map pd) ≤ 1
  | [] => by simp [PyData.depthAll]
  | p :: r => by
    have h1 := pd_depth p
    have h2 := prs_depth r
    rw [List.map_cons, PyData.depthAll]
    exact Nat.max_le.mpr ⟨h1, h2⟩
theorem prs_noB : ∀ ps : List (Nat × Nat), noB.all (ps.map pd) = true
  | [] => rfl
  | p :: r => by
    show (noB (pd p) && noB.all (r.map pd)) = true
    rw [prs_noB r]; rfl
/-- a list of pairs stands at a -/
def Prs (K : PySem.W.Frag) (H : Hp) (a : Addr) (ps : List (Nat × Nat)) : Prop := ∃ xs, H a = some (.lst xs) ∧ DpAll K H xs (ps.map pd)
theorem Prs.same {K : PySem.W.Frag} {H H' : Hp} {a : Addr} {ps : List (Nat × Nat)} (s : Same H H') (h : Prs K H a ps) : Prs K H' a ps := by
  obtain ⟨xs, h1, h2⟩ := h
  exact ⟨xs, s _ _ h1, dpa_same s h2⟩
theorem Prs.dp {K : PySem.W.Frag} {H : Hp} {a : Addr} {ps : List (Nat × Nat)} (h : Prs K H a ps) : Dp K H (.ref a) (.list (ps.map pd)) := by
  obtain ⟨xs, h1, h2⟩ := h
  exact .lst (SqL.of h1) h2
theorem Prs.len {K : PySem.W.Frag} {H : Hp} {a : Addr} {ps : List (Nat × Nat)} (h : Prs K H a ps) : ∃ xs, H a = some (.lst xs) ∧ DpAll K H xs (ps.map pd) ∧ xs.length = ps.length := by
  obtain ⟨xs, h1, h2⟩ := h
  exact ⟨xs, h1, h2, by rw [dpa_len h2, List.length_map]⟩
theorem kp_upd {b : Addr} {H : Hp} (o : HO) : Kp b H (upd H b o) := fun c u n e => by
  rw [upd_ne n]
  exact e
theorem dpa_upd {K : PySem.W.Frag} {H : Hp} {b : Addr} {ys zs : List V} (hb : H b = some (.lst ys)) : ∀ {ps : List (Nat × Nat)} {xs : List V}, DpAll K H xs (ps.map pd) → DpAll K (upd H b (.lst zs)) xs (ps.map pd)
  | [], _, h => by
    cases h
    exact .nil
  | p :: r, _, h => by
    cases h with
    | cons h1 h2 =>
      obtain ⟨t, rfl, ht⟩ := pd_inv h1
      refine .cons (.tup (sqT_kp (kp_upd _) (fun o e => ?_) ht) (.cons (.int _) (.cons (.int _) .nil))) (dpa_upd hb h2)
      rw [hb] at e
      cases e
      exact ⟨fun _ => (fun z => by cases z), fun _ _ => (fun z => by cases z)⟩
theorem Prs.push {K : PySem.W.Frag} {H : Hp} {b : Addr} {xs : List V} {ps : List (Nat × Nat)} {v : V} {p : Nat × Nat} (h : Prs K H b ps) (hb : H b = some (.lst xs)) (hv : Dp K H v (pd p)) : Prs K (upd H b (.lst (xs ++ [v]))) b (ps ++ [p]) := by
  obtain ⟨xs2, hb2, hd⟩ := h
  rw [hb] at hb2
  cases hb2
  refine ⟨_, upd_same, ?_⟩
  refine dpa_upd hb ?_
  rw [List.map_append]
  exact dpa_app hd (.cons hv .nil)
/-- both are the same pairs -/
theorem prs_ne {K : PySem.W.Frag} {H : Hp} {a b : Addr} {ps : List (Nat × Nat)} {Q : VK} (h1 : Dp K H (.ref a) (.list (ps.map pd))) (h2 : Dp K H (.ref b) (.list (ps.map pd))) (q : Q (.bl false) H) : rNeq K (.ref a) (.ref b) H Q := by
  refine ⟨_, _, h1, h2, ?_, ?_⟩
  · rw [PyData.depth, Nat.min_self]
    have := prs_depth ps
    omega
  · have e : PyData.eqv (.list (ps.map pd)) (.list (ps.map pd)) = true := eqv_self _ (prs_noB ps)
    rw [e]
    exact q
/-! ## all(x in s for x in t) -/
theorem all_in {K : PySem.W.Frag} {σ : L2.St} {iv s : Nat} {l M : List Nat} {te : TE} {H : Hp} {Q : VK} (e1 : σ[iv]? = some (some (tx l))) (e2 : ∀ x, ((wipe σ [s]).set s (some x))[s]? = some (some x)) (e3 : ∀ x, wipe ((wipe σ [s]).set s (some x)) [s] = wipe σ [s])
    (ht : ∀ x H Q, Q (tx M) H → te ((wipe σ [s]).set s (some x)) H Q) (hl : l.length ≤ 9000) (q : ∀ H', Same H H' → Q (.bl (l.all fun c => decide (c ∈ M))) H') :
    tCB (rAll K) (tCons (tLc (iAny K (tVar iv)) (gName s) tYes (tOp (rInn K) (tVar s) te) [s]) tNil) σ H Q := by
  refine ⟨_, e1, fun D hD => ?_⟩
  refine lcW walk_str (I := fun i acc H' => i ≤ l.length ∧ acc = ((l.take i).map fun c => V.bl (decide (c ∈ M))) ∧ ∀ b u, H b = some u → H' b = some u) (fun i acc H' u h => ⟨h.1, h.2.1, fun b u' e => by rw [upd_ne (ne_of_none e hD)]; exact h.2.2 b u' e⟩) (fun _ _ _ _ _ => trivial) ⟨Nat.zero_le _, rfl, fun _ _ e => e⟩
    (fun i acc H' h => ?len) (fun i x acc H' H2 hi hI hacc y K1 K2 k1 k2 => ?step) (fun acc H' hacc hI => ?fin)
  case len =>
    rw [h.2.1, List.length_map, List.length_take]
    omega
  case step =>
    obtain ⟨rfl, c, hc, rfl⟩ := y
    obtain ⟨hi0, rfl, hI⟩ := hI
    have hc2 : l[i]? = some c := by
      have : l.toArray[i]? = some c := hc
      simpa using this
    have hi2 : i < l.length := (List.getElem?_eq_some_iff.mp hc2).1
    refine ⟨e3 _, _, e2 _, ht _ _ _ ?_⟩
    refine .inl ⟨c, rfl, ?_⟩
    refine k1 _ _ hacc ⟨hi2, ?_, hI⟩
    rw [List.take_add_one, hc2, List.map_append]
    rfl
  case fin =>
    obtain ⟨_, rfl, hI⟩ := hI
    refine ⟨D, l.map fun c => decide (c ∈ M), rfl, SqL.of ?_, ?_⟩
    · rw [hacc, show (sx l).cps.size = l.length from rfl, List.take_of_length_le (Nat.le_refl _), List.map_map]
      rfl
    · rw [List.all_map]
      exact q _ hI
theorem all_in_true {L l : List Nat} (h : AllIn L l) : (l.all fun c => decide (c ∈ L)) = true := List.all_eq_true.mpr fun c hc => decide_eq_true (h c hc)
/-! ## check_letters, is_word -/
def spCl : Sp := fun vs H Q _ => ∃ L, vs = [tx L] ∧ LetOk L ∧ ∀ H', Same H H' → Q .non H'
theorem rd_check_letters (K : PySem.W.Frag) (vs : List V) (H : Hp) (Q : VK) (E : XK) (h : spCl vs H Q E) : t_check_letters K { nx := fun _ H' => Q .non H', rt := Q } (start n_check_letters vs) H := by
  obtain ⟨L, rfl, ⟨l1, l2, nd, ab⟩, q⟩ := h
  have hd : distN L = L.length := (distN_all L).mpr nd
  have e1 : decide ((2 : Int) ≤ ((tl (sx L)).length : Nat)) = true := decide_eq_true (by rw [tl_sx]; omega)
  have e2 : decide (((tl (sx L)).length : Nat) ≤ (4 : Int)) = true := decide_eq_true (by rw [tl_sx]; omega)
  have e3 : decide (((distN (tl (sx L))) : Int) < ((tl (sx L)).length : Nat)) = false := decide_eq_false (by rw [tl_sx, hd]; omega)
  refine ⟨tx L, rfl, _, _, .base (.str _), kb_str, tx L, rfl, by show L.length ≤ 100000; omega, _, rfl, ?_⟩
  rw [e1]
  refine ⟨_, rfl, ?_⟩
  rw [e2]
  refine ⟨tx L, rfl, by show L.length ≤ 4000; omega, tx L, rfl, by show L.length ≤ 100000; omega, _, rfl, ?_⟩
  rw [e3]
  refine all_in (M := abc) rfl (fun _ => rfl) (fun _ => rfl) (fun _ _ _ h => h) (by omega) fun H' S => ?_
  rw [all_in_true fun c hc => ?_]
  · exact q _ S
  · have h := ab c hc
    have key : ∀ c, 97 ≤ c → c ≤ 122 → c ∈ abc := fun c h1 h2 => by
      unfold abc
      simp only [List.mem_cons, List.not_mem_nil, or_false]
      omega
    exact key c h.1 h.2
def spIw : Sp := fun vs H Q _ => ∃ L l, vs = [tx L, tx l] ∧ L.length ≤ 9000 ∧ 1 ≤ l.length ∧ l.length ≤ 8 ∧ AllIn L l ∧ ∀ H', Same H H' → Q (.bl true) H'
theorem rd_is_word (K : PySem.W.Frag) (vs : List V) (H : Hp) (Q : VK) (E : XK) (h : spIw vs H Q E) : t_is_word K { nx := fun _ H' => Q .non H', rt := Q } (start n_is_word vs) H := by
  obtain ⟨L, l, rfl, l0, l1, l2, ha, q⟩ := h
  have e1 : decide ((1 : Int) ≤ ((tl (sx l)).length : Nat)) = true := decide_eq_true (by rw [tl_sx]; omega)
  have e2 : decide (((tl (sx l)).length : Nat) ≤ (8 : Int)) = true := decide_eq_true (by rw [tl_sx]; omega)
  refine ⟨tx l, rfl, _, _, .base (.str _), kb_str, tx l, rfl, by show l.length ≤ 100000; omega, _, rfl, ?_⟩
  rw [e1]
  refine ⟨_, rfl, ?_⟩
  rw [e2]
  refine all_in (M := L) rfl (fun _ => rfl) (fun _ => rfl) (fun _ _ _ h => ⟨_, rfl, h⟩) (by omega) fun H' S => ?_
  rw [all_in_true ha]
  exact q _ S
theorem inV_txt (l : List Nat) : ∀ ws : List (List Nat), inV (tx l) (ws.map tx) = true ↔ l ∈ ws
  | [] => by simp [inV]
  | m :: r => by
    have ih := inV_txt l r
    unfold inV at ih ⊢
    rw [List.map_cons, List.any_cons, Bool.or_eq_true, ih, List.mem_cons]
    refine or_congr_left ?_
    show (sx m == sx l) = true ↔ l = m
    rw [beq_iff_eq, str_inj]
    exact ⟨fun e => e.symm, fun e => e.symm⟩
theorem nodup_at {α : Type} {l : List α} (h : l.Nodup) {i j : Nat} (hi : i < l.length) (hj : j < l.length) (e : l[i] = l[j]) : i = j := by
  have h2 := List.pairwise_iff_getElem.mp h
  rcases Nat.lt_trichotomy i j with q | q | q
  · exact absurd e (h2 i j hi hj q)
  · exact q
  · exact absurd e.symm (h2 j i hj hi q)
/-! ## check_words, check_text -/
def WsOk (L : List Nat) (ws : List (List Nat)) (w : Nat) : Prop := 1 ≤ ws.length ∧ ws.length ≤ 3 ∧ 1 ≤ w ∧ w ≤ 8 ∧ (∀ l ∈ ws, l.length = w ∧ AllIn L l) ∧ ws.Nodup
def Seq2 (K : PySem.W.Frag) (H : Hp) (a : Addr) (xs : List V) : Prop := SqL K H a xs ∨ SqT K H a xs
theorem Seq2.same {K : PySem.W.Frag} {H H' : Hp} {a : Addr} {xs : List V} (s : Same H H') (h : Seq2 K H a xs) : Seq2 K H' a xs := h.imp (fun h => s.seq h) fun h => sqT_same s h
theorem src2 {K : PySem.W.Frag} {H : Hp} {a : Addr} {xs : List V} (h : Seq2 K H a xs) : ∃ G : Hp → Prop, ∀ H', Same H H' → SrcV K H' (.ref a) xs.length (fun i => xs[i]?) G ∧ G H' := by
  rcases h with h | h
  · exact ⟨_, fun H' s => ⟨.list (s.seq h), s.seq h⟩⟩
  · exact ⟨_, fun H' s => ⟨.tup (sqT_same s h), sqT_same s h⟩⟩
def spCw (K : PySem.W.Frag) : Sp := fun vs H Q _ => ∃ (L : List Nat) (a : Addr) (ws : List (List Nat)) (w : Nat), vs = [tx L, .ref a] ∧ LetOk L ∧ Seq2 K H a (ws.map tx) ∧ WsOk L ws w ∧ ∀ H', Same H H' → Q .non H'
theorem rd_check_words (K : PySem.W.Frag) (vs : List V) (H : Hp) (Q : VK) (E : XK) (h : spCw K vs H Q E) : t_check_words K spCl spIw { nx := fun _ H' => Q .non H', rt := Q } (start n_check_words vs) H := by
  obtain ⟨L, a, ws, w, rfl, hL, hS, hW, q⟩ := h
  refine ⟨tx L, rfl, L, rfl, hL, fun H1 S1 => ?_⟩
  have hS1 := hS.same S1
  obtain ⟨G, hG⟩ := src2 hS1
  obtain ⟨n1, n2, w1, w2, hall, nd⟩ := hW
  refine ⟨.ref a, rfl, _, _, _, _, rfl, (hG _ (Same.refl H1)).1, ?_⟩
  refine for_it walk_E (fun i σ H' => Same H1 H' ∧ ∃ v2 v3, σ = [some (tx L), some (.ref a), v2, v3]) ⟨Same.refl H1, _, _, rfl⟩ (fun i σ H' _ h => (hG _ h.1).2) ?_ ?_
  · rintro i x σ H' H2 hi ⟨S, v2, v3, rfl⟩ ⟨T, y, rfl, hT, rfl, hy⟩
    have hi : i < ws.length := by simpa using hi
    obtain rfl : tx ws[i] = y := by
      have hy : (ws.map tx)[i]? = some y := hy
      rw [List.getElem?_map, List.getElem?_eq_getElem hi] at hy
      exact Option.some.inj hy
    obtain ⟨hwl, hwa⟩ := hall ws[i] (List.getElem_mem hi)
    have S2 := Same.new' (o := .tup [.int (i : Nat), tx ws[i]]) S hT
    refine ⟨T, _, rfl, SqT.of upd_same, rfl, _, _, rfl, _, _, rfl, rfl, ?_⟩
    refine ⟨.int (i : Nat), rfl, rfl, _, rfl, ?_⟩
    have e3 : decide (V.int (i : Nat) = V.int 3) = false := decide_eq_false fun e => by
      have := V.int.inj e
      omega
    rw [e3]
    refine ⟨tx L, rfl, tx ws[i], rfl, L, ws[i], rfl, by have := hL.2.1; omega, by omega, by omega, hwa, fun H3 S3 => ?_⟩
    replace S3 := S2.trans S3
    have h0 : 0 < ws.length := by omega
    have at0 : atI (ws.map tx) 0 = some (tx ws[0]) := atI_nat (xs := ws.map tx) (j := 0) (by rw [List.getElem?_map, List.getElem?_eq_getElem h0]; rfl)
    have hw0 := (hall ws[0] (List.getElem_mem h0)).1
    refine ⟨tx ws[i], rfl, by rw [tl_sx]; omega, .ref a, rfl, ws.map tx, tx ws[0], hS1.same S3, at0, by rw [tl_sx]; omega, rfl, _, rfl, ?_⟩
    have e4 : (!decide (V.int ((tl (sx ws[i])).length : Nat) = V.int ((tl (sx ws[0])).length : Nat))) = false := by
      rw [tl_sx, tl_sx, hwl, hw0]
      simp
    rw [e4]
    refine ⟨tx ws[i], rfl, .ref a, rfl, .int (i : Nat), rfl, i, rfl, ?_⟩
    have fl : ∀ l : List (List Nat), (l.map tx).all flatV = true := fun l => by
      rw [List.all_map]
      exact List.all_eq_true.mpr fun _ _ => rfl
    have hno : inV (tx ws[i]) ((ws.take i).map tx) = false := by
      rw [Bool.eq_false_iff]
      intro hin
      have := (inV_txt _ _).mp hin
      obtain ⟨j, hj, e⟩ := List.mem_iff_getElem.mp this
      rw [List.getElem_take] at e
      rw [List.length_take] at hj
      exact absurd (nodup_at nd (by omega) hi e) (by omega)
    rcases hS1.same S3 with hS3 | hS3
    · refine .inl ⟨a, _, rfl, hS3, fun b hb => ?_⟩
      rw [cutV_take]
      refine ⟨b, _, rfl, .inl (SqL.of upd_same), rfl, by rw [← List.map_take]; exact fl _, _, rfl, ?_⟩
      rw [← List.map_take, hno]
      exact ⟨Same.new' S3 hb, _, _, rfl⟩
    · refine .inr ⟨a, _, rfl, hS3, ?_, fun b hb => ?_⟩
      · rw [HT.sIx_none, HT.sIx_nat, List.length_map]
        omega
      rw [cutV_take]
      refine ⟨b, _, rfl, .inr (SqT.of upd_same), rfl, by rw [← List.map_take]; exact fl _, _, rfl, ?_⟩
      rw [← List.map_take, hno]
      exact ⟨Same.new' S3 hb, _, _, rfl⟩
  · rintro σ H' ⟨S, v2, v3, rfl⟩
    have h3 : ∃ ys, (SqL K H' a ys ∨ SqT K H' a ys) ∧ ys.length = ws.length := ⟨_, hS1.same S, by simp⟩
    obtain ⟨ys, h3, h4⟩ := h3
    have e : decide (V.int (ys.length : Nat) = V.int 0) = false := decide_eq_false fun e => by
      have := V.int.inj e
      omega
    refine ⟨.ref a, rfl, ys, h3, rfl, _, rfl, ?_⟩
    rw [e]
    exact q _ (S1.trans S)
def spCt : Sp := fun vs H Q _ => ∃ L l, vs = [tx L, tx l] ∧ L.length ≤ 9000 ∧ l.length ≤ 9000 ∧ AllIn L l ∧ ∀ H', Same H H' → Q .non H'
theorem rd_check_text (K : PySem.W.Frag) (vs : List V) (H : Hp) (Q : VK) (E : XK) (h : spCt vs H Q E) : t_check_text K { nx := fun _ H' => Q .non H', rt := Q } (start n_check_text vs) H := by
  obtain ⟨L, l, rfl, l0, l1, ha, q⟩ := h
  refine ⟨tx l, rfl, _, _, .base (.str _), kb_str, ?_⟩
  refine ⟨tx l, rfl, _, _, _, _, rfl, .text _, ?_⟩
  refine for_it walk_E (fun i σ H' => Same H H' ∧ ∃ v2 v3, σ = [some (tx L), some (tx l), v2, v3]) ⟨Same.refl H, _, _, rfl⟩ (fun i σ H' _ h => trivial) ?_ ?_
  · rintro i x σ H' H2 hi ⟨S, v2, v3, rfl⟩ ⟨T, y, rfl, hT, rfl, hy⟩
    have hi : i < l.length := hi
    dsimp only at hy
    rw [tl_sx, List.getElem?_eq_getElem hi] at hy
    obtain rfl : tx [l[i]] = y := Option.some.inj hy
    refine ⟨T, _, rfl, SqT.of upd_same, rfl, _, _, rfl, _, _, rfl, rfl, ?_⟩
    refine ⟨tx [l[i]], rfl, tx L, rfl, .inl ⟨l[i], rfl, _, rfl, ?_⟩⟩
    rw [tl_sx, decide_eq_true (ha _ (List.getElem_mem hi))]
    exact ⟨Same.new' S hT, _, _, rfl⟩
  · rintro σ H' ⟨S, v2, v3, rfl⟩
    exact q _ S
/-! ## the places of words -/
/-- the numbers of the words that stand at a place -/
def hitsK (ws : List (List Nat)) (t : List Nat) (p k : Nat) : List Nat := (List.range k).filter fun k => decide ((t.drop p).take (ws.getD k []).length = ws.getD k [])
def hits (ws : List (List Nat)) (t : List Nat) (p : Nat) : List Nat := hitsK ws t p ws.length
theorem hitsK_succ (ws : List (List Nat)) (t : List Nat) (p k : Nat) : hitsK ws t p (k + 1) = hitsK ws t p k ++ if (t.drop p).take (ws.getD k []).length = ws.getD k [] then [k] else [] := by
  unfold hitsK
  rw [List.range_succ, List.filter_append, List.filter_cons]
  by_cases h : (t.drop p).take (ws.getD k []).length = ws.getD k []
  · rw [if_pos h, if_pos (decide_eq_true h)]; rfl
  · rw [if_neg h, if_neg (by rw [decide_eq_false h]; decide)]; rfl
theorem hitsK_len (ws : List (List Nat)) (t : List Nat) (p k : Nat) : (hitsK ws t p k).length ≤ k := by
  unfold hitsK
  exact Nat.le_trans (List.length_filter_le _ _) (by simp)
def allP (ws : List (List Nat)) (t : List Nat) (n : Nat) : List (Nat × Nat) := (List.range n).flatMap fun p => (hits ws t p).map fun k => (p, k)
theorem allP_succ (ws : List (List Nat)) (t : List Nat) (n : Nat) : allP ws t (n + 1) = allP ws t n ++ (hits ws t n).map fun k => (n, k) := by
  unfold allP
  rw [List.range_succ, List.flatMap_append]
  simp
theorem hits_len (ws : List (List Nat)) (t : List Nat) (p : Nat) : (hits ws t p).length ≤ ws.length := by
  exact hitsK_len _ _ _ _
theorem allP_len (ws : List (List Nat)) (t : List Nat) : ∀ n, (allP ws t n).length ≤ n * ws.length
  | 0 => by simp [allP]
  | n + 1 => by
    rw [allP_succ, List.length_append, List.length_map, Nat.succ_mul]
    have := allP_len ws t n
    have := hits_len ws t n
    omega
theorem hits_none {ws : List (List Nat)} {t : List Nat} {p w : Nat} (h1 : 1 ≤ w) (hw : ∀ l ∈ ws, l.length = w) (h : t.length < p + w) : hits ws t p = [] := by
  unfold hits hitsK
  rw [List.filter_eq_nil_iff]
  intro k hk e
  have hk := List.mem_range.mp hk
  have e := of_decide_eq_true e
  have hl : (ws.getD k []).length = w := hw _ (by rw [List.getD_eq_getElem?_getD, List.getElem?_eq_getElem hk]; exact List.getElem_mem hk)
  have := congrArg List.length e
  rw [List.length_take, List.length_drop, hl] at this
  omega
theorem allP_cut {ws : List (List Nat)} {t : List Nat} {w : Nat} (hw : ∀ l ∈ ws, l.length = w) (h1 : 1 ≤ w) : ∀ n, t.length + 1 - w ≤ n → allP ws t n = allP ws t (t.length + 1 - w)
  | 0, h => by rw [Nat.le_zero.mp h]
  | n + 1, h => by
    by_cases e : t.length + 1 - w = n + 1
    · rw [e]
    · rw [allP_succ, hits_none h1 hw (by omega), allP_cut hw h1 n (by omega)]
      simp
def spAp (K : PySem.W.Frag) : Sp := fun vs H Q _ => ∃ (L : List Nat) (a : Addr) (ws : List (List Nat)) (w : Nat) (t : List Nat), vs = [.ref a, tx t] ∧ Seq2 K H a (ws.map tx) ∧ WsOk L ws w ∧ t.length ≤ 1000 ∧
  ∀ b H', H b = none → Same H H' → Prs K H' b (allP ws t t.length) → Q (.ref b) H'
theorem rd_all_places (K : PySem.W.Frag) (vs : List V) (H : Hp) (Q : VK) (E : XK) (h : spAp K vs H Q E) : t_all_places K { nx := fun _ H' => Q .non H', rt := Q } (start n_all_places vs) H := by
  obtain ⟨L, a, ws, w, t, rfl, hS, hW, ht, q⟩ := h
  obtain ⟨n1, n2, w1, w2, hall, nd⟩ := hW
  have h0 : 0 < ws.length := by omega
  have at0 : atI (ws.map tx) 0 = some (tx ws[0]) := atI_nat (xs := ws.map tx) (j := 0) (by rw [List.getElem?_map, List.getElem?_eq_getElem h0]; rfl)
  have hw0 := (hall ws[0] (List.getElem_mem h0)).1
  refine ⟨.ref a, rfl, ws.map tx, tx ws[0], hS, at0, by rw [tl_sx]; omega, by show 0 ≤ sizeLine; decide, fun b hb => ?_⟩
  have hlen : ((tl (sx ws[0])).length : Int) = (w : Int) := by rw [tl_sx, hw0]
  refine ⟨_, _, rfl, tx t, rfl, by rw [tl_sx]; omega, _, rfl, _, rfl, by rw [tl_sx]; omega, by rw [tl_sx]; omega, ?_⟩
  rw [hlen, tl_sx]
  generalize hN : ((t.length : Int) - (w : Int) + 1).toNat = N
  have hN2 : N = t.length + 1 - w := by omega
  have S0 : Same H (upd H b (.lst [])) := Same.new hb
  obtain ⟨G, hG⟩ := src2 hS
  have hNt : N ≤ 1001 := by omega
  refine for_range (lo := 0) (fun i σ H' => Same H H' ∧ i ≤ N ∧ Prs K H' b (allP ws t i) ∧ ∃ v4 v5 v6, σ = [some (.ref a), some (tx t), some (.int (w : Int)), some (.ref b), v4, v5, v6]) ⟨S0, Nat.zero_le _, ⟨[], upd_same, .nil⟩, _, _, _, rfl⟩ ?_ ?_
  · rintro i σ H1 hi ⟨S1, hiN, hP, v4, v5, v6, rfl⟩
    rw [Int.zero_add]
    refine ⟨.ref a, rfl, _, _, _, _, rfl, (hG _ S1).1, ?_⟩
    refine for_it walk_E (fun k σ H' => Same H H' ∧ Prs K H' b (allP ws t i ++ (hitsK ws t i k).map fun k => (i, k)) ∧ ∃ v5 v6, σ = [some (.ref a), some (tx t), some (.int (w : Int)), some (.ref b), some (.int (i : Int)), v5, v6]) ⟨S1, by
      rw [show hitsK ws t i 0 = [] from rfl, List.map_nil, List.append_nil]
      exact hP, _, _, rfl⟩ (fun i σ H' _ h => (hG _ h.1).2) ?_ ?_
    · rintro k x σ H2 H3 hk ⟨S2, hP2, v5, v6, rfl⟩ ⟨T, y, rfl, hT, rfl, hy⟩
      have hk : k < ws.length := by simpa using hk
      obtain rfl : tx ws[k] = y := by
        have hy : (ws.map tx)[k]? = some y := hy
        rw [List.getElem?_map, List.getElem?_eq_getElem hk] at hy
        exact Option.some.inj hy
      have hwl := (hall ws[k] (List.getElem_mem hk)).1
      have S3 := Same.new' (o := .tup [.int (k : Nat), tx ws[k]]) S2 hT
      have hP3 := hP2.same (Same.new (o := .tup [.int (k : Nat), tx ws[k]]) hT)
      have eD : ws.getD k [] = ws[k] := by rw [List.getD_eq_getElem?_getD, List.getElem?_eq_getElem hk]; rfl
      have hcut : cutL (tl (sx t)) (some (i : Int)) (some ((i : Int) + (w : Int))) = (t.drop i).take w := by
        rw [tl_sx, show (i : Int) + (w : Int) = ((i + w : Nat) : Int) by omega, cutL_mid, show i + w - i = w by omega]
      have hs := hitsK_succ ws t i k
      rw [eD, hwl] at hs
      refine ⟨T, _, rfl, SqT.of upd_same, rfl, _, _, rfl, _, _, rfl, rfl, ?_⟩
      refine ⟨tx t, rfl, _, rfl, _, rfl, .int (i : Int), rfl, .int (w : Int), rfl, _, rfl, by rw [tl_sx]; omega, tx ws[k], rfl, rfl, _, rfl, ?_⟩
      rw [hcut, dec_tx]
      refine iteD (fun he => ?_) (fun he => ?_)
      · rw [if_pos he] at hs
        obtain ⟨xs, hb3, hd3, hl3⟩ := hP3.len
        refine ⟨.ref b, rfl, .inl ⟨rfl, xs, SqL.of hb3⟩, .int (i : Int), rfl, .int (k : Nat), rfl, by show 2 ≤ sizeLine; decide, fun T2 hT2 => ?_⟩
        have nb : b ≠ T2 := ne_of_none hb3 hT2
        have hb4 : (upd (upd H2 T (.tup [.int (k : Nat), tx ws[k]])) T2 (.tup [.int (i : Int), .int (k : Nat)])) b = some (.lst xs) := by rw [upd_ne nb]; exact hb3
        refine ⟨b, xs, .ref T2, rfl, rfl, hb4, sz_lt ?_, ?_⟩
        · rw [hl3, List.length_append, List.length_map]
          have := allP_len ws t i
          have := hitsK_len ws t i k
          have : i * ws.length ≤ 1001 * 3 := Nat.mul_le_mul (by omega) n2
          omega
        · refine ⟨Same.mut (Same.new' S3 hT2) hb, ?_, _, _, rfl⟩
          have := Prs.push ⟨xs, hb4, dpa_same (Same.new hT2) hd3⟩ hb4 (pd_new (a := i) (b := k) upd_same)
          rw [List.append_assoc] at this
          rw [hs, List.map_append]
          exact this
      · rw [if_neg he, List.append_nil] at hs
        rw [← hs] at hP3
        exact ⟨S3, hP3, _, _, rfl⟩
    · rintro σ H2 ⟨S2, hP2, v5, v6, rfl⟩
      refine ⟨S2, hi, ?_, _, _, _, rfl⟩
      rw [allP_succ]
      rw [List.length_map] at hP2
      exact hP2
  · rintro σ H1 ⟨S1, hiN, hP, v4, v5, v6, rfl⟩
    refine ⟨_, rfl, q b H1 hb S1 ?_⟩
    rw [hN2, ← allP_cut (fun l h => (hall l h).1) w1 t.length (by omega)] at hP
    exact hP
/-! ## wanted -/
def apartF (w : Nat) : Nat → List (Nat × Nat) → List (Nat × Nat)
  | _, [] => []
  | e, p :: r => if e ≤ p.1 then p :: apartF w (p.1 + w) r else apartF w e r
theorem apartF_len (w : Nat) : ∀ (ps : List (Nat × Nat)) (e : Nat), (apartF w e ps).length ≤ ps.length
  | [], _ => Nat.le_refl _
  | p :: r, e => by
    rw [apartF]
    split
    · have := apartF_len w r (p.1 + w)
      simp only [List.length_cons]; omega
    · have := apartF_len w r e
      simp only [List.length_cons]; omega
def kAll : List Nat := [97, 108, 108]
def kApart : List Nat := [97, 112, 97, 114, 116]
def kFirst : List Nat := [102, 105, 114, 115, 116]
def wantF (ws : List (List Nat)) (w : Nat) (t wish : List Nat) : List (Nat × Nat) :=
  if wish = kFirst then (allP ws t t.length).take 1 else if wish = kAll then allP ws t t.length else apartF w 0 (allP ws t t.length)
def spWa (K : PySem.W.Frag) : Sp := fun vs H Q _ => ∃ (L : List Nat) (a : Addr) (ws : List (List Nat)) (w : Nat) (t wish : List Nat), vs = [tx L, .ref a, tx t, tx wish] ∧ LetOk L ∧ Seq2 K H a (ws.map tx) ∧ WsOk L ws w ∧ t.length ≤ 1000 ∧ AllIn L t ∧
  (wish = kAll ∨ wish = kApart ∨ wish = kFirst) ∧ ∀ b H', H b = none → Same H H' → Prs K H' b (wantF ws w t wish) → Q (.ref b) H'
/-- the loop over the pairs: one thing kept (slot b), the end (slot e) -/
theorem rd_wanted (K : PySem.W.Frag) (vs : List V) (H : Hp) (Q : VK) (E : XK) (h : spWa K vs H Q E) : t_wanted K (spCw K) spCt (spAp K) { nx := fun _ H' => Q .non H', rt := Q } (start n_wanted vs) H := by
  obtain ⟨L, a, ws, w, t, wish, rfl, hL, hS, hW, ht, ha, hwish, q⟩ := h
  refine ⟨tx L, rfl, .ref a, rfl, L, a, ws, w, rfl, hL, hS, hW, fun H1 S1 => ?_⟩
  refine ⟨tx L, rfl, tx t, rfl, L, t, rfl, by have := hL.2.1; omega, by omega, ha, fun H2 S2 => ?_⟩
  replace S2 := S1.trans S2
  refine ⟨tx wish, rfl, _, _, .base (.str _), kb_str, tx wish, rfl, fun g hg => ?_⟩
  have hin : inV (tx wish) [tx kAll, tx kApart, tx kFirst] = true := (inV_txt wish [kAll, kApart, kFirst]).mpr (by simpa using hwish)
  refine ⟨g, _, rfl, .inr hg, rfl, rfl, _, rfl, ?_⟩
  show if (!(inV (tx wish) [tx kAll, tx kApart, tx kFirst])) = true then _ else _
  rw [hin]
  refine ⟨.ref a, rfl, tx t, rfl, L, a, ws, w, t, rfl, hS.same S2, hW, ht, fun b H3 hb S3 hP => ?_⟩
  have hb0 := S2.free hb
  replace S3 := S2.trans S3
  have hlen : (allP ws t t.length).length ≤ 3000 := by
    have := allP_len ws t t.length
    have : t.length * ws.length ≤ 1000 * 3 := Nat.mul_le_mul ht hW.2.1
    omega
  refine ⟨tx wish, rfl, rfl, _, rfl, ?_⟩
  have w1 : wantF ws w t wish = if wish = kFirst then (allP ws t t.length).take 1 else if wish = kAll then allP ws t t.length else apartF w 0 (allP ws t t.length) := rfl
  refine iteD (fun h1 => ?_) (fun h1 => ?_)
  · have h1 : wish = kFirst := tx_inj.mp h1
    rw [if_pos h1] at w1
    rw [w1] at q
    obtain ⟨xs, hb3, hd3, hl3⟩ := hP.len
    refine ⟨.ref b, rfl, 1, rfl, .inl ⟨b, xs, rfl, SqL.of hb3, fun c hc => ?_⟩⟩
    refine q c _ (S3.free hc) (Same.new' S3 hc) ⟨_, upd_same, ?_⟩
    rw [show cutV xs none (some 1) = xs.take 1 from cutV_take xs 1, List.map_take]
    exact dpa_take 1 (dpa_same (Same.new hc) hd3)
  · have h1 : wish ≠ kFirst := fun e => h1 (tx_inj.mpr e)
    rw [if_neg h1] at w1
    refine ⟨tx wish, rfl, rfl, _, rfl, ?_⟩
    refine iteD (fun h2 => ?_) (fun h2 => ?_)
    · have h2 : wish = kAll := tx_inj.mp h2
      rw [if_pos h2] at w1
      rw [w1] at q
      exact ⟨_, rfl, q b H3 hb0 S3 hP⟩
    · have h2 : wish ≠ kAll := fun e => h2 (tx_inj.mpr e)
      rw [if_neg h2] at w1
      rw [w1] at q
      obtain ⟨n1, n2, m1, m2, hall, nd⟩ := hW
      have h0 : 0 < ws.length := by omega
      have at0 : atI (ws.map tx) 0 = some (tx ws[0]) := atI_nat (xs := ws.map tx) (j := 0) (by rw [List.getElem?_map, List.getElem?_eq_getElem h0]; rfl)
      have hw0 := (hall ws[0] (List.getElem_mem h0)).1
      have hlen0 : ((tl (sx ws[0])).length : Int) = (w : Int) := by rw [tl_sx, hw0]
      obtain ⟨xs, hb3, hd3, hl3⟩ := hP.len
      generalize hps : allP ws t t.length = ps at hd3 hl3 hlen q hP
      refine ⟨by show 0 ≤ sizeLine; decide, fun c hc => ⟨_, _, rfl, .ref b, rfl, .inl ⟨xs, SqL.of (Same.new hc _ _ hb3), ?_⟩⟩⟩
      refine for_list (K := K) (a := b) (xs := xs) (fun i σ H' => Same H3 H' ∧ ∃ (kept : List (Nat × Nat)) (e : Nat) (v7 v8 : Option V), Prs K H' c kept ∧ kept.length ≤ i ∧ kept ++ apartF w e (ps.drop i) = apartF w 0 ps ∧
        σ = [some (tx L), some (.ref a), some (tx t), some (tx wish), some (.ref b), some (.ref c), some (.int (e : Int)), v7, v8]) ⟨Same.new hc, [], 0, _, _, ⟨[], upd_same, .nil⟩, Nat.zero_le _, rfl, rfl⟩ (fun i σ H' _ h => SqL.of (h.1 _ _ hb3)) ?_ ?_
      · rintro i x σ H5 hx ⟨S5, kept, e, v7, v8, hk, hkl, hap, rfl⟩
        have hi : i < ps.length := by rw [← hl3]; exact (List.getElem?_eq_some_iff.mp hx).1
        obtain ⟨d, hd, hdp⟩ := dpa_get hd3 hx
        rw [List.getElem?_map, List.getElem?_eq_getElem hi] at hd
        obtain rfl : pd ps[i] = d := Option.some.inj hd
        obtain ⟨T, rfl, hT⟩ := pd_inv (dp_same S5 hdp)
        refine ⟨T, _, rfl, hT, rfl, _, _, rfl, _, _, rfl, rfl, ?_⟩
        refine ⟨.int (ps[i].1 : Nat), rfl, .int (e : Int), rfl, _, rfl, ?_⟩
        have hdr : ps.drop i = ps[i] :: ps.drop (i + 1) := List.drop_eq_getElem_cons hi
        rw [hdr, apartF] at hap
        refine iteD (fun he => ?_) (fun he => ?_)
        · have he : e ≤ ps[i].1 := by omega
          rw [if_pos he] at hap
          obtain ⟨ys, hc5, hd5, hl5⟩ := hk.len
          refine ⟨.ref c, rfl, .inl ⟨rfl, ys, SqL.of hc5⟩, .int (ps[i].1 : Nat), rfl, .int (ps[i].2 : Nat), rfl, by show 2 ≤ sizeLine; decide, fun T2 hT2 => ?_⟩
          have nb : c ≠ T2 := ne_of_none hc5 hT2
          have hc6 : (upd H5 T2 (.tup [.int (ps[i].1 : Nat), .int (ps[i].2 : Nat)])) c = some (.lst ys) := by rw [upd_ne nb]; exact hc5
          have hk6 := Prs.push (hk.same (Same.new hT2)) hc6 (pd_new (a := ps[i].1) (b := ps[i].2) upd_same)
          have S6 := Same.mut (o := .lst (ys ++ [.ref T2])) (Same.new' (o := .tup [.int (ps[i].1 : Nat), .int (ps[i].2 : Nat)]) S5 hT2) hc
          refine ⟨c, ys, .ref T2, rfl, rfl, hc6, sz_lt (by omega), ?_⟩
          refine ⟨.int (ps[i].1 : Nat), rfl, .ref a, rfl, ws.map tx, tx ws[0], hS.same (S3.trans S6), at0, by rw [tl_sx]; omega, ?_⟩
          refine ⟨S6, kept ++ [ps[i]], ps[i].1 + w, some (.int (ps[i].1 : Nat)), some (.int (ps[i].2 : Nat)), hk6, by rw [List.length_append]; simp; omega, by rw [List.append_assoc]; exact hap, ?_⟩
          rw [hlen0]
          rfl
        · have he : ¬ e ≤ ps[i].1 := by omega
          rw [if_neg he] at hap
          exact ⟨S5, kept, e, _, _, hk, by omega, hap, rfl⟩
      · rintro σ H5 ⟨S5, kept, e, v7, v8, hk, hkl, hap, rfl⟩
        rw [List.drop_of_length_le (by omega), apartF, List.append_nil] at hap
        refine ⟨_, rfl, q c H5 (S3.free hc) (S3.trans S5) ?_⟩
        rw [← hap]
        exact hk
/-! ## how many arguments -/
theorem len_cl : ∀ vs H Q E, spCl vs H Q E → vs.length = 1 := by
  rintro _ _ _ _ ⟨_, rfl, _⟩; rfl
theorem len_iw : ∀ vs H Q E, spIw vs H Q E → vs.length = 2 := by
  rintro _ _ _ _ ⟨_, _, rfl, _⟩; rfl
theorem len_cw (K : PySem.W.Frag) : ∀ vs H Q E, spCw K vs H Q E → vs.length = 2 := by
  rintro _ _ _ _ ⟨_, _, _, _, rfl, _⟩; rfl
theorem len_ct : ∀ vs H Q E, spCt vs H Q E → vs.length = 2 := by
  rintro _ _ _ _ ⟨_, _, rfl, _⟩; rfl
theorem len_ap (K : PySem.W.Frag) : ∀ vs H Q E, spAp K vs H Q E → vs.length = 2 := by
  rintro _ _ _ _ ⟨_, _, _, _, _, rfl, _⟩; rfl
theorem len_wa (K : PySem.W.Frag) : ∀ vs H Q E, spWa K vs H Q E → vs.length = 4 := by
  rintro _ _ _ _ ⟨_, _, _, _, _, _, rfl, _⟩; rfl
end WkP

/-! own: a law whose def asks repr: its call knows that no repr is under way -/
namespace Wk
open PySem PySem.Spec PyProof.Rows L2
open TL (tl len_tl ext_tl tl_append mk_tl)
/-- what a def promises where no repr is under way -/
structure FnG (P : Program) (w : World) (K : PySem.W.Frag) (mg : Str → Option Value) (base : Heap) (k : Nat) (f : Addr) (fd : FuncData) (ps : List Str) (sp : Sp) : Prop where
  run : ∀ (A : Around) (outer : List Env) (s : Shared) (H : Hp) (args : Args) (us : List Value) (vs : List V) (Q : VK) (E : XK), A.guards = some [] → Room k A → Env0 P w K mg base A outer s H → BindsTo s fd args (ps.zip us) → Vals vs us → sp vs H Q E →
    codeAny (model P w) A (.call (.ref f) args) (CR CX0 outer P w H s Q E) s
theorem fng_of {P : Program} {w : World} {K : PySem.W.Frag} {mg : Str → Option Value} {base : Heap} {k : Nat} {f : Addr} {nm ql : Str} {pa : Arguments} {bd : List Stmt} {sc : Scope} {dV kV doc pm cdv ct oc : Value} {an od : Option Addr}
    {osl : Array (Option Value)} {N ps : List Str} {sp : Sp} (at_ : K.lookup f = some ⟨oc, od, .func (PySem.W.fnOf nm ql pa bd sc dV kV doc pm an cdv ct), osl⟩) (cd : PySem.W.codeIn K cdv ql = true) (S : FnScope N ps sc)
    (len : ∀ vs H Q E, sp vs H Q E → vs.length = ps.length)
    (walk : ∀ (A : Around) (outer : List Env) (s : Shared) (H : Hp) (vs : List V) (Q : VK) (E : XK), A.guards = some [] → Room k (A.deeper (envOfC ql sc s.heap.objs.size f cdv)) → sp vs H Q E →
      ∃ t, PSs (cxOf CX0 P w K mg base N ql sc f cdv A outer s H E) bd t ∧ t { nx := fun _ H' => Q .non H', rt := Q } (start N vs) H) :
    FnG P w K mg base (k + 1) f (PySem.W.fnOf nm ql pa bd sc dV kV doc pm an cdv ct) ps sp := by
  refine ⟨fun A outer s H args us vs Q E gu hr z0 bind rv asks => ?_⟩
  have many := len _ _ _ _ asks
  have inK : K.In s.heap := z0.mod.kin.keeps fun b o e => (z0.bs b o e).1
  have nolim : s.heap.NoLimit := z0.mod.nolimit.keeps fun b o e => (z0.bs b o e).1
  have kinds : ∀ y ∈ ps.zip us, sc.names.lookup y.1 = some .local ∨ (sc.names.lookup y.1 = some .cell ∧ ((cellsFrom (s.heap.objs.size + 1) sc.names []).lookup y.1).isSome = true) := by
    rintro ⟨n, v⟩ hy
    refine (S.par n (List.of_mem_zip hy).1).imp id fun q => ⟨q, PySem.W.cellsFrom_some _ _ _ (.inl q)⟩
  refine codeAny_call_function hr.depth (inK _ _ at_) rfl S.co S.gen rfl (PySem.W.codeRec_of inK cd) (bind _ _ _ _ ?_)
  refine wpAny_newFunctionEnv_cells S.kind kinds fun env he s1 x => ?_
  subst he
  refine ⟨nolim.keeps x.toInCall.keep, codeAny_func ?_⟩
  obtain ⟨t, der, reads⟩ := walk A outer s H vs Q E gu (hr.deeper _) asks
  have I : Inv (cxOf CX0 P w K mg base N ql sc f cdv A outer s H E) [] (start N vs) H s1 := inv_start S hr.hd z0 many rv x
  refine wpAny_mono (der.run [] s1 (start N vs) H _ I reads) (fun fl s2 hs => ?_) fun e s2 hs => hs
  cases fl with
  | ret u =>
    obtain ⟨v, σ2, H2, J, r, q⟩ := hs
    exact ⟨v, H2, J.os, J.bare, J.base, J.hok, r, q⟩
  | next =>
    obtain ⟨σ2, H2, J, q⟩ := hs
    exact ⟨V.non, H2, J.os, J.bare, J.base, J.hok, rfl, q⟩
  | brk => obtain ⟨_, _, _, q⟩ := hs; exact q.elim
  | cont => obtain ⟨_, _, _, q⟩ := hs; exact q.elim
/-- the law's call, from such a promise -/
theorem law_callG {P : Program} {w : World} {K : PySem.W.Frag} {mg mb : Str → Option Value} {k : Nat} {fa a : Addr} {fd : FuncData} {x : Str} {sp : Sp} {s0 : Shared} {us : List Value} {ns : List Int}
    (inK : K.In s0.heap) (gns : s0.heap.Ns mainGlobals mg) (bns : s0.heap.Ns builtinsNs mb) (boot : ∀ x : Str, x ≠ "__name__" → mb x = bootBuiltins x) (nolim : s0.heap.NoLimit) (nogen : s0.gens = #[])
    (at_ : s0.heap.get? a = some { cls := .type "list", data := .seq us.toArray }) (intsA : IntsAre us ns) (few : ns.length ≤ sizeLine) (hr : Room k callerA)
    (F : ∀ base : Heap, K.In base → base.Ns mainGlobals mg → FnG P w K mg base k fa fd [x] sp) (bind : ∀ (s : Shared) (u : Value), BindsTo s fd ⟨[u], []⟩ [(x, u)])
    (asks : ∀ H : Hp, Only H → SqL K H a (ns.map V.int) → sp [.ref a] H (fun v _ => v = .bl true) fun _ _ _ => False) :
    codeAny (model P w) callerA (.call (.ref fa) ⟨[.ref a], []⟩) (fun r s' => r = .ok (.ret (.bool true)) ∧ OldK s0.heap s'.heap ∧ s'.os = s0.os ∧ AllBare s'.gens) s0 := by
  have rels := vals_ints intsA
  have many := intsA.length
  have road : ∀ H : Hp, Only H → SqL K H a (ns.map V.int) → HOk P w H s0.heap → (∀ b, H b ≠ none → b = a) → (H a ≠ none → K.lookup a = none) →
      codeAny (model P w) callerA (.call (.ref fa) ⟨[.ref a], []⟩) (fun r s' => r = .ok (.ret (.bool true)) ∧ OldK s0.heap s'.heap ∧ s'.os = s0.os ∧ AllBare s'.gens) s0 := by
    intro H only list ok single notK
    have noD : ∀ {b : Addr} {o : Obj} {es : Array DictEntry} {ep : Nat}, s0.heap.get? b = some o → o.data = .dict es ep → H b = none := by
      intro b o es ep e d
      cases q : H b with
      | none => rfl
      | some u =>
        obtain rfl : b = a := single b (by rw [q]; exact Option.some_ne_none _)
        rw [at_] at e
        cases e
        exact absurd (show Data.seq us.toArray _ = Data.dict es ep from d) (fun z => nomatch z)
    have nsH : ∀ {b : Addr} {m : Str → Option Value}, s0.heap.Ns b m → (hidT s0.heap H).Ns b m := by
      rintro b m ⟨o, es, ep, e, d, r⟩
      exact ⟨o, es, ep, hidT_get e (noD e d), d, r⟩
    have hidK : K.In (hidT s0.heap H) := by
      intro b o e
      refine hidT_get (inK b o e) ?_
      cases q : H b with
      | none => rfl
      | some u =>
        obtain rfl : b = a := single b (by rw [q]; exact Option.some_ne_none _)
        rw [notK (by rw [q]; exact Option.some_ne_none _)] at e
        cases e
    have md : Mod K mg (hidT s0.heap H) := ⟨hidK, nsH gns, ⟨mb, nsH bns, boot⟩, nolim.imp fun mc z => ⟨nsH z.1, z.2⟩⟩
    have z0 : Env0 P w K mg (hidT s0.heap H) callerA [] s0 H := ⟨rfl, md, fun b o e => of_hidT e, Nat.le_of_eq (hidT_size _ _), trivial, fun b hb => absurd hb List.not_mem_nil, ok, .of_eq nogen⟩
    refine codeAny_mono ((F _ hidK (nsH gns)).run callerA [] s0 H ⟨[.ref a], []⟩ [.ref a] [.ref a] _ _ rfl hr z0 (bind s0 (.ref a)) (.cons rfl .nil) (asks H only list)) fun r s2 h => ?_
    cases r with
    | error e => exact False.elim h
    | ok fl =>
      cases fl with
      | next => exact h.elim
      | brk => exact h.elim
      | cont => exact h.elim
      | ret u =>
        obtain ⟨v, H2, os, bare, un, ok2, rel, q⟩ := h
        obtain rfl : v = .bl true := q
        obtain rfl : u = Value.bool true := rel
        refine ⟨rfl, OldK.of_keep fun b o e => ?_, os, bare⟩
        cases hb : H b with
        | none => exact un.keep b o e hb List.not_mem_nil List.not_mem_nil
        | some u2 =>
          obtain z | ⟨ob, xs, z⟩ := only b
          · rw [hb] at z
            cases z
          · obtain ⟨e1, _⟩ := ok b _ z
            obtain ⟨e2, _⟩ := ok2 b _ (un.frzs b ob _ z)
            rw [e] at e1
            cases e1
            exact e2
  cases lk : K.lookup a with
  | some o =>
    have e := inK a o lk
    rw [at_] at e
    cases e
    exact road (fun _ => none) (fun _ => .inl rfl) (.inr ⟨_, us.toArray, _, lk, rfl, rfl, rfl, by rw [List.size_toArray, many]; exact few, by simpa using rels⟩) (fun b u z => nomatch z) (fun b z => (z rfl).elim) fun z => (z rfl).elim
  | none =>
    let H : Hp := fun b => if b = a then some (.frz { cls := .type "list", data := .seq us.toArray } (.lst (ns.map V.int))) else none
    have Ha : H a = some (.frz { cls := .type "list", data := .seq us.toArray } (.lst (ns.map V.int))) := if_pos rfl
    have Hn : ∀ b, b ≠ a → H b = none := fun b n => if_neg n
    refine road H (fun b => ?_) (.inl (.inr ⟨_, Ha⟩)) (fun b u z => ?_) (fun b z => ?_) fun _ => lk
    · by_cases n : b = a
      · subst n; exact .inr ⟨_, _, Ha⟩
      · exact .inl (Hn b n)
    · by_cases n : b = a
      · subst n
        rw [Ha] at z
        cases z
        exact ⟨at_, by rw [List.length_map]; exact few, us, _, rels, at_⟩
      · rw [Hn b n] at z
        cases z
    · by_cases n : b = a
      · exact n
      · exact absurd (Hn b n) z
theorem walk_ofG {l : PySem.W.OpenLaw} {n k : Nat} {q : Program} {loose : List Str} {XP : (Str → Option Value) → Heap → Prop} {YP : World → Heap → Prop} {d : DefRec} {K : Params → PySem.W.Frag} {sp : World → Sp} {x : Str}
    (hn : l.most = some n) (hn2 : n ≤ sizeLine) (hdf : d.params.defaults = []) (hr : Room k callerA) (hY : ∀ (w : World) (h : Heap), YP w h → (K w.params).In h)
    (F : ∀ (w : World) (mg : Str → Option Value) (fa : Addr) (h : Heap), (K w.params).In h → h.Ns mainGlobals mg → mg d.name = some (.ref fa) → ∃ fd : FuncData, (∀ (s : Shared) (u : Value), BindsTo s fd ⟨[u], []⟩ [(x, u)]) ∧
        ∀ base : Heap, (K w.params).In base → base.Ns mainGlobals mg → FnG l.prog w (K w.params) mg base k fa fd [x] (sp w))
    (asks : ∀ (w : World) (H : Hp) (a : Addr) (ns : List Int), ns.length ≤ n → Only H → SqL (K w.params) H a (ns.map V.int) → sp w [.ref a] H (fun v _ => v = .bl true) fun _ _ _ => False) :
    PySem.W.WalkO q loose XP YP l.row.toRowW d [] (fun f vs => PySem.call f vs) := by
  refine Att.attach_call hn hdf fun w s0 s1 mg mb fa o pm cd doc a us ns G Y ho hd hcd hmg hobj intsA many nogen => ?_
  obtain ⟨fd, bind, hF⟩ := F w mg fa _ (hY w _ Y) G.T.g hmg
  exact law_callG (hY w _ Y) G.T.g G.T.b G.T.builtins G.T.nolimit nogen hobj intsA (Nat.le_trans many hn2) hr hF bind fun H only list => asks w H a ns many only list
/-- the law's def as such -/
theorem Df.lawG {P : Program} {w : World} {K : PySem.W.Frag} {mg : Str → Option Value} {x : Str} {st : Stmt} {ps N : List Str} {k : Nat} {sp : Sp} {fa : Addr} (D : Df K mg x st ps) (hfa : mg x = some (.ref fa)) (S : FnScope N ps (defScope st))
    (len : ∀ vs H Q E, sp vs H Q E → vs.length = ps.length)
    (walk : ∀ (base : Heap) (f : Addr) (cdv : Value) (A : Around) (outer : List Env) (s : Shared) (H : Hp) (vs : List V) (Q : VK) (E : XK), A.guards = some [] → Room k (A.deeper (envOfC x (defScope st) s.heap.objs.size f cdv)) → sp vs H Q E →
      ∃ t, PSs (cxOf CX0 P w K mg base N x (defScope st) f cdv A outer s H E).nox (defBody st) t ∧ t { nx := fun _ H' => Q .non H', rt := Q } (start N vs) H) :
    ∃ fd : FuncData, (∀ (s : Shared) (us : List Value), us.length = ps.length → BindsTo s fd ⟨us, []⟩ (ps.zip us)) ∧ ∀ base : Heap, FnG P w K mg base (k + 1) fa fd ps sp := by
  obtain ⟨f, fd, F, hm, hb⟩ := D
  rw [hfa] at hm
  cases hm
  obtain ⟨oc, od, kV, doc, pm, an, cdv, ct, osl, rfl, lk, hcd⟩ := F.ex
  refine ⟨_, fun s us hl => .of_eq (hb us hl), fun base => ?_⟩
  exact fng_of lk hcd S len fun A outer s H vs Q E gu hr asks => by
    obtain ⟨t, h1, h2⟩ := walk base fa cdv A outer s H vs Q E gu hr asks
    exact ⟨t, h1.nox, h2⟩
/-! ## repr(a tuple of data) -/
def rRepr1 (K : PySem.W.Frag) : List V → Hp → VK → Prop := fun xs H Q => match xs with
  | [x] => ∃ ds, Dp K H x (.tuple ds) ∧ (PyData.tuple ds).showable = true ∧ (PyData.tuple ds).hasDict = false ∧ (PyData.tuple ds).depth ≤ 64 ∧ (PyData.tuple ds).shown.length ≤ sizeLine ∧ Q (.str (PyData.tuple ds).shown) H
  | _ => False
theorem call_repr1 {X : Cx} (hg : X.A.guards = some []) (hu : X.A.units + 100 < cLine) : CallR X (.builtin "repr") (rRepr1 X.K) := by
  intro pins s σ H xs us Q I r h
  unfold rRepr1 at h
  split at h
  · obtain ⟨ds, hd, h1, h2, h3, h4, q⟩ := h
    obtain ⟨u, rfl, ru⟩ := vals1 r
    obtain ⟨as, rd⟩ := Dp.reads I _ _ u hd ru
    cases rd with
    | @tuple a o items n as ds e1 e2 e3 e4 =>
      have hz : (tupleText (PyData.shownAll ds)).length ≤ sizeLine := by simpa only [PyData.shown] using h4
      obtain ⟨bs, hb, hk⟩ := ReprAllK.of_readsAll (prog := X.prog) (w := X.w) e4 (by simpa [PyData.showable] using h1) (fun z => by simp [PyData.hasDict] at h2; rw [h2] at z; cases z) (fun t ht => Nat.le_trans (tupleText_mem_le ht) hz)
      have whole : Reads s.heap (.ref a) (.tuple ds) _ := .tuple e1 e2 e3 e4
      have notin : a ∉ bs := not_mem_of_deeper whole (by simp only [PyData.depth]; omega) hb
      simp only [PyData.depth] at h3
      simp only [PyData.shown] at q
      refine call_repr_slot (by omega) ⟨o, e1, e2⟩ PySem.F.slot_tuple_repr ?_
      refine call_tuple_reprK e1 e2 e3 notin hk (by exact hg) (fun b _ => Clear.nil b) (by show X.A.units + 1 + _ < cLine; omega) (fun b o e => e) (fun h' t tk kp => ?_) hz
      exact ⟨_, t, rfl, .str _, H, I.kept (t' := tk) kp, ⟨t, rfl⟩, q⟩
  · exact False.elim h
end Wk

/-! own: == and != of an instance by its class's own eq, whatever it answers -/
namespace Wk
open PySem PySem.Spec PyProof.Rows L2
open TL (tl len_tl ext_tl tl_append mk_tl)
/-- what stands on the right: an instance of the class, or a tuple -/
def Oth (K : PySem.W.Frag) (C : Addr) (H : Hp) (y : V) : Prop := ∃ b, y = .ref b ∧ ((∃ dy gs, H b = some (.ins C dy gs)) ∨ ∃ ys, SqT K H b ys)
section
variable {X : Cx} {pins : List (Addr × Obj)} {σ : L2.St} {H : Hp} {s : Shared} {C f : Addr} {fd : FuncData} {ps : List Str} {sp : Sp} {k : Nat}
theorem oth_type {y : V} {u : Value} (I : Inv X pins σ H s) (ry : RelV y u) (h : Oth X.K C H y) : ∃ tb, PySem.W.Looks (model X.prog X.w) s.heap (typeOf u) tb ∧ PySem.W.notFirst X.K C tb = true := by
  obtain ⟨b, rfl, ⟨dy, gs, hb⟩ | ⟨ys, hb⟩⟩ := h
  · cases ry
    obtain ⟨mB, J, _⟩ := ins_get I.hok hb
    obtain ⟨od, J, _⟩ := J.look
    exact ⟨_, J.type, by simp [PySem.W.notFirst]⟩
  · cases ry
    obtain ⟨its, r, ⟨o, e1, e2, _⟩, _⟩ := I.tuple hb
    refine ⟨.type "tuple", ?_, ?_⟩
    · exact e2 ▸ (PySem.W.Looks.ld e1).andThen .now
    · have e : fastBuiltinMro "tuple" = some [.type "tuple", .type "object"] := by decide +kernel
      have e2 : PySem.W.subIn X.K (.type "tuple") (.ref C) = some false := by
        show (fastBuiltinMro "tuple").map (·.contains (.ref C)) = some false
        rw [e]
        first
          | rfl
          | simp
      unfold PySem.W.notFirst
      rw [e2]
      simp
/-- the own eq called below the running body -/
theorem own_call {A : Around} {a dx : Addr} {fs : List (Str × V)} {y : V} {u : Value} {R : Bool → Hp → Prop} (F : FnOk X.prog X.w X.K X.mg X.base CX0 k f fd ps sp) (hb : Binds X.K fd ps []) (hr : Room k A) (hA : A.frames = X.A.frames) (I : Inv X pins σ H s) (ry : RelV y u)
    (h : sp [.ref a, y] H (fun v H' => ∃ b, v = .bl b ∧ R b H') E0) : wpAny (model X.prog X.w) A (call (.ref f) [.ref a, u]) (fun v s' => ∃ b H', v = .bool b ∧ Inv X pins σ H' s' ∧ R b H') X.xe s := by
  have e0 : Env0 X.prog X.w X.K X.mg X.base A X.stack s H := by
    have e := I.env0
    exact ⟨by rw [hA]; exact e.frames, e.mod, e.bs, e.bsz, e.funs, e.frf, e.hok, e.bare⟩
  have r2 : Vals [V.ref a, y] [Value.ref a, u] := .cons rfl (.cons ry .nil)
  have hl := F.len _ _ _ _ h
  refine wpAny_call (codeAny_mono (F.run A X.stack s H ⟨[.ref a, u], []⟩ [.ref a, u] [.ref a, y] _ E0 hr e0 (by
    have q := hb s [.ref a, u] I.kIn (by simpa using hl)
    simpa using q) r2 h) fun r s' hq => ?_)
  cases r with
  | error e => exact False.elim hq
  | ok fl =>
    cases fl with
    | ret w =>
      obtain ⟨z, H', I', rz, b, rfl, q⟩ := I.after hq
      cases rz
      exact ⟨b, H', rfl, I', q⟩
    | next => exact hq.elim
    | brk => exact hq.elim
    | cont => exact hq.elim
def rOwn (C : Addr) (sp : Sp) (K : PySem.W.Frag) (neg : Bool) : R2 := fun x y H Q => ∃ a dx fs, x = .ref a ∧ H a = some (.ins C dx fs) ∧ Oth K C H y ∧ sp [.ref a, y] H (fun v H' => ∃ b, v = .bl b ∧ Q (.bl (if neg then !b else b)) H') E0
theorem op_own (F : FnOk X.prog X.w X.K X.mg X.base CX0 k f fd ps sp) (hb : Binds X.K fd ps []) (hr : Room k X.A) (hs : PySem.W.findIn X.K (.ref C) "__eq__" = some (some (.ref f))) (hf : PySem.W.isFn X.K (.ref f) = true) : OpR X (compareOp .Eq) (rOwn C sp X.K false) := by
  intro pins s σ H x y v u Q I rx ry h
  obtain ⟨a, dx, fs, rfl, ha, oth, q⟩ := h
  cases rx
  obtain ⟨mA, J, _⟩ := ins_get I.hok ha
  obtain ⟨od, J, _⟩ := J.look
  obtain ⟨tb, ht, hn⟩ := oth_type I ry oth
  obtain ⟨m, hF⟩ := I.fr
  refine PySem.W.cmp_K (op := .Eq) (tb := tb) hr.units0 hF I.ok.mod.kin J ht hn hs hf ?_
  refine wpAny_mono (own_call (dx := dx) (fs := fs) (R := fun b H' => Q (.bl (if false = true then !b else b)) H') F hb hr rfl I ry q) (fun v s' z => ?_) fun _ _ e => e
  obtain ⟨b, H', rfl, I', z⟩ := z
  exact ⟨.bl b, H', I', rfl, z⟩
/-! the unequal sign: by the plain way from the own eq -/
theorem bound_ne {M : Model} {A : Around} {E : Value → Shared → Prop} {K : PySem.W.Frag} {x : Addr} {ox : Obj} {od : Option Obj} {args : List Value} {Q : Option Value → Shared → Prop} (KX : K.In s.heap) (J : PySem.W.InstAt s.heap x ox C od)
    (hs : PySem.W.findIn K (.ref C) "__ne__" = some (some (.builtin "object.__ne__"))) (h : wpAny M A (call (.builtin "object.__ne__") (.ref x :: args)) (fun v => Q (some v)) E s) : wpAny M A (callSpecialIfBound? (.ref x) "__ne__" args) Q E s := by
  simp only [callSpecialIfBound?, bindSpecialIfBound?]
  refine wpAny_holding (wpAny_bind (wpAny_bind (wpAny_bind (J.type.here ((PySem.W.looks_findIn KX hs).here ?_)))))
  refine wpAny_bind (wpAny_askSetting (wpAny_ite ?_))
  have last : wpAny M A (call (.builtin "object.__ne__") ([.ref x] ++ args) >>= fun v => pure (some v)) Q E s := wpAny_bind (wpAny_mono h (fun v s' z => wpAny_pure z) fun _ _ z => z)
  split
  · exact wpAny_bind (wpAny_of_eq (PySem.F.cmp_object.ne.bind _) (wpAny_pure (by exact last)))
  · exact wpAny_tryCatch (wpAny_bind (wpAny_of_eq (PySem.F.cmp_object.ne.bind _) (wpAny_pure (by exact last))))
theorem op_ownNe (F : FnOk X.prog X.w X.K X.mg X.base CX0 k f fd ps sp) (hb : Binds X.K fd ps []) (hr : Room (k + 1) X.A) (hs : PySem.W.findIn X.K (.ref C) "__eq__" = some (some (.ref f))) (hf : PySem.W.isFn X.K (.ref f) = true)
    (hn : PySem.W.findIn X.K (.ref C) "__ne__" = some (some (.builtin "object.__ne__"))) (ho : PySem.W.mroIn X.K C (.type "object") = some true) : OpR X (compareOp .NotEq) (rOwn C sp X.K true) := by
  intro pins s σ H x y v u Q I rx ry h
  obtain ⟨a, dx, fs, rfl, ha, oth, q⟩ := h
  cases rx
  obtain ⟨mA, J, _⟩ := ins_get I.hok ha
  obtain ⟨od, J, _⟩ := J.look
  obtain ⟨tb, ht, nf⟩ := oth_type I ry oth
  have KX : X.K.In s.heap := I.kIn
  have body : wpAny (model X.prog X.w) X.A.in1 (Builtin.«object.__ne__» ⟨[.ref a, u], []⟩) (fun fin s' => ∃ b H', fin = .done (.ret (.bool b)) ∧ Inv X pins σ H' s' ∧ Q (.bl b) H') X.xe s := by
    unfold Builtin.«object.__ne__»
    refine wpAny_bind (m := slotArgs "__ne__" 1 _) (wpAny_pure ?_)
    refine wpAny_bind (m := cRoomFor _ _) (wpAny_cRoomFor hr.in1.units0 ?_)
    refine wpAny_bind (m := callSpecialIfBound? (.ref a) (Str.ofString "__eq__") [u]) (PySem.W.ifBound_K KX J hs hf (wpAny_mono (own_call (dx := dx) (fs := fs) (R := fun b H' => Q (.bl (if true = true then !b else b)) H') F hb hr.in1 rfl I ry q) (fun v s' z => ?_) fun _ _ e => e))
    obtain ⟨b, H', rfl, I', z⟩ := z
    refine wpAny_bind (m := truthy (.bool b)) (wpAny_truthy_bool ?_)
    exact wpAny_pure ⟨!b, H', rfl, I', z⟩
  have one : wpAny (model X.prog X.w) X.A (tryCompare (.ref a) "__ne__" u) (fun r s' => ∃ b H', r = some (.bool b) ∧ Inv X pins σ H' s' ∧ Q (.bl b) H') X.xe s := by
    unfold tryCompare
    refine wpAny_bind (bound_ne KX J hn (wpAny_call (codeAny_call_builtin PySem.F.cmp_object.ne.plain PySem.F.cmpEntry_ne (PySem.W.check_slot PySem.F.cmpKind_ne PySem.F.cmpSplit_ne (J.type.andThen (PySem.W.looks_mroIn KX ho)) (PySem.F.cmpArgs_ne _ _) ?_))))
    refine wpAny_mono body (fun fin s' z => ?_) fun _ _ e => e
    obtain ⟨b, H', rfl, I', z⟩ := z
    exact wpAny_pure ⟨b, H', rfl, I', z⟩
  show wpAny (model X.prog X.w) X.A (richCompare .NotEq (.ref a) u) (EP X pins σ Q) X.xe s
  unfold richCompare
  simp only [cmpInfo_NotEq, oneThing_ref]
  refine wpAny_holding (wpAny_bind (wpAny_cRoomFor hr.units0 ?_))
  refine wpAny_bind (J.type.here (wpAny_bind (ht.here ?_)))
  split
  · rename_i n
    have e : PySem.W.subIn X.K tb (.ref C) = some false := by
      rcases Bool.or_eq_true_iff.mp nf with e | e
      · rw [beq_iff_eq.mp e] at n; simp at n
      · exact beq_iff_eq.mp e
    refine wpAny_bind ((PySem.W.looks_subIn KX e).here ?_)
    simp only [Bool.false_eq_true, if_false]
    refine wpAny_bind (wpAny_mono one (fun r s' z => ?_) fun _ _ e => e)
    obtain ⟨b, H', rfl, I', z⟩ := z
    exact wpAny_pure ⟨.bl b, H', I', rfl, z⟩
  · refine wpAny_bind (wpAny_pure ?_)
    simp only [Bool.false_eq_true, if_false]
    refine wpAny_bind (wpAny_mono one (fun r s' z => ?_) fun _ _ e => e)
    obtain ⟨b, H', rfl, I', z⟩ := z
    exact wpAny_pure ⟨.bl b, H', I', rfl, z⟩
end
end Wk

/-! own: a text turned round; classes of the text, their making -/
namespace Wk
open PySem PySem.Spec PyProof.Rows L2
open TL (tl len_tl ext_tl tl_append mk_tl)
def tRevS (te : TE) : TE := fun σ H Q => te σ H fun x H1 => match x with
  | .str z => (tl z).length ≤ 100000 ∧ Q (tx (tl z).reverse) H1
  | _ => False
theorem back_ix (n : Nat) : Builtin.Str.strSliceIndices none none (-1) n = (List.range n).reverse := by
  unfold Builtin.Str.strSliceIndices
  show sliceRange ((n : Int) - 1) (-1) (-1) = _
  rw [PySem.W.krv_sliceRange, PySem.W.krv_range]
theorem pe_revS {X : Cx} {e : Expr} {te : TE} {k : Nat} {p1 p2 p3 pos : Pos} (he : PE X e te) : PE X (.Subscript e (.Slice none none (some (.UnaryOp .USub (.Constant (.int 1) k p1) p2)) p3) pos) (tRevS te) := by
  refine ⟨fun pins s σ H Q I h => ?_⟩
  refine Subscript_ (thn (he.run pins s σ H _ I h) fun v s1 ⟨x, H1, I1, r1, q1⟩ => ?_)
  cases x with
  | str z =>
    obtain ⟨few, q⟩ := q1
    obtain ⟨t, rfl⟩ := r1
    have hst : PO X (some (.UnaryOp .USub (.Constant (.int 1) k p1) p2)) (tPart (tUn (rU fun i => .int (-i)) (tC (.int 1)))) := po_some (pe_un un_neg pe_int)
    refine wpAny_Slice (thn (po_none.run pins s1 σ H1 (fun o H2 => o = none ∧ H2 = H1) I1 ⟨rfl, rfl⟩) fun vl s2 ⟨l, H2, I2, pl, el, e2⟩ => ?_)
    subst el e2
    refine thn (po_none.run pins s2 σ H2 (fun o H3 => o = none ∧ H3 = H2) I2 ⟨rfl, rfl⟩) fun vu s3 ⟨u, H3, I3, pu, eu, e3⟩ => ?_
    subst eu e3
    refine thn (hst.run pins s3 σ H3 (fun o H4 => o = some (-1) ∧ H4 = H3) I3 ⟨1, rfl, -1, rfl, rfl, rfl⟩) fun vs s4 ⟨o, H4, I4, ps, eo, e4⟩ => ?_
    subst eo e4
    cases pl
    cases pu
    cases ps with
    | int _ t2 =>
      have I5 : Inv X pins σ H4 { s4 with heap := s4.heap.push { cls := .type "slice", data := .fields #[.none, .none, .int (-1) t2] } } := I4.kept (t' := s4.toks) fun b ob q => Heap.get?_push_of_some _ q
      show wpAny (model X.prog X.w) X.A (subscriptTail e (.Slice none none (some (.UnaryOp .USub (.Constant (.int 1) k p1) p2)) p3) (.str z t) (.ref s4.heap.objs.size)) (EP X pins σ Q) X.xe { s4 with heap := s4.heap.push { cls := .type "slice", data := .fields #[.none, .none, .int (-1) t2] } }
      refine tail_any (ops := [.str z t, .ref s4.heap.objs.size]) (typeIs_str _ _ _) PySem.F.slot_str_getitem.lookup ?_ (by with_unfolding_all rfl)
      refine wpAny_getItem_str_slice (l := none) (u := none) (st := some (-1, t2)) ⟨_, Heap.get?_push_size _ rfl, rfl, rfl⟩ rfl ?_
      show Made.post (Made.str ⟨((Builtin.Str.strSliceIndices none none (-1) z.length).filterMap (z.cps[·]?)).toArray⟩) _ _
      have e5 : (Builtin.Str.strSliceIndices none none (-1) z.length).filterMap (z.cps[·]?) = (tl z).reverse := by
        rw [back_ix, List.filterMap_reverse]
        exact congrArg List.reverse (PySem.W.krv_all z.cps)
      rw [e5]
      exact ⟨by rw [len_sx, List.length_reverse]; exact sz_le few, .str _, H4, I5.tok _, ⟨_, rfl⟩, q⟩
  | _ => exact False.elim q1
/-! ## a class of the text -/
structure ClsF (K : PySem.W.Frag) (mg : Str → Option Value) (x : Str) (C : Addr) : Prop where
  mgC : mg x = some (.ref C)
  kp : PySem.W.keepIn K (.ref C) = true
  makes : PySem.W.makesIn K C = true
def MthF (K : PySem.W.Frag) (C : Addr) (m ql : Str) (st : Stmt) (ps : List Str) : Prop :=
  ∃ f fd, Fun K m ql st f fd ∧ (∀ us : List Value, us.length = ps.length → bindArgs fd ⟨us, []⟩ = pure (ps.zip us)) ∧ PySem.W.findIn K (.ref C) m = some (some (.ref f)) ∧ PySem.W.isFn K (.ref f) = true
theorem mth_mk {K : PySem.W.Frag} {C : Addr} {m ql : Str} {st : Stmt} {ps : List Str} {f : Addr} {oc : Value} {od an : Option Addr} {osl : Array (Option Value)} {kV doc pm cdv ct : Value}
    (a : PySem.W.findIn K (.ref C) m = some (some (.ref f))) (i : PySem.W.isFn K (.ref f) = true) (l : K.lookup f = some ⟨oc, od, .func (PySem.W.fnOf m ql (defArgs st) (defBody st) (defScope st) .none kV doc pm an cdv ct), osl⟩) (c : PySem.W.codeIn K cdv ql = true) (k : PySem.W.keepIn K (.ref f) = true)
    (hb : ∀ (kV doc pm : Value) (an : Option Addr) (cdv ct : Value) (us : List Value), us.length = ps.length → bindArgs (PySem.W.fnOf m ql (defArgs st) (defBody st) (defScope st) .none kV doc pm an cdv ct) ⟨us, []⟩ = pure (ps.zip us)) :
    MthF K C m ql st ps := ⟨f, _, fun_mk (st := st) l c k, hb kV doc pm an cdv ct, a, i⟩
structure CalN (P : Program) (w : World) (K : PySem.W.Frag) (mg : Str → Option Value) (base : Heap) (x : Str) (C : Addr) (ps : List Str) (k : Nat) (sp : Sp) : Prop where
  ex : ∃ f fd, Mk K C f ∧ FnOk P w K mg base CX0 k f fd ps sp ∧ mg x = some (.ref C) ∧ Binds K fd ps []
structure CalO (P : Program) (w : World) (K : PySem.W.Frag) (mg : Str → Option Value) (base : Heap) (C : Addr) (ps : List Str) (k : Nat) (sp : Sp) : Prop where
  ex : ∃ f fd, FnOk P w K mg base CX0 k f fd ps sp ∧ Binds K fd ps [] ∧ PySem.W.findIn K (.ref C) "__eq__" = some (some (.ref f)) ∧ PySem.W.isFn K (.ref f) = true
section
variable {P : Program} {w : World} {K : PySem.W.Frag} {mg : Str → Option Value} {base : Heap} {C : Addr} {m ql x : Str} {st : Stmt} {ps N : List Str} {k : Nat} {sp : Sp}
theorem MthF.fn (D : MthF K C m ql st ps) (S : FnScope N ps (defScope st)) (len : ∀ vs H Q E, sp vs H Q E → vs.length = ps.length)
    (walk : ∀ (f : Addr) (cdv : Value) (A : Around) (outer : List Env) (s : Shared) (H : Hp) (vs : List V) (Q : VK) (E : XK), Room k (A.deeper (envOfC ql (defScope st) s.heap.objs.size f cdv)) → sp vs H Q E →
      ∃ t, PSs (cxOf CX0 P w K mg base N ql (defScope st) f cdv A outer s H E).nox (defBody st) t ∧ t { nx := fun _ H' => Q .non H', rt := Q } (start N vs) H) :
    ∃ f fd, FnOk P w K mg base CX0 (k + 1) f fd ps sp ∧ Binds K fd ps [] ∧ PySem.W.findIn K (.ref C) m = some (some (.ref f)) ∧ PySem.W.isFn K (.ref f) = true := by
  obtain ⟨f, fd, F, hb, a, i⟩ := D
  exact ⟨f, fd, F.ok S len (walk f), .all hb, a, i⟩
theorem MthF.init (D : MthF K C "__init__" ql st ps) (T : ClsF K mg x C) (S : FnScope N ps (defScope st)) (len : ∀ vs H Q E, sp vs H Q E → vs.length = ps.length)
    (walk : ∀ (f : Addr) (cdv : Value) (A : Around) (outer : List Env) (s : Shared) (H : Hp) (vs : List V) (Q : VK) (E : XK), Room k (A.deeper (envOfC ql (defScope st) s.heap.objs.size f cdv)) → sp vs H Q E →
      ∃ t, PSs (cxOf CX0 P w K mg base N ql (defScope st) f cdv A outer s H E).nox (defBody st) t ∧ t { nx := fun _ H' => Q .non H', rt := Q } (start N vs) H) : CalN P w K mg base x C ps (k + 1) sp := by
  obtain ⟨f, fd, F, hb, a, i⟩ := D.fn S len walk
  exact ⟨f, fd, ⟨T.makes, a, i, T.kp⟩, F, T.mgC, hb⟩
theorem MthF.own (D : MthF K C "__eq__" ql st ps) (S : FnScope N ps (defScope st)) (len : ∀ vs H Q E, sp vs H Q E → vs.length = ps.length)
    (walk : ∀ (f : Addr) (cdv : Value) (A : Around) (outer : List Env) (s : Shared) (H : Hp) (vs : List V) (Q : VK) (E : XK), Room k (A.deeper (envOfC ql (defScope st) s.heap.objs.size f cdv)) → sp vs H Q E →
      ∃ t, PSs (cxOf CX0 P w K mg base N ql (defScope st) f cdv A outer s H E).nox (defBody st) t ∧ t { nx := fun _ H' => Q .non H', rt := Q } (start N vs) H) : CalO P w K mg base C ps (k + 1) sp := ⟨D.fn S len walk⟩
end
section
variable {X : Cx} {x : Str} {C : Addr} {ps : List Str} {k : Nat} {sp : Sp} {e : Expr} {es : List Expr} {t : TA} {p pos : Pos}
theorem CalN.call (c : CalN X.prog X.w X.K X.mg X.base x C ps k sp) (hr : Room (k + 1) X.A) (hg : Gl X x) (ha : PA X (e :: es) t)
    (hdb : (x == ("__debug__" : Str)) = false := by decide) (he : starEach (e :: es) X.env = (false, eval e X.env) :: starEach es X.env := by rfl) (hpl : (backTo pos (starEach es X.env)).any (·.1) = false := by rfl) :
    PE X (.Call (.Name x p) (e :: es) [] pos) (tMake C sp [] E0 t) := by
  obtain ⟨f, fd, M, F, hm, hb⟩ := c.ex
  exact pe_make M F hr hg hm hb .nil pass0 ha hdb he hpl
theorem CalO.eq (c : CalO X.prog X.w X.K X.mg X.base C ps k sp) (hr : Room k X.A) : OpR X (compareOp .Eq) (rOwn C sp X.K false) := by
  obtain ⟨f, fd, F, hb, hs, hf⟩ := c.ex
  exact op_own F hb hr hs hf
theorem CalO.ne (c : CalO X.prog X.w X.K X.mg X.base C ps k sp) (hn : PySem.W.findIn X.K (.ref C) "__ne__" = some (some (.builtin "object.__ne__")) ∧ PySem.W.mroIn X.K C (.type "object") = some true) (hr : Room (k + 1) X.A) : OpR X (compareOp .NotEq) (rOwn C sp X.K true) := by
  obtain ⟨f, fd, F, hb, hs, hf⟩ := c.ex
  exact op_ownNe F hb hr hs hf hn.1 hn.2
theorem pe_cls (hg : Gl X x) (h : X.mg x = some (.ref C)) (hd : (x == ("__debug__" : Str)) = false) : PE X (.Name x pos) (tC (.ref C)) := pe_glob (v := .ref C) (u := .ref C) hg h (show Value.ref C = Value.ref C from rfl) hd
theorem un_of {A : Around} (hr : Room k A) : A.units + 100 < cLine := by have := hr.un; omega
end
end Wk

/-! own: methods of the text's classes, told by name; a class that a slot holds, called -/
namespace Wk
open PySem PySem.Spec PyProof.Rows L2
structure CalM (P : Program) (w : World) (K : PySem.W.Frag) (mg : Str → Option Value) (base : Heap) (C : Addr) (m : Str) (ps : List Str) (k : Nat) (sp : Sp) : Prop where
  ex : ∃ f fd, FnOk P w K mg base CX0 k f fd ps sp ∧ Binds K fd ps [] ∧ Meth K C m f ∧ Cls K C
/-- a method that is bound to its class -/
def CmtF (K : PySem.W.Frag) (C : Addr) (m ql : Str) (st : Stmt) (ps : List Str) : Prop :=
  ∃ f fd p, Fun K m ql st f fd ∧ (∀ us : List Value, us.length = ps.length → bindArgs fd ⟨us, []⟩ = pure (ps.zip us)) ∧ ClX.CRead K C (.type "type") ∧ ClX.CMet K C (.type "type") m p f
structure CalC (P : Program) (w : World) (K : PySem.W.Frag) (mg : Str → Option Value) (base : Heap) (C : Addr) (m : Str) (ps : List Str) (k : Nat) (sp : Sp) : Prop where
  ex : ∃ f fd p, FnOk P w K mg base CX0 k f fd ps sp ∧ Binds K fd ps [] ∧ ClX.CRead K C (.type "type") ∧ ClX.CMet K C (.type "type") m p f
theorem cmt_mk {K : PySem.W.Frag} {C : Addr} {m ql : Str} {st : Stmt} {ps : List Str} {f p : Addr} {oc : Value} {od an : Option Addr} {osl : Array (Option Value)} {kV doc pm cdv ct : Value} {rest : List Value}
    (r1 : PySem.W.readsIn K C (.type "type") = true) (r2 : PySem.W.specialIn K (.ref C) "__getattribute__" = some (some (.builtin "type.__getattribute__")))
    (m1 : PySem.W.findCls K (.ref C) (.type "type") m = some (.get (.builtin "classmethod.__get__") (.ref p) .none (.ref C))) (m2 : PySem.W.recIn K p "classmethod" = some (.ref f :: rest)) (m3 : PySem.W.fnIn K f = true)
    (l : K.lookup f = some ⟨oc, od, .func (PySem.W.fnOf m ql (defArgs st) (defBody st) (defScope st) .none kV doc pm an cdv ct), osl⟩) (c : PySem.W.codeIn K cdv ql = true) (k : PySem.W.keepIn K (.ref f) = true)
    (hb : ∀ (kV doc pm : Value) (an : Option Addr) (cdv ct : Value) (us : List Value), us.length = ps.length → bindArgs (PySem.W.fnOf m ql (defArgs st) (defBody st) (defScope st) .none kV doc pm an cdv ct) ⟨us, []⟩ = pure (ps.zip us)) :
    CmtF K C m ql st ps := ⟨f, _, p, fun_mk (st := st) l c k, hb kV doc pm an cdv ct, ⟨r1, r2⟩, ⟨m1, ⟨rest, m2⟩, m3⟩⟩
section
variable {P : Program} {w : World} {K : PySem.W.Frag} {mg : Str → Option Value} {base : Heap} {C : Addr} {m ql x : Str} {st : Stmt} {ps N : List Str} {k : Nat} {sp : Sp}
theorem MthF.met (D : MthF K C m ql st ps) (c : Cls K C) (S : FnScope N ps (defScope st)) (len : ∀ vs H Q E, sp vs H Q E → vs.length = ps.length)
    (walk : ∀ (f : Addr) (cdv : Value) (A : Around) (outer : List Env) (s : Shared) (H : Hp) (vs : List V) (Q : VK) (E : XK), Room k (A.deeper (envOfC ql (defScope st) s.heap.objs.size f cdv)) → sp vs H Q E →
      ∃ t, PSs (cxOf CX0 P w K mg base N ql (defScope st) f cdv A outer s H E).nox (defBody st) t ∧ t { nx := fun _ H' => Q .non H', rt := Q } (start N vs) H) : CalM P w K mg base C m ps (k + 1) sp := by
  obtain ⟨f, fd, F, hb, a, i⟩ := D
  exact ⟨f, fd, F.ok S len (walk f), .all hb, ⟨a, i, F.kp⟩, c⟩
theorem CmtF.met (D : CmtF K C m ql st ps) (S : FnScope N ps (defScope st)) (len : ∀ vs H Q E, sp vs H Q E → vs.length = ps.length)
    (walk : ∀ (f : Addr) (cdv : Value) (A : Around) (outer : List Env) (s : Shared) (H : Hp) (vs : List V) (Q : VK) (E : XK), Room k (A.deeper (envOfC ql (defScope st) s.heap.objs.size f cdv)) → sp vs H Q E →
      ∃ t, PSs (cxOf CX0 P w K mg base N ql (defScope st) f cdv A outer s H E).nox (defBody st) t ∧ t { nx := fun _ H' => Q .non H', rt := Q } (start N vs) H) : CalC P w K mg base C m ps (k + 1) sp := by
  obtain ⟨f, fd, p, F, hb, r, c⟩ := D
  exact ⟨f, fd, p, F.ok S len (walk f), .all hb, r, c⟩
end
section
variable {X : Cx} {x m : Str} {C : Addr} {ps : List Str} {k i : Nat} {sp : Sp} {o e : Expr} {es : List Expr} {ta : TE} {t : TA} {p apos pos : Pos} {pl : Sem Bool}
theorem CalM.call (c : CalM X.prog X.w X.K X.mg X.base C m ps k sp) (hr : Room k X.A) (he : PE X o ta) (ha : PA X (e :: es) t)
    (hst : starEach (e :: es) X.env = (false, eval e X.env) :: starEach es X.env := by rfl) (hpl : (backTo pos (starEach es X.env)).any (·.1) = false := by rfl)
    (ht : eval (.Call (.Attribute o m apos) (e :: es) [] pos) X.env = (do
      let ov ← eval o X.env
      standAt apos.atName
      let (f, first) ← holding [ov] (getMethod ov m pl)
      callWith pos f first (backTo pos (starEach (e :: es) X.env)) (backToKw pos (keywordEach [] X.env))) := by rfl) :
    PE X (.Call (.Attribute o m apos) (e :: es) [] pos) (tMeth C m sp [] E0 ta t) := by
  obtain ⟨f, fd, F, hb, hm, hc⟩ := c.ex
  exact pe_meth he hc hm F hr hb .nil pass0 ha hst hpl ht
theorem CalM.call0 (c : CalM X.prog X.w X.K X.mg X.base C m ps k sp) (hr : Room k X.A) (he : PE X o ta)
    (ht : eval (.Call (.Attribute o m apos) [] [] pos) X.env = (do
      let ov ← eval o X.env
      standAt apos.atName
      let (f, first) ← holding [ov] (getMethod ov m pl)
      callWith pos f first (backTo pos (starEach [] X.env)) (backToKw pos (keywordEach [] X.env))) := by rfl) :
    PE X (.Call (.Attribute o m apos) [] [] pos) (tMeth C m sp [] E0 ta tNil) := by
  obtain ⟨f, fd, F, hb, hm, hc⟩ := c.ex
  exact pe_meth0 he hc hm F hr hb .nil pass0 ht
theorem app_nil (sp : Sp) : (fun (vs : List V) (H : Hp) (Q : VK) (E : XK) => sp (vs ++ []) H Q E) = sp := by
  funext vs H Q E
  rw [List.append_nil]
theorem CalC.call (c : CalC X.prog X.w X.K X.mg X.base C m ps k sp) (hr : Room k X.A) (he : PE X o ta) (ha : PA X (e :: es) t)
    (hst : starEach (e :: es) X.env = (false, eval e X.env) :: starEach es X.env := by rfl) (hpl : (backTo pos (starEach es X.env)).any (·.1) = false := by rfl)
    (ht : eval (.Call (.Attribute o m apos) (e :: es) [] pos) X.env = (do
      let ov ← eval o X.env
      standAt apos.atName
      let (f, first) ← holding [ov] (getMethod ov m pl)
      callWith pos f first (backTo pos (starEach (e :: es) X.env)) (backToKw pos (keywordEach [] X.env))) := by rfl) :
    PE X (.Call (.Attribute o m apos) (e :: es) [] pos) (ClX.tCMeth C sp E0 ta t) := by
  obtain ⟨f, fd, p, F, hb, r, cm⟩ := c.ex
  have F2 := F.raw hb .nil
  rw [app_nil] at F2
  exact ClX.pe_cmeth he r cm F2 hr pass0 ha hst hpl ht
/-- x(..), the slot i holding the class at C -/
def tMakeL (C : Addr) (i : Nat) (sp : Sp) (dvs : List V) (E : XK) (t : TA) : TE := fun σ H Q => σ[i]? = some (some (.ref C)) ∧ tMake C sp dvs E t σ H Q
theorem CalN.callL {y : Str} (c : CalN X.prog X.w X.K X.mg X.base y C ps k sp) (hr : Room (k + 1) X.A) (hN : X.N[i]? = some x) (hv : Vis X.env.scope x) (ha : PA X (e :: es) t)
    (hdb : (x == ("__debug__" : Str)) = false := by decide) (hcd : (x == ("__classdict__" : Str)) = false := by decide)
    (he : starEach (e :: es) X.env = (false, eval e X.env) :: starEach es X.env := by rfl) (hpl : (backTo pos (starEach es X.env)).any (·.1) = false := by rfl) :
    PE X (.Call (.Name x p) (e :: es) [] pos) (tMakeL C i sp [] E0 t) := by
  obtain ⟨f, fd, M, F, hm, hb⟩ := c.ex
  refine ⟨fun pins s σ H Q I h => ?_⟩
  obtain ⟨hs, ht⟩ := h
  refine wpAny_Call_Name_kw (thn ((pe_var (pos := p) hN hv hdb hcd).run pins s σ H (fun v H1 => v = .ref C ∧ H1 = H) I ⟨.ref C, hs, rfl, rfl⟩) fun u s1 ⟨v, H1, I1, r1, q1⟩ => ?_)
  obtain ⟨rfl, rfl⟩ := q1
  cases r1
  refine PySem.W.callWith_K (h₀ := X.base) I.ok.mod.kin M.kp (thn (ha.run pos pins s1 σ _ _ I1 ht) fun us s2 ⟨vs, H2, I2, r, q⟩ => ⟨I2.kIn, ?_⟩) he hpl
  exact run_make M F hr hb .nil pass0 I2 r q
end
end Wk

/-! own: small numbers as texts and back, a text cut at its line ends -/
namespace Wk
open PySem PySem.Spec PyProof.Rows L2
open TL (tl len_tl ext_tl tl_append mk_tl)
/-- the figures of a number below a hundred -/
def dig (n : Nat) : List Nat := if n < 10 then [48 + n] else [48 + n / 10, 48 + n % 10]
theorem dig_len (n : Nat) : 1 ≤ (dig n).length ∧ (dig n).length ≤ 2 := by
  unfold dig
  split <;> simp
theorem dig_all : ((List.range 100).all fun n => decide ((toString ((n : Nat) : Int) : Str) = sx (dig n)) && decide (PySem.intText? (sx (dig n)) = some ((n : Nat) : Int))) = true := by decide +kernel
theorem dig_is {n : Nat} (h : n < 100) : (toString ((n : Nat) : Int) : Str) = sx (dig n) ∧ PySem.intText? (sx (dig n)) = some ((n : Nat) : Int) := by
  have q := List.all_eq_true.mp dig_all n (List.mem_range.mpr h)
  obtain ⟨a, b⟩ := Bool.and_eq_true_iff.mp q
  exact ⟨of_decide_eq_true a, of_decide_eq_true b⟩
def rStrI : List V → Hp → VK → Prop := fun xs H Q => ∃ n : Nat, xs = [.int (n : Nat)] ∧ n < 100 ∧ Q (tx (dig n)) H
def rIntT : List V → Hp → VK → Prop := fun xs H Q => ∃ n : Nat, xs = [tx (dig n)] ∧ n < 100 ∧ Q (.int (n : Nat)) H
theorem call_strI {X : Cx} : CallR X (.type "str") rStrI := by
  intro pins s σ H xs us Q I r h
  obtain ⟨n, rfl, hn, q⟩ := h
  refine call_str_int pins s σ H _ us Q I r ⟨_, rfl, ?_, ?_⟩
  · have : (((n : Nat) : Int)).natAbs = n := rfl
    rw [this]
    exact Nat.lt_of_le_of_lt (Nat.log2_le_self n) (by omega)
  · have e := (dig_is hn).1
    show Q (.str (toString ((n : Nat) : Int) : Str)) H
    rw [e]
    exact q
theorem call_intT {X : Cx} : CallR X (.type "int") rIntT := by
  intro pins s σ H xs us Q I r h
  obtain ⟨n, rfl, hn, q⟩ := h
  exact call_int_str pins s σ H _ us Q I r ⟨_, _, rfl, (dig_is hn).2, by have := (dig_len n).2; show (dig n).toArray.size ≤ 640; rw [List.size_toArray]; omega, q⟩
/-- a text of lines, cut at the line ends -/
def rSplitT (K : PySem.W.Frag) : V → List V → Hp → VK → Prop := fun x ys H Q => ∃ ps : List (List Nat), ps ≠ [] ∧ (∀ p ∈ ps, 10 ∉ p) ∧ x = tx (joinL [10] ps) ∧ ys = [tx [10]] ∧ (joinL [10] ps).length ≤ 100000 ∧ ∀ b, H b = none → Q (.ref b) (upd H b (.lst (ps.map tx)))
theorem mt_splitT {X : Cx} : MtR X "str.split" (rSplitT X.K) := by
  intro pins s σ H x xs v us Q I rx rs h
  obtain ⟨ps, hne, hp, rfl, rfl, hl, q⟩ := h
  refine mt_split pins s σ H _ _ v us Q I rx rs ⟨sx (joinL [10] ps), sx [10], rfl, rfl, by decide +kernel, ?_, fun b hb => ?_⟩
  · show (joinL [10] ps).toArray.size + 2 ≤ sizeLine
    rw [List.size_toArray, sizeLine_eq]
    omega
  · have e : Txt.split (sx (joinL [10] ps)) (sx [10]) = ps.map sx := by
      have e1 := Wk.join_eq (sx [10]) ps
      have e2 : tl (sx [10]) = [10] := rfl
      rw [e2] at e1
      rw [← e1]
      exact TL.split_join (s := 10) (S := []) e2 (by decide +kernel) (fun z => hne (List.map_eq_nil_iff.mp z)) (fun p h => by
        obtain ⟨l, hl, rfl⟩ := List.mem_map.mp h
        exact hp l hl)
    rw [e, List.map_map]
    exact q b hb
theorem pe_splitT {X : Cx} {o e : Expr} {to te : TE} {apos pos : Pos} (ho : PE X o to) (he : PE X e te) (hs : starEach [e] X.env = [(false, eval e X.env)] := by rfl) (hbase : attributeBase o "split" X.env (eval o X.env) = eval o X.env := by rfl) (hline : (apos.endLine == pos.line) = true := by rfl) :
    PE X (.Call (.Attribute o "split" apos) [e] [] pos) (tM1 (rSplitT X.K) to te) :=
  pe_m1 PySem.F.slot_str_split PySem.F.type_str_split mt_splitT ho he hs hbase hline
end Wk

namespace WkSr
open PySem PySem.Spec PyProof.Rows L2 Wk WkS WkA WkP
open TL (tl len_tl ext_tl tl_append mk_tl)
def t_is_number (K : PySem.W.Frag) : TS :=
  (tRet (tAndV (tCB (rIsi1 K) (tCons (tVar 0) (tCons (tC (.ty "int")) tNil))) (tAndV (tNotV (tCB (rIsi1 K) (tCons (tVar 0) (tCons (tC (.ty "bool")) tNil)))) (tChain (rLeq) (rLeq) (tVar 1) (tVar 0) (tVar 2)))))
def t_is_head (K : PySem.W.Frag) (s_is_number : Sp) : TS :=
  (tSeq (tIfS (tOr (tNot (tTruth K (tCB (rIsi1 K) (tCons (tVar 0) (tCons (tTup (tCons (tC (.ty "tuple")) (tCons (tC (.ty "list")) tNil))) tNil))))) (tOr (tTest (tOp (rNeq K) (tCB (Wk.rLenW K) (tCons (tVar 0) tNil)) (tC (.int 3)))) (tNot (tTruth K (tCB (rIsi1 K) (tCons (tOp (rItem K) (tVar 0) (tC (.int 0))) (tCons (tC (.ty "str")) tNil))))))) (tRet (tC (.bl false))) tNext)
    (tSeq (tIfS (tTest (tOp (rEqq K) (tOp (rItem K) (tVar 0) (tC (.int 0))) (tC (tx [103, 111])))) (tRet (tAndV (tCall s_is_number [] E0 (tCons (tOp (rItem K) (tVar 0) (tC (.int 1))) (tCons (tC (.int 1)) (tCons (tOp (rPlus K) (tVar 2) (tC (.int 1))) tNil)))) (tCall s_is_number [] E0 (tCons (tOp (rItem K) (tVar 0) (tC (.int 2))) (tCons (tC (.int 0)) (tCons (tOp (rMinus) (tVar 3) (tC (.int 1))) tNil)))))) tNext)
    (tSeq (tIfS (tTest (tOp (rEqq K) (tOp (rItem K) (tVar 0) (tC (.int 0))) (tC (tx [116, 101, 108, 108])))) (tRet (tCall s_is_number [] E0 (tCons (tOp (rItem K) (tVar 0) (tC (.int 1))) (tCons (tC (.int 0)) (tCons (tOp (rMinus) (tC (.int 3)) (tC (.int 1))) tNil))))) tNext)
    (tSeq (tIfS (tOr (tTest (tOp (rNeq K) (tOp (rItem K) (tVar 0) (tC (.int 0))) (tC (tx [114, 101, 97, 100])))) (tNot (tTruth K (tCall s_is_number [] E0 (tCons (tOp (rItem K) (tVar 0) (tC (.int 1))) (tCons (tC (.int 0)) (tCons (tVar 2) tNil))))))) (tRet (tC (.bl false))) tNext)
    (tRet (tAndV (tCB (rIsi1 K) (tCons (tOp (rItem K) (tVar 0) (tC (.int 2))) (tCons (tTup (tCons (tC (.ty "tuple")) (tCons (tC (.ty "list")) tNil))) tNil))) (tOp (rEqq K) (tCB (Wk.rLenW K) (tCons (tOp (rItem K) (tVar 0) (tC (.int 2))) tNil)) (tVar 1))))))))
def t_within (K : PySem.W.Frag) : TS :=
  (tSeq (tIfS (tTest (tOp (rEqq K) (tOp (rItem K) (tVar 0) (tC (.int 0))) (tC (tx [103, 111])))) (tRet (tLst tNil)) tNext)
    (tRet (tIf (tTest (tOp (rEqq K) (tOp (rItem K) (tVar 0) (tC (.int 0))) (tC (tx [116, 101, 108, 108])))) (tLst (tCons (tOp (rItem K) (tVar 0) (tC (.int 2))) tNil)) (tCB (rList1 K) (tCons (tOp (rItem K) (tVar 0) (tC (.int 2))) tNil)))))
def t_checked (K : PySem.W.Frag) (s_is_head : Sp) (s_within : Sp) (s_checked : Sp) : TS :=
  (tSeq (tIfS (tOr (tTest (tOp (rMore) (tVar 4) (tC (.int 40)))) (tNot (tTruth K (tCall s_is_head [] E0 (tCons (tVar 0) (tCons (tVar 1) (tCons (tVar 2) (tCons (tVar 3) tNil)))))))) (tRet (tTup (tCons (tC (.bl true)) (tCons (tVar 5) tNil)))) tNext)
    (tSeq (tAsg (tOp (rPlus K) (tVar 5) (tC (.int 1))) (gName 5))
    (tSeq (tFor (iAny K (tCall s_within [] E0 (tCons (tVar 0) tNil))) (gName 6) (tSeq (tAsg (tCall s_checked [] E0 (tCons (tVar 6) (tCons (tVar 1) (tCons (tVar 2) (tCons (tVar 3) (tCons (tOp (rPlus K) (tVar 4) (tC (.int 1))) (tCons (tVar 5) tNil))))))) (gTup K 2 (gCons (gName 7) (gCons (gName 5) gNil))))
    (tIfS (tTruth K (tVar 7)) (tRet (tTup (tCons (tC (.bl true)) (tCons (tVar 5) tNil)))) tNext)))
    (tRet (tTup (tCons (tC (.bl false)) (tCons (tVar 5) tNil)))))))
def t_kept (K : PySem.W.Frag) (s_kept : Sp) : TS :=
  (tSeq (tIfS (tTest (tOp (rEqq K) (tOp (rItem K) (tVar 0) (tC (.int 0))) (tC (tx [103, 111])))) (tRet (tCB (rTup1 K) (tCons (tVar 0) tNil))) tNext)
    (tSeq (tIfS (tTest (tOp (rEqq K) (tOp (rItem K) (tVar 0) (tC (.int 0))) (tC (tx [116, 101, 108, 108])))) (tRet (tTup (tCons (tOp (rItem K) (tVar 0) (tC (.int 0))) (tCons (tOp (rItem K) (tVar 0) (tC (.int 1))) (tCons (tCall s_kept [] E0 (tCons (tOp (rItem K) (tVar 0) (tC (.int 2))) tNil)) tNil))))) tNext)
    (tRet (tTup (tCons (tOp (rItem K) (tVar 0) (tC (.int 0))) (tCons (tOp (rItem K) (tVar 0) (tC (.int 1))) (tCons (tCB (rTup1 K) (tCons (tLc (iAny K (tOp (rItem K) (tVar 0) (tC (.int 2)))) (gName 1) tYes (tCall s_kept [] E0 (tCons (tVar 1) tNil)) [1]) tNil)) tNil)))))))
def t_Searcher__init (K : PySem.W.Frag) (s_check_letters : Sp) (s_is_number : Sp) (s_checked : Sp) (s_kept : Sp) : TS :=
  (tSeq (tDrop (tCall s_check_letters [] E0 (tCons (tVar 1) tNil)))
    (tSeq (tIfS (tNot (tTruth K (tCall s_is_number [] E0 (tCons (tVar 2) (tCons (tC (.int 1)) (tCons (tC (.int 8)) tNil)))))) tNever tNext)
    (tSeq (tIfS (tNot (tTest (tChain (rLeq) (rLeq) (tC (.int 1)) (tCB (Wk.rLenW K) (tCons (tVar 3) tNil)) (tC (.int 64))))) tNever tNext)
    (tSeq (tAsg (tC (.int 0)) (gName 4))
    (tSeq (tFor (iEnumG K (tCons (tVar 3) tNil)) (gTup K 2 (gCons (gName 5) (gCons (gName 6) gNil))) (tSeq (tAsg (tCall s_checked [] E0 (tCons (tVar 6) (tCons (tCB (Wk.rLenW K) (tCons (tVar 1) tNil)) (tCons (tVar 2) (tCons (tCB (Wk.rLenW K) (tCons (tVar 3) tNil)) (tCons (tC (.int 1)) (tCons (tC (.int 0)) tNil))))))) (gTup K 2 (gCons (gName 7) (gCons (gName 8) gNil))))
    (tSeq (tIfS (tTruth K (tVar 7)) tNever tNext)
    (tAsg (tOp (rPlus K) (tVar 4) (tVar 8)) (gName 4)))))
    (tSeq (tIfS (tTest (tOp (rMore) (tVar 4) (tC (.int 3000)))) tNever tNext)
    (tSeq (sFld K (tVar 0) (tVar 1) "letters")
    (tSeq (sFld K (tVar 0) (tVar 2) "width")
    (tSeq (sFld K (tVar 0) (tCB (rTup1 K) (tCons (tLc (iAny K (tVar 3)) (gName 6) tYes (tCall s_kept [] E0 (tCons (tVar 6) tNil)) [6]) tNil)) "states")
    (sFld K (tVar 0) (tVar 4) "nodes"))))))))))
def t_Searcher__eq (K : PySem.W.Frag) (C : Addr) : TS :=
  (tSeq (tIfS (tOr (tNot (tTruth K (tCB (rIsi1 K) (tCons (tVar 1) (tCons (tC (.ref C)) tNil))))) (tTest (tOp (rNeq K) (tFld K (tVar 0) "letters") (tFld K (tVar 1) "letters")))) (tRet (tC (.bl false))) tNext)
    (tRet (tAndV (tOp (rEqq K) (tFld K (tVar 0) "width") (tFld K (tVar 1) "width")) (tOp (rEqq K) (tFld K (tVar 0) "states") (tFld K (tVar 1) "states")))))
def t__law_tree (K : PySem.W.Frag) (s__law_draw : Sp) (s__law_tree : Sp) : TS :=
  (tSeq (tAsg (tIf (tTest (tOp (rMore) (tVar 4) (tC (.int 0)))) (tCall s__law_draw [] E0 (tCons (tVar 0) (tCons (tC (.int 6)) tNil))) (tC (.int 5))) (gName 5))
    (tSeq (tIfS (tTest (tOp (rLess) (tVar 5) (tC (.int 4)))) (tSeq (tAsg (tCall s__law_draw [] E0 (tCons (tVar 0) (tCons (tOp (rPlus K) (tVar 2) (tC (.int 1))) tNil))) (gName 6))
    (tRet (tTup (tCons (tC (tx [114, 101, 97, 100])) (tCons (tVar 6) (tCons (tCB (rTup1 K) (tCons (tLc (iAny K (tVar 1)) (gName 7) tYes (tCall s__law_tree [] E0 (tCons (tVar 0) (tCons (tVar 1) (tCons (tVar 2) (tCons (tVar 3) (tCons (tOp (rMinus) (tVar 4) (tC (.int 1))) tNil)))))) [7]) tNil)) tNil)))))) tNext)
    (tSeq (tIfS (tTest (tOp (rEqq K) (tVar 5) (tC (.int 4)))) (tRet (tTup (tCons (tC (tx [116, 101, 108, 108])) (tCons (tCall s__law_draw [] E0 (tCons (tVar 0) (tCons (tC (.int 3)) tNil))) (tCons (tCall s__law_tree [] E0 (tCons (tVar 0) (tCons (tVar 1) (tCons (tVar 2) (tCons (tVar 3) (tCons (tOp (rMinus) (tVar 4) (tC (.int 1))) tNil)))))) tNil))))) tNext)
    (tRet (tTup (tCons (tC (tx [103, 111])) (tCons (tOp (rPlus K) (tC (.int 1)) (tCall s__law_draw [] E0 (tCons (tVar 0) (tCons (tOp (rPlus K) (tVar 2) (tC (.int 1))) tNil)))) (tCons (tCall s__law_draw [] E0 (tCons (tVar 0) (tCons (tVar 3) tNil))) tNil))))))))
def t__law_trees (K : PySem.W.Frag) (s__law_tree : Sp) : TS :=
  (tRet (tLc (iRng1 (tCons (tVar 3) tNil)) (gName 5) tYes (tCall s__law_tree [] E0 (tCons (tVar 0) (tCons (tVar 1) (tCons (tVar 2) (tCons (tVar 3) (tCons (tVar 4) tNil)))))) [5]))
abbrev n_is_number : List Str := ["value", "least", "most"]
abbrev n_is_head : List Str := ["tree", "letters", "width", "states"]
abbrev n_within : List Str := ["tree"]
abbrev n_checked : List Str := ["tree", "letters", "width", "states", "level", "number", "inner", "is_wrong"]
abbrev n_kept : List Str := ["tree", "inner"]
abbrev n_Searcher__init : List Str := ["self", "letters", "width", "states", "total", "state", "tree", "is_wrong", "number"]
abbrev n_Searcher__eq : List Str := ["self", "other"]
abbrev n__law_tree : List Str := ["_law_pen_here", "_law_letters_here", "_law_width", "_law_states", "_law_depth", "_law_way", "_law_place", "_law_letter"]
abbrev n__law_trees : List Str := ["_law_pen_here", "_law_letters_here", "_law_width", "_law_many", "_law_depth", "_law_k"]
/-! ## data of tuples, laid so or so -/
mutual
inductive Dq (S : Addr → List V → Prop) : V → PyData → Prop
  | int (i : Int) : Dq S (.int i) (.int i)
  | str (x : Str) : Dq S (.str x) (.str x)
  | tup {a : Addr} {xs : List V} {ds : List PyData} : S a xs → DqA S xs ds → Dq S (.ref a) (.tuple ds)
inductive DqA (S : Addr → List V → Prop) : List V → List PyData → Prop
  | nil : DqA S [] []
  | cons {v : V} {vs : List V} {d : PyData} {ds : List PyData} : Dq S v d → DqA S vs ds → DqA S (v :: vs) (d :: ds)
end
mutual
theorem dq_mono {S S' : Addr → List V → Prop} (h : ∀ a xs, S a xs → S' a xs) : ∀ {v : V} {d : PyData}, Dq S v d → Dq S' v d
  | _, _, .int i => .int i
  | _, _, .str x => .str x
  | _, _, .tup s k => .tup (h _ _ s) (dqa_mono h k)
theorem dqa_mono {S S' : Addr → List V → Prop} (h : ∀ a xs, S a xs → S' a xs) : ∀ {vs : List V} {ds : List PyData}, DqA S vs ds → DqA S' vs ds
  | _, _, .nil => .nil
  | _, _, .cons s k => .cons (dq_mono h s) (dqa_mono h k)
end
mutual
theorem dq_dp {K : PySem.W.Frag} {H : Hp} : ∀ {v : V} {d : PyData}, Dq (SqT K H) v d → Dp K H v d
  | _, _, .int i => .int i
  | _, _, .str x => .str x
  | _, _, .tup s k => .tup s (dqa_dp k)
theorem dqa_dp {K : PySem.W.Frag} {H : Hp} : ∀ {vs : List V} {ds : List PyData}, DqA (SqT K H) vs ds → DpAll K H vs ds
  | _, _, .nil => .nil
  | _, _, .cons s k => .cons (dq_dp s) (dqa_dp k)
end
theorem dqa_len {S : Addr → List V → Prop} : ∀ {vs : List V} {ds : List PyData}, DqA S vs ds → vs.length = ds.length
  | _, _, .nil => rfl
  | _, _, .cons _ k => congrArg Nat.succ (dqa_len k)
theorem dqa_get {S : Addr → List V → Prop} : ∀ {vs : List V} {ds : List PyData} {i : Nat} {v : V}, DqA S vs ds → vs[i]? = some v → ∃ d, ds[i]? = some d ∧ Dq S v d
  | _, _, 0, _, .cons h _, e => by simp at e; subst e; exact ⟨_, rfl, h⟩
  | _, _, i + 1, v, .cons _ k, e => by
    obtain ⟨d, h1, h2⟩ := dqa_get (i := i) (v := v) k (by simpa using e)
    exact ⟨d, by simpa using h1, h2⟩
theorem dqa_app {S : Addr → List V → Prop} : ∀ {vs ws : List V} {ds es : List PyData}, DqA S vs ds → DqA S ws es → DqA S (vs ++ ws) (ds ++ es)
  | _, _, _, _, .nil, k => k
  | _, _, _, _, .cons h r, k => .cons h (dqa_app r k)
theorem dqa_take {S : Addr → List V → Prop} : ∀ (n : Nat) {vs : List V} {ds : List PyData}, DqA S vs ds → DqA S (vs.take n) (ds.take n)
  | 0, _, _, _ => by rw [List.take_zero, List.take_zero]; exact .nil
  | n + 1, _, _, .nil => .nil
  | n + 1, _, _, .cons h r => .cons h (dqa_take n r)
theorem dqa_drop {S : Addr → List V → Prop} : ∀ (n : Nat) {vs : List V} {ds : List PyData}, DqA S vs ds → DqA S (vs.drop n) (ds.drop n)
  | 0, _, _, h => h
  | n + 1, _, _, .nil => .nil
  | n + 1, _, _, .cons _ r => dqa_drop n r
/-! ## trees -/
inductive Tr where
  | go (a b : Nat)
  | tell (n : Nat) (t : Tr)
  | read (p : Nat) (ts : List Tr)
abbrev kGo : List Nat := [103, 111]
abbrev kTell : List Nat := [116, 101, 108, 108]
abbrev kRead : List Nat := [114, 101, 97, 100]
mutual
def td : Tr → PyData
  | .go a b => .tuple [.str (sx kGo), .int (a : Nat), .int (b : Nat)]
  | .tell n t => .tuple [.str (sx kTell), .int (n : Nat), td t]
  | .read p ts => .tuple [.str (sx kRead), .int (p : Nat), .tuple (tds ts)]
def tds : List Tr → List PyData
  | [] => []
  | t :: r => td t :: tds r
end
theorem tds_map : ∀ ts : List Tr, tds ts = ts.map td
  | [] => by simp [tds]
  | t :: r => by rw [tds, tds_map r, List.map_cons]
mutual
def ht : Tr → Nat
  | .go _ _ => 1
  | .tell _ t => ht t + 1
  | .read _ ts => hts ts + 1
def hts : List Tr → Nat
  | [] => 0
  | t :: r => max (ht t) (hts r)
end
theorem hts_le {t : Tr} : ∀ {ts : List Tr}, t ∈ ts → ht t ≤ hts ts
  | s :: r, h => by
    rw [hts]
    rcases List.mem_cons.mp h with h | h
    · rw [h]; exact Nat.le_max_left _ _
    · exact Nat.le_trans (hts_le h) (Nat.le_max_right _ _)
theorem le_hts {n : Nat} : ∀ {ts : List Tr}, (∀ t ∈ ts, ht t ≤ n) → hts ts ≤ n
  | [], _ => by rw [hts]; exact Nat.zero_le _
  | s :: r, h => by
    rw [hts]
    exact Nat.max_le.mpr ⟨h s List.mem_cons_self, le_hts fun t m => h t (List.mem_cons_of_mem _ m)⟩
theorem ht_pos : ∀ t : Tr, 1 ≤ ht t
  | .go _ _ => by rw [ht]; exact Nat.le_refl _
  | .tell _ _ => by rw [ht]; omega
  | .read _ _ => by rw [ht]; omega
mutual
def sz : Tr → Nat
  | .go _ _ => 1
  | .tell _ t => sz t + 1
  | .read _ ts => szs ts + 1
def szs : List Tr → Nat
  | [] => 0
  | t :: r => sz t + szs r
end
mutual
/-- m letters, width w, n states -/
def okT (m w n : Nat) : Tr → Prop
  | .go a b => 1 ≤ a ∧ a ≤ w + 1 ∧ b < n
  | .tell k t => k ≤ 2 ∧ okT m w n t
  | .read p ts => p ≤ w ∧ ts.length = m ∧ okTs m w n ts
def okTs (m w n : Nat) : List Tr → Prop
  | [] => True
  | t :: r => okT m w n t ∧ okTs m w n r
end
theorem okTs_iff {m w n : Nat} : ∀ {ts : List Tr}, okTs m w n ts ↔ ∀ t ∈ ts, okT m w n t
  | [] => by simp [okTs]
  | t :: r => by rw [okTs, okTs_iff]; simp
mutual
theorem okT_mono {m w n w' n' : Nat} (hw : w ≤ w') (hn : n ≤ n') : ∀ t : Tr, okT m w n t → okT m w' n' t
  | .go a b, h => by rw [okT] at h ⊢; omega
  | .tell k t, h => by rw [okT] at h ⊢; exact ⟨h.1, okT_mono hw hn t h.2⟩
  | .read p ts, h => by rw [okT] at h ⊢; exact ⟨by omega, h.2.1, okTs_mono hw hn ts h.2.2⟩
theorem okTs_mono {m w n w' n' : Nat} (hw : w ≤ w') (hn : n ≤ n') : ∀ ts : List Tr, okTs m w n ts → okTs m w' n' ts
  | [], _ => by rw [okTs]; trivial
  | t :: r, h => by rw [okTs] at h ⊢; exact ⟨okT_mono hw hn t h.1, okTs_mono hw hn r h.2⟩
end
section
variable {S : Addr → List V → Prop} {v : V}
theorem dq_go {a b : Nat} (h : Dq S v (td (.go a b))) : ∃ c, v = .ref c ∧ S c [tx kGo, .int (a : Nat), .int (b : Nat)] := by
  rw [td] at h
  cases h with
  | tup s k =>
    cases k with
    | cons h1 k => cases k with
      | cons h2 k => cases k with
        | cons h3 k =>
          cases k; cases h1; cases h2; cases h3
          exact ⟨_, rfl, s⟩
theorem dq_tell {n : Nat} {t : Tr} (h : Dq S v (td (.tell n t))) : ∃ c u, v = .ref c ∧ S c [tx kTell, .int (n : Nat), u] ∧ Dq S u (td t) := by
  rw [td] at h
  cases h with
  | tup s k =>
    cases k with
    | cons h1 k => cases k with
      | cons h2 k => cases k with
        | cons h3 k =>
          cases k; cases h1; cases h2
          exact ⟨_, _, rfl, s, h3⟩
theorem dq_read {p : Nat} {ts : List Tr} (h : Dq S v (td (.read p ts))) : ∃ c e us, v = .ref c ∧ S c [tx kRead, .int (p : Nat), .ref e] ∧ S e us ∧ DqA S us (tds ts) := by
  rw [td] at h
  cases h with
  | tup s k =>
    cases k with
    | cons h1 k => cases k with
      | cons h2 k => cases k with
        | cons h3 k =>
          cases k; cases h1; cases h2
          cases h3 with
          | tup s2 k2 => exact ⟨_, _, _, rfl, s, s2, k2⟩
theorem mk_go {c : Addr} {a b : Nat} (s : S c [tx kGo, .int (a : Nat), .int (b : Nat)]) : Dq S (.ref c) (td (.go a b)) := by
  rw [td]; exact .tup s (.cons (.str _) (.cons (.int _) (.cons (.int _) .nil)))
theorem mk_tell {c : Addr} {n : Nat} {t : Tr} {u : V} (s : S c [tx kTell, .int (n : Nat), u]) (k : Dq S u (td t)) : Dq S (.ref c) (td (.tell n t)) := by
  rw [td]; exact .tup s (.cons (.str _) (.cons (.int _) (.cons k .nil)))
theorem mk_read {c e : Addr} {p : Nat} {ts : List Tr} {us : List V} (s : S c [tx kRead, .int (p : Nat), .ref e]) (s2 : S e us) (k : DqA S us (tds ts)) : Dq S (.ref c) (td (.read p ts)) := by
  rw [td]; exact .tup s (.cons (.str _) (.cons (.int _) (.cons (.tup s2 k) .nil)))
end
theorem dq_same {K : PySem.W.Frag} {H H' : Hp} {v : V} {d : PyData} (s : Same H H') (h : Dq (SqT K H) v d) : Dq (SqT K H') v d := dq_mono (fun _ _ h => sqT_same s h) h
theorem dqa_same {K : PySem.W.Frag} {H H' : Hp} {v : List V} {d : List PyData} (s : Same H H') (h : DqA (SqT K H) v d) : DqA (SqT K H') v d := dqa_mono (fun _ _ h => sqT_same s h) h
theorem dq2_same {K : PySem.W.Frag} {H H' : Hp} {v : V} {d : PyData} (s : Same H H') (h : Dq (Seq2 K H) v d) : Dq (Seq2 K H') v d := dq_mono (fun _ _ h => h.same s) h
theorem dqa2_same {K : PySem.W.Frag} {H H' : Hp} {v : List V} {d : List PyData} (s : Same H H') (h : DqA (Seq2 K H) v d) : DqA (Seq2 K H') v d := dqa_mono (fun _ _ h => h.same s) h
/-! ## is_number -/
theorem kb_int : kitB "int" "int" = some true := by decide +kernel
theorem kb_int_bool : kitB "int" "bool" = some false := by decide +kernel
def spNum (K : PySem.W.Frag) : Sp := fun vs H Q _ => ∃ i lo hi : Int, vs = [.int i, .int lo, .int hi] ∧ lo ≤ i ∧ i ≤ hi ∧ Q (.bl true) H
theorem rd_num (K : PySem.W.Frag) (vs : List V) (H : Hp) (Q : VK) (E : XK) (h : spNum K vs H Q E) : t_is_number K { nx := fun _ H' => Q .non H', rt := Q } (start n_is_number vs) H := by
  obtain ⟨i, lo, hi, rfl, h1, h2, q⟩ := h
  refine ⟨.int i, rfl, _, _, .base (.int _), kb_int, _, rfl, .int i, rfl, _, _, .base (.int _), kb_int_bool, _, rfl, _, rfl, .int lo, rfl, .int i, rfl, _, rfl, ?_⟩
  rw [decide_eq_true h1]
  refine ⟨.int hi, rfl, ?_⟩
  show Q (.bl (decide (i ≤ hi))) H
  rw [decide_eq_true h2]
  exact q
/-! ## is_head, within -/
theorem isi2 {K : PySem.W.Frag} {H : Hp} {a : Addr} {xs : List V} (h : Seq2 K H a xs) : ∃ t, TyX K H (.ref a) t ∧ PySem.W.kitAny K t [.type "tuple", .type "list"] = some true := by
  rcases h with h | h
  · exact ⟨_, tyx_list h, kitAny_cons (kit_ty (a := "list") (b := "tuple") (r := false) (by decide +kernel)) (fun _ => kitAny_cons (kit_ty kb_list) (fun z => by cases z) fun _ => rfl) fun z => by cases z⟩
  · exact ⟨_, tyx_tup h, kitAny_cons (kit_ty kb_tuple) (fun z => by cases z) fun _ => rfl⟩
def spHead (K : PySem.W.Frag) : Sp := fun vs H Q _ => ∃ (v : V) (t : Tr) (m w n : Nat), vs = [v, .int (m : Nat), .int (w : Nat), .int (n : Nat)] ∧ Dq (Seq2 K H) v (td t) ∧ okT m w n t ∧ m ≤ 1000 ∧ ∀ H', Same H H' → Q (.bl true) H'
theorem rd_head (K : PySem.W.Frag) (vs : List V) (H : Hp) (Q : VK) (E : XK) (h : spHead K vs H Q E) : t_is_head K (spNum K) { nx := fun _ H' => Q .non H', rt := Q } (start n_is_head vs) H := by
  obtain ⟨v, t, m, w, n, rfl, hv, hok, hm, q⟩ := h
  cases t with
  | go a b =>
    obtain ⟨c, rfl, hc⟩ := dq_go hv
    rw [okT] at hok
    refine ⟨.ref c, rfl, by show 2 ≤ sizeLine; decide, fun T hT => ?_⟩
    have S1 : Same H (upd H T (.tup [.ty "tuple", .ty "list"])) := Same.new hT
    have hc1 := hc.same S1
    obtain ⟨ty, h1, h2⟩ := isi2 hc1
    refine .inr ⟨_, _, ty, true, upd_same, .cons (.ty _) (.cons (.ty _) .nil), h1, h2, ?_⟩
    refine ⟨.ref c, rfl, _, hc1, rfl, _, rfl, ?_⟩
    refine ⟨.ref c, rfl, _, _, hc1, rfl, _, _, .base (.str _), kb_str, ?_⟩
    refine ⟨.ref c, rfl, _, _, hc1, rfl, rfl, _, rfl, ?_⟩
    refine ⟨.ref c, rfl, _, _, hc1, rfl, .int (w : Nat), rfl, (a : Nat), 1, (w : Int) + 1, rfl, by omega, by omega, _, rfl, ?_⟩
    refine ⟨.ref c, rfl, _, _, hc1, rfl, .int (n : Nat), rfl, (b : Nat), 0, (n : Int) - 1, rfl, by omega, by omega, ?_⟩
    exact q _ S1
  | tell k t =>
    obtain ⟨c, u, rfl, hc, hu⟩ := dq_tell hv
    rw [okT] at hok
    refine ⟨.ref c, rfl, by show 2 ≤ sizeLine; decide, fun T hT => ?_⟩
    have S1 : Same H (upd H T (.tup [.ty "tuple", .ty "list"])) := Same.new hT
    have hc1 := hc.same S1
    obtain ⟨ty, h1, h2⟩ := isi2 hc1
    refine .inr ⟨_, _, ty, true, upd_same, .cons (.ty _) (.cons (.ty _) .nil), h1, h2, ?_⟩
    refine ⟨.ref c, rfl, _, hc1, rfl, _, rfl, ?_⟩
    refine ⟨.ref c, rfl, _, _, hc1, rfl, _, _, .base (.str _), kb_str, ?_⟩
    refine ⟨.ref c, rfl, _, _, hc1, rfl, rfl, _, rfl, ?_⟩
    refine ⟨.ref c, rfl, _, _, hc1, rfl, rfl, _, rfl, ?_⟩
    refine ⟨.ref c, rfl, _, _, hc1, rfl, (k : Nat), 0, 3 - 1, rfl, by omega, by omega, ?_⟩
    exact q _ S1
  | read p ts =>
    obtain ⟨c, e, us, rfl, hc, he, hu⟩ := dq_read hv
    rw [okT] at hok
    refine ⟨.ref c, rfl, by show 2 ≤ sizeLine; decide, fun T hT => ?_⟩
    have S1 : Same H (upd H T (.tup [.ty "tuple", .ty "list"])) := Same.new hT
    have hc1 := hc.same S1
    obtain ⟨ty, h1, h2⟩ := isi2 hc1
    refine .inr ⟨_, _, ty, true, upd_same, .cons (.ty _) (.cons (.ty _) .nil), h1, h2, ?_⟩
    refine ⟨.ref c, rfl, _, hc1, rfl, _, rfl, ?_⟩
    refine ⟨.ref c, rfl, _, _, hc1, rfl, _, _, .base (.str _), kb_str, ?_⟩
    refine ⟨.ref c, rfl, _, _, hc1, rfl, rfl, _, rfl, ?_⟩
    refine ⟨.ref c, rfl, _, _, hc1, rfl, rfl, _, rfl, ?_⟩
    refine ⟨.ref c, rfl, _, _, hc1, rfl, rfl, _, rfl, ?_⟩
    refine ⟨.ref c, rfl, _, _, hc1, rfl, .int (w : Nat), rfl, (p : Nat), 0, (w : Nat), rfl, by omega, by omega, ?_⟩
    refine ⟨.ref c, rfl, _, _, hc1, rfl, by show 2 ≤ sizeLine; decide, fun T2 hT2 => ?_⟩
    have S2 := Same.new' (o := .tup [.ty "tuple", .ty "list"]) S1 hT2
    have he2 := he.same S2
    obtain ⟨ty2, h3, h4⟩ := isi2 he2
    refine .inr ⟨_, _, ty2, true, upd_same, .cons (.ty _) (.cons (.ty _) .nil), h3, h4, _, rfl, ?_⟩
    refine ⟨.ref c, rfl, _, _, hc.same S2, rfl, _, he2, .int (m : Nat), rfl, rfl, ?_⟩
    have el : us.length = m := by rw [dqa_len hu, tds_map, List.length_map]; exact hok.2.1
    rw [decide_eq_true (by rw [el])]
    exact q _ S2
def kids : Tr → List Tr
  | .go _ _ => []
  | .tell _ t => [t]
  | .read _ ts => ts
def spWithin (K : PySem.W.Frag) : Sp := fun vs H Q _ => ∃ (v : V) (t : Tr), vs = [v] ∧ Dq (Seq2 K H) v (td t) ∧ ∀ b us H', Same H H' → H' b = some (.lst us) → DqA (Seq2 K H') us (tds (kids t)) → Q (.ref b) H'
theorem rd_within (K : PySem.W.Frag) (vs : List V) (H : Hp) (Q : VK) (E : XK) (h : spWithin K vs H Q E) : t_within K { nx := fun _ H' => Q .non H', rt := Q } (start n_within vs) H := by
  obtain ⟨v, t, rfl, hv, q⟩ := h
  cases t with
  | go a b =>
    obtain ⟨c, rfl, hc⟩ := dq_go hv
    refine ⟨.ref c, rfl, _, _, hc, rfl, rfl, _, rfl, by show 0 ≤ sizeLine; decide, fun l hl => ?_⟩
    exact q l [] _ (Same.new hl) upd_same (by rw [kids, tds]; exact .nil)
  | tell k t =>
    obtain ⟨c, u, rfl, hc, hu⟩ := dq_tell hv
    refine ⟨.ref c, rfl, _, _, hc, rfl, rfl, _, rfl, ?_⟩
    refine ⟨.ref c, rfl, _, _, hc, rfl, rfl, _, rfl, ?_⟩
    refine ⟨.ref c, rfl, _, _, hc, rfl, by show 1 ≤ sizeLine; decide, fun l hl => ?_⟩
    have S1 := Same.new (o := .lst [u]) hl
    exact q l _ _ S1 upd_same (by rw [kids, tds, tds]; exact .cons (dq2_same S1 hu) .nil)
  | read p ts =>
    obtain ⟨c, e, us, rfl, hc, he, hu⟩ := dq_read hv
    refine ⟨.ref c, rfl, _, _, hc, rfl, rfl, _, rfl, ?_⟩
    refine ⟨.ref c, rfl, _, _, hc, rfl, rfl, _, rfl, ?_⟩
    refine ⟨.ref c, rfl, _, _, hc, rfl, us, he, fun l hl => ?_⟩
    have S1 := Same.new (o := .lst us) hl
    exact q l _ _ S1 upd_same (dqa2_same S1 hu)
/-! ## checked -/
def spChecked (K : PySem.W.Frag) (d : Nat) : Sp := fun vs H Q _ => ∃ (v : V) (t : Tr) (m w n l k : Nat), vs = [v, .int (m : Nat), .int (w : Nat), .int (n : Nat), .int (l : Nat), .int (k : Nat)] ∧ Dq (Seq2 K H) v (td t) ∧ okT m w n t ∧ m ≤ 1000 ∧ ht t ≤ d ∧ l + d ≤ 41 ∧
  ∀ T H', Same H H' → H' T = some (.tup [.bl false, .int ((k + sz t : Nat) : Int)]) → Q (.ref T) H'
theorem kids_ok {m w n : Nat} : ∀ {t : Tr}, okT m w n t → ∀ s ∈ kids t, okT m w n s
  | .go _ _, _, s, h => by cases h
  | .tell _ t, h, s, hs => by rw [okT] at h; rw [List.mem_singleton.mp hs]; exact h.2
  | .read _ ts, h, s, hs => by rw [okT] at h; exact okTs_iff.mp h.2.2 s hs
theorem kids_ht : ∀ {t : Tr}, ∀ s ∈ kids t, ht s + 1 ≤ ht t
  | .go _ _, s, h => by cases h
  | .tell _ t, s, hs => by rw [List.mem_singleton.mp hs, ht]; exact Nat.le_refl _
  | .read _ ts, s, hs => by rw [ht]; exact Nat.succ_le_succ (hts_le hs)
theorem sz_kids : ∀ t : Tr, sz t = szs (kids t) + 1
  | .go _ _ => by rw [sz, kids, szs]
  | .tell _ t => by rw [sz, kids, szs, szs]
  | .read _ ts => by rw [sz, kids]
theorem szs_take (ts : List Tr) : ∀ i, (h : i < ts.length) → szs (ts.take (i + 1)) = szs (ts.take i) + sz ts[i] := fun i h => by
  have key : ∀ a b : List Tr, szs (a ++ b) = szs a + szs b := fun a => by
    induction a with
    | nil => intro b; rw [List.nil_append, szs]; omega
    | cons x r ih => intro b; rw [List.cons_append, szs, szs, ih]; omega
  rw [List.take_add_one, List.getElem?_eq_getElem h, key]
  show _ + szs [ts[i]] = _
  rw [szs, szs]; omega
theorem no_checked (K : PySem.W.Frag) : ∀ vs H Q E, spChecked K 0 vs H Q E → False := by
  rintro _ _ _ _ ⟨v, t, m, w, n, l, k, _, _, _, _, h, _⟩
  have := ht_pos t
  omega
theorem rd_checked (K : PySem.W.Frag) (d : Nat) (vs : List V) (H : Hp) (Q : VK) (E : XK) (h : spChecked K (d + 1) vs H Q E) : t_checked K (spHead K) (spWithin K) (spChecked K d) { nx := fun _ H' => Q .non H', rt := Q } (start n_checked vs) H := by
  obtain ⟨v, t, m, w, n, l, k, rfl, hv, hok, hm, hd, hl, q⟩ := h
  refine ⟨.int (l : Nat), rfl, _, rfl, ?_⟩
  have e0 : decide ((40 : Int) < (l : Nat)) = false := decide_eq_false (by omega)
  rw [e0]
  refine ⟨v, rfl, .int (m : Nat), rfl, .int (w : Nat), rfl, .int (n : Nat), rfl, v, t, m, w, n, rfl, hv, hok, hm, fun H1 S1 => ?_⟩
  refine ⟨.int (k : Nat), rfl, v, rfl, v, t, rfl, dq2_same S1 hv, fun b us H2 S2 hb hus => ?_⟩
  replace S2 := S1.trans S2
  have lus : us.length = (kids t).length := by rw [dqa_len hus, tds_map, List.length_map]
  refine .inl ⟨us, SqL.of hb, ?_⟩
  refine for_list (K := K) (a := b) (xs := us) (fun i σ H' => Same H2 H' ∧ ∃ v6 v7, σ = [some v, some (.int (m : Nat)), some (.int (w : Nat)), some (.int (n : Nat)), some (.int (l : Nat)), some (.int ((k + 1 + szs ((kids t).take i) : Nat) : Int)), v6, v7]) ⟨Same.refl _, none, none, by rw [List.take_zero, szs]; rfl⟩ (fun i σ H' _ h => SqL.of (h.1 _ _ hb)) ?_ ?_
  · rintro i x σ H3 hx ⟨S3, v6, v7, rfl⟩
    have hi : i < (kids t).length := by rw [← lus]; exact (List.getElem?_eq_some_iff.mp hx).1
    obtain ⟨dd, h1, h2⟩ := dqa_get hus hx
    rw [tds_map, List.getElem?_map, List.getElem?_eq_getElem hi] at h1
    obtain rfl : td (kids t)[i] = dd := Option.some.inj h1
    have hm2 := List.getElem_mem hi
    have hht := kids_ht _ hm2
    refine ⟨x, rfl, .int (m : Nat), rfl, .int (w : Nat), rfl, .int (n : Nat), rfl, .int (l : Nat), rfl, _, rfl, x, (kids t)[i], m, w, n, l + 1, _, rfl, dq2_same S3 h2, kids_ok hok _ hm2, hm, by omega, by omega, fun T H4 S4 hT => ?_⟩
    refine ⟨T, _, rfl, SqT.of hT, rfl, _, _, rfl, _, _, rfl, rfl, ?_⟩
    refine ⟨.bl false, rfl, ?_⟩
    refine ⟨S3.trans S4, some x, some (.bl false), ?_⟩
    rw [szs_take _ i hi, ← Nat.add_assoc]
    rfl
  · rintro σ H3 ⟨S3, v6, v7, rfl⟩
    refine ⟨_, rfl, by show 2 ≤ sizeLine; decide, fun T hT => ?_⟩
    refine q T _ (Same.new' (S2.trans S3) hT) ?_
    rw [upd_same, List.take_of_length_le (by omega), sz_kids]
    congr 3
    congr 1
    congr 1
    omega
/-! ## a list made of another one, thing by thing -/
theorem kp_new {D : Addr} {H H' : Hp} {o : HO} (h : Kp D (upd H D o) H') : Kp D H H' := fun c u n e => h c u n (by rw [upd_ne n]; exact e)
theorem map_lc {J : It} {G : Hp → Prop} {us : List V} (w : Walk J us.length G (YAt us)) {σ : L2.St} {s : Nat} {te : TE} {H1 : Hp} {D : Addr} (hD : H1 D = none) (few : us.length ≤ 9000) (hG : ∀ H', Same H1 H' → G H')
    (P : Nat → V → Hp → Prop) (stable : ∀ i y H H', (∃ xs, H D = some (.lst xs)) → Kp D H H' → P i y H → P i y H')
    (e4 : ∀ x, wipe ((wipe σ [s]).set s (some x)) [s] = wipe σ [s])
    (step : ∀ i x H', us[i]? = some x → Same H1 H' → (∃ ac, H' D = some (.lst ac)) → ∀ Q : VK, (∀ y H'', Same H' H'' → P i y H'' → Q y H'') → te ((wipe σ [s]).set s (some x)) H' Q)
    {Qd : Hp → Prop} (fin : ∀ acc H', Same H1 H' → H' D = some (.lst acc) → acc.length = us.length → (∀ i y, acc[i]? = some y → P i y H') → Qd H') :
    ∃ W : Nat → Nat → Hp → Prop, (∃ m, W 0 m (upd H1 D (.lst []))) ∧ ∀ i m H, W i m H →
      (J.stop i H ∧ Qd H) ∨ (J.go i H ∧ ∃ Nx : Hp → Prop, (∀ H', Nx H' → ∃ m', m' < m ∧ W (i + 1) m' H') ∧ ∀ x H', J.yld i H x H' → gName s x (wipe σ [s]) H' fun σ2 H2 => wipe σ2 [s] = wipe σ [s] ∧ tYes σ2 H2 fun b H3 =>
        if b = true then te σ2 H3 fun y H4 => ∃ acc, H4 D = some (.lst acc) ∧ acc.length < sizeLine ∧ Nx (upd H4 D (.lst (acc ++ [y]))) else Nx H3) := by
  refine lcW w (I := fun i acc H' => i ≤ us.length ∧ acc.length = i ∧ Same H1 H' ∧ ∀ H2, Kp D H' H2 → (∃ xs, H2 D = some (.lst xs)) → ∀ j y, acc[j]? = some y → P j y H2)
    (fun i acc H' u h => ⟨h.1, h.2.1, Same.mut h.2.2.1 hD, fun H2 kp => h.2.2.2 H2 (kp_new kp)⟩) (fun i acc H' _ h => hG _ h.2.2.1) ⟨Nat.zero_le _, rfl, Same.refl _, fun _ _ _ j y e => by simp at e⟩
    (fun i acc H' h => by have := h.1; have := h.2.1; omega) (fun i x acc H' H2 hi hI hacc y K1 K2 k1 k2 => ?_) (fun acc H' hacc hI => ?_)
  · obtain ⟨rfl, hx⟩ := y
    obtain ⟨h0, hl, S1, hP⟩ := hI
    refine ⟨e4 _, ?_⟩
    refine step i x H2 hx S1 ⟨_, hacc⟩ _ fun y H3 S3 py => ?_
    refine k1 _ _ (S3 _ _ hacc) ⟨hi, by rw [List.length_append, hl]; rfl, S1.trans S3, fun H4 kp at4 j z e => ?_⟩
    by_cases hj : j < acc.length
    · rw [List.getElem?_append_left hj] at e
      exact hP H4 ((Kp.of S3).trans kp) at4 j z e
    · rw [List.getElem?_append_right (by omega)] at e
      have hj2 : j - acc.length = 0 := by
        have := (List.getElem?_eq_some_iff.mp e).1
        simp at this; omega
      rw [hj2] at e
      obtain rfl : y = z := by simpa using e
      obtain rfl : j = i := by omega
      exact stable _ _ _ _ ⟨_, S3 _ _ hacc⟩ kp py
  · obtain ⟨h0, hl, S1, hP⟩ := hI
    exact fin acc H' S1 hacc hl fun i y e => hP H' (Kp.refl D H') ⟨_, hacc⟩ i y e
theorem dqa_of {S : Addr → List V → Prop} : ∀ {acc : List V} {ds : List PyData}, acc.length = ds.length → (∀ (i : Nat) (y : V) (d : PyData), acc[i]? = some y → ds[i]? = some d → Dq S y d) → DqA S acc ds
  | [], [], _, _ => .nil
  | y :: r, d :: e, hl, h => .cons (h 0 y d rfl rfl) (dqa_of (by simpa using hl) fun i z f h1 h2 => h (i + 1) z f (by simpa using h1) (by simpa using h2))
theorem dq_kp {K : PySem.W.Frag} {D : Addr} {H H' : Hp} {xs : List V} (hD : H D = some (.lst xs)) (kp : Kp D H H') {v : V} {d : PyData} (h : Dq (SqT K H) v d) : Dq (SqT K H') v d :=
  dq_mono (fun a ys hs => sqT_kp kp (fun o e => by rw [hD] at e; cases e; exact ⟨fun _ => (fun z => by cases z), fun _ _ => (fun z => by cases z)⟩) hs) h
/-! ## kept -/
def spKept (K : PySem.W.Frag) (d : Nat) : Sp := fun vs H Q _ => ∃ (v : V) (t : Tr) (m w n : Nat), vs = [v] ∧ Dq (Seq2 K H) v (td t) ∧ okT m w n t ∧ m ≤ 1000 ∧ ht t ≤ d ∧ ∀ y H', Same H H' → Dq (SqT K H') y (td t) → Q y H'
theorem no_kept (K : PySem.W.Frag) : ∀ vs H Q E, spKept K 0 vs H Q E → False := by
  rintro _ _ _ _ ⟨v, t, m, w, n, _, _, _, _, h, _⟩
  have := ht_pos t
  omega
theorem kept_all {K : PySem.W.Frag} {d : Nat} {us : List V} {ts : List Tr} {J : It} {G : Hp → Prop} (w : Walk J us.length G (YAt us)) {σ : L2.St} {s : Nat} {H1 : Hp} {D : Addr} (hD : H1 D = none) (hG : ∀ H', Same H1 H' → G H')
    (hus : DqA (Seq2 K H1) us (tds ts)) {m w' n : Nat} (hok : ∀ t ∈ ts, okT m w' n t) (hm : m ≤ 1000) (hd : ∀ t ∈ ts, ht t ≤ d) (few : ts.length ≤ 9000) (e4 : ∀ x, wipe ((wipe σ [s]).set s (some x)) [s] = wipe σ [s]) (e5 : ∀ x, ((wipe σ [s]).set s (some x))[s]? = some (some x))
    {Qd : Hp → Prop} (fin : ∀ acc H', Same H1 H' → H' D = some (.lst acc) → DqA (SqT K H') acc (tds ts) → Qd H') :
    ∃ W : Nat → Nat → Hp → Prop, (∃ m, W 0 m (upd H1 D (.lst []))) ∧ ∀ i m H, W i m H →
      (J.stop i H ∧ Qd H) ∨ (J.go i H ∧ ∃ Nx : Hp → Prop, (∀ H', Nx H' → ∃ m', m' < m ∧ W (i + 1) m' H') ∧ ∀ x H', J.yld i H x H' → gName s x (wipe σ [s]) H' fun σ2 H2 => wipe σ2 [s] = wipe σ [s] ∧ tYes σ2 H2 fun b H3 =>
        if b = true then tCall (spKept K d) [] E0 (tCons (tVar s) tNil) σ2 H3 fun y H4 => ∃ acc, H4 D = some (.lst acc) ∧ acc.length < sizeLine ∧ Nx (upd H4 D (.lst (acc ++ [y]))) else Nx H3) := by
  have lus : us.length = ts.length := by rw [dqa_len hus, tds_map, List.length_map]
  refine map_lc w hD (by omega) hG (fun i y H => ∀ d, (tds ts)[i]? = some d → Dq (SqT K H) y d) (fun i y H H' ⟨xs, hx⟩ kp h d e => dq_kp hx kp (h d e)) e4 (fun i x H' hx S _ Q k => ?_) (fun acc H' S hacc hl hP => fin acc H' S hacc (dqa_of (by rw [hl, dqa_len hus]) fun i y d h1 h2 => hP i y h1 d h2))
  obtain ⟨dd, h1, h2⟩ := dqa_get hus hx
  have hi : i < ts.length := by rw [← lus]; exact (List.getElem?_eq_some_iff.mp hx).1
  have h3 := h1
  rw [tds_map, List.getElem?_map, List.getElem?_eq_getElem hi] at h3
  obtain rfl : td ts[i] = dd := Option.some.inj h3
  have hm2 := List.getElem_mem hi
  refine ⟨x, e5 _, x, ts[i], m, w', n, rfl, dq2_same S h2, hok _ hm2, hm, hd _ hm2, fun y H2 S2 hy => k y H2 S2 fun d e => ?_⟩
  rw [h1] at e
  cases e
  exact hy
theorem rd_kept (K : PySem.W.Frag) (d : Nat) (vs : List V) (H : Hp) (Q : VK) (E : XK) (h : spKept K (d + 1) vs H Q E) : t_kept K (spKept K d) { nx := fun _ H' => Q .non H', rt := Q } (start n_kept vs) H := by
  obtain ⟨v, t, m, w, n, rfl, hv, hok, hm, hd, q⟩ := h
  cases t with
  | go a b =>
    obtain ⟨c, rfl, hc⟩ := dq_go hv
    refine ⟨.ref c, rfl, _, _, hc, rfl, rfl, _, rfl, ?_⟩
    rcases hc with hc | hc
    · exact ⟨.ref c, rfl, _, .inl ⟨hc, fun l hl => q _ _ (Same.new hl) (mk_go (SqT.of upd_same))⟩⟩
    · exact ⟨.ref c, rfl, _, .inr ⟨hc, q _ _ (Same.refl _) (mk_go hc)⟩⟩
  | tell k t =>
    obtain ⟨c, u, rfl, hc, hu⟩ := dq_tell hv
    rw [okT] at hok
    rw [ht] at hd
    refine ⟨.ref c, rfl, _, _, hc, rfl, rfl, _, rfl, ?_⟩
    refine ⟨.ref c, rfl, _, _, hc, rfl, rfl, _, rfl, ?_⟩
    refine ⟨.ref c, rfl, _, _, hc, rfl, .ref c, rfl, _, _, hc, rfl, .ref c, rfl, _, _, hc, rfl, u, t, m, w, n, rfl, hu, hok.2, hm, by omega, fun y H1 S1 hy => ⟨by show 3 ≤ sizeLine; decide, fun T hT => ?_⟩⟩
    exact q (.ref T) _ (Same.new' S1 hT) (mk_tell (SqT.of upd_same) (dq_same (Same.new hT) hy))
  | read p ts =>
    obtain ⟨c, e, us, rfl, hc, he, hu⟩ := dq_read hv
    rw [okT] at hok
    rw [ht] at hd
    refine ⟨.ref c, rfl, _, _, hc, rfl, rfl, _, rfl, ?_⟩
    refine ⟨.ref c, rfl, _, _, hc, rfl, rfl, _, rfl, ?_⟩
    refine ⟨.ref c, rfl, _, _, hc, rfl, .ref c, rfl, _, _, hc, rfl, .ref c, rfl, _, _, hc, rfl, ?_⟩
    have last : ∀ (D : Addr) (acc : List V) (H' : Hp), Same H H' → H' D = some (.lst acc) → DqA (SqT K H') acc (tds ts) → rTup1 K [.ref D] H' fun z H2 => 3 ≤ sizeLine ∧ ∀ T, H2 T = none → Q (.ref T) (upd H2 T (.tup [tx kRead, .int (p : Nat), z])) := fun D acc H' S hacc hA => by
      refine ⟨acc, .inl ⟨SqL.of hacc, fun l hl => ⟨by decide, fun T hT => ?_⟩⟩⟩
      have hlT : l ≠ T := ne_of_none upd_same hT
      refine q _ _ (Same.new' (Same.new' S hl) hT) (mk_read (e := l) (us := acc) (SqT.of upd_same) (SqT.of (by rw [upd_ne hlT]; exact upd_same)) (dqa_same ((Same.new hl).trans (Same.new hT)) hA))
    have hh : ∀ t ∈ ts, ht t ≤ d := fun t h => Nat.le_trans (hts_le h) (by omega)
    rcases he with he | he
    · exact .inl ⟨us, he, fun D hD => kept_all walk_list hD (fun H' S => S.seq he) hu (okTs_iff.mp hok.2.2) hm hh (by rw [hok.2.1]; omega) (fun _ => rfl) (fun _ => rfl) fun acc H' S hacc hA => last D acc H' S hacc hA⟩
    · exact .inr ⟨us, he, fun D hD => kept_all walk_tup hD (fun H' S => sqT_same S he) hu (okTs_iff.mp hok.2.2) hm hh (by rw [hok.2.1]; omega) (fun _ => rfl) (fun _ => rfl) fun acc H' S hacc hA => last D acc H' S hacc hA⟩
/-! ## the class -/
structure CF (K : PySem.W.Frag) (C : Addr) : Prop where
  cl : Cls K C
  nL : NoAttr K C "letters"
  nW : NoAttr K C "width"
  nS : NoAttr K C "states"
  nN : NoAttr K C "nodes"
  ha : PySem.W.findIn K (.ref C) "__class__" = some (some (.builtin "object.__class__"))
  hn : PySem.W.specialIn K (.builtin "object.__class__") "__get__" = some (some (.builtin "getset_descriptor.__get__"))
  htk : PySem.W.takesIn K (.builtin "object.__class__") = some true
  hm : PySem.W.mroIn K C (.type "object") = some true
  kT : PySem.W.kitOne K (.type "tuple") (.ref C) = some false
theorem kT_of {K : PySem.W.Frag} {C : Addr} (h1 : PySem.W.isClsIn K C = true) (h2 : PySem.W.typeIn K (.ref C) = some (.type "type")) : PySem.W.kitOne K (.type "tuple") (.ref C) = some false := by
  have e : fastBuiltinMro "tuple" = some [.type "tuple", .type "object"] := by decide +kernel
  have e2 : PySem.W.subIn K (.type "tuple") (.ref C) = some false := by
    show (fastBuiltinMro "tuple").map (·.contains (.ref C)) = some false
    rw [e]
    first
      | rfl
      | simp
  have h1 : (PySem.W.clsIn K C).isSome = true := h1
  unfold PySem.W.kitOne
  rw [if_neg (show ¬ ((Value.type "tuple" == Value.ref C) = true) from Bool.false_ne_true)]
  show (if ((PySem.W.clsIn K C).isSome && PySem.W.typeIn K (.ref C) == some (.type "type")) = true then PySem.W.subIn K (.type "tuple") (.ref C) else none) = some false
  rw [h1, h2]
  exact (if_pos (by rfl)).trans e2
def sf (L : List Nat) (w : Nat) (b : Addr) (n : Nat) : List (Str × V) := [("letters", tx L), ("width", .int (w : Nat)), ("states", .ref b), ("nodes", .int (n : Nat))]
theorem ne_lw : ¬ (("letters" : Str) = "width") := by decide +kernel
theorem ne_ls : ¬ (("letters" : Str) = "states") := by decide +kernel
theorem ne_ln : ¬ (("letters" : Str) = "nodes") := by decide +kernel
theorem ne_ws : ¬ (("width" : Str) = "states") := by decide +kernel
theorem ne_wn : ¬ (("width" : Str) = "nodes") := by decide +kernel
theorem ne_sn : ¬ (("states" : Str) = "nodes") := by decide +kernel
def fl1 (x : V) : List (Str × V) := [("letters", x)]
def fl2 (x y : V) : List (Str × V) := [("letters", x), ("width", y)]
def fl3 (x y z : V) : List (Str × V) := [("letters", x), ("width", y), ("states", z)]
theorem put1 (x : V) : putF "letters" x [] = fl1 x := rfl
theorem put2 (x y : V) : putF "width" y (fl1 x) = fl2 x y := by
  show (if ("letters" : Str) = "width" then [(("letters" : Str), y)] else (("letters" : Str), x) :: putF "width" y []) = fl2 x y
  rw [if_neg ne_lw]; rfl
theorem put3 (x y z : V) : putF "states" z (fl2 x y) = fl3 x y z := by
  show (if ("letters" : Str) = "states" then _ else (("letters" : Str), x) :: (if ("width" : Str) = "states" then [(("width" : Str), z)] else (("width" : Str), y) :: putF "states" z [])) = fl3 x y z
  rw [if_neg ne_ls, if_neg ne_ws]; rfl
theorem put4 (L : List Nat) (w : Nat) (b : Addr) (n : Nat) : putF "nodes" (.int (n : Nat)) (fl3 (tx L) (.int (w : Nat)) (.ref b)) = sf L w b n := by
  show (if ("letters" : Str) = "nodes" then _ else (("letters" : Str), tx L) :: (if ("width" : Str) = "nodes" then _ else (("width" : Str), V.int (w : Nat)) :: (if ("states" : Str) = "nodes" then [(("states" : Str), V.int (n : Nat))] else (("states" : Str), V.ref b) :: putF "nodes" (.int (n : Nat)) []))) = sf L w b n
  rw [if_neg ne_ln, if_neg ne_wn, if_neg ne_sn]; rfl
theorem sfL (L : List Nat) (w : Nat) (b : Addr) (n : Nat) : (sf L w b n).lookup ("letters" : Str) = some (tx L) := by
  unfold sf
  rw [List.lookup_cons, beq_self_eq_true]
theorem sfW (L : List Nat) (w : Nat) (b : Addr) (n : Nat) : (sf L w b n).lookup ("width" : Str) = some (.int (w : Nat)) := by
  unfold sf
  rw [List.lookup_cons, beq_eq_false_iff_ne.mpr (fun e => ne_lw e.symm), List.lookup_cons, beq_self_eq_true]
theorem sfS (L : List Nat) (w : Nat) (b : Addr) (n : Nat) : (sf L w b n).lookup ("states" : Str) = some (.ref b) := by
  unfold sf
  rw [List.lookup_cons, beq_eq_false_iff_ne.mpr (fun e => ne_ls e.symm), List.lookup_cons, beq_eq_false_iff_ne.mpr (fun e => ne_ws e.symm), List.lookup_cons, beq_self_eq_true]
theorem sfN (L : List Nat) (w : Nat) (b : Addr) (n : Nat) : (sf L w b n).lookup ("nodes" : Str) = some (.int (n : Nat)) := by
  unfold sf
  rw [List.lookup_cons, beq_eq_false_iff_ne.mpr (fun e => ne_ln e.symm), List.lookup_cons, beq_eq_false_iff_ne.mpr (fun e => ne_wn e.symm), List.lookup_cons, beq_eq_false_iff_ne.mpr (fun e => ne_sn e.symm), List.lookup_cons, beq_self_eq_true]
theorem sqT_ins {K : PySem.W.Frag} {x C dx : Addr} {fs : List (Str × V)} {H H' : Hp} (hx : H x = some (.ins C dx fs)) (kp : Kp x H H') {a : Addr} {xs : List V} (h : SqT K H a xs) : SqT K H' a xs :=
  sqT_kp kp (fun o e => by rw [hx] at e; cases e; exact ⟨fun _ => (fun z => by cases z), fun _ _ => (fun z => by cases z)⟩) h
theorem seq2_ins {K : PySem.W.Frag} {x C dx : Addr} {fs : List (Str × V)} {H H' : Hp} (hx : H x = some (.ins C dx fs)) (kp : Kp x H H') {a : Addr} {xs : List V} (h : Seq2 K H a xs) : Seq2 K H' a xs :=
  h.imp (fun h => sqL_kp kp (fun o e => by rw [hx] at e; cases e; exact ⟨fun _ => (fun z => by cases z), fun _ _ => (fun z => by cases z)⟩) h) fun h => sqT_ins hx kp h
def spInit (K : PySem.W.Frag) (C : Addr) (d : Nat) : Sp := fun vs H Q _ => ∃ (x dx : Addr) (L : List Nat) (w : Nat) (a : Addr) (us : List V) (ts : List Tr), vs = [.ref x, tx L, .int (w : Nat), .ref a] ∧ H x = some (.ins C dx []) ∧ LetOk L ∧ 1 ≤ w ∧ w ≤ 8 ∧ Seq2 K H a us ∧
  DqA (Seq2 K H) us (tds ts) ∧ (∀ t ∈ ts, okT L.length w ts.length t ∧ ht t ≤ d) ∧ 1 ≤ ts.length ∧ ts.length ≤ 64 ∧ szs ts ≤ 3000 ∧
  ∀ b H', Kp x H H' → H' x = some (.ins C dx (sf L w b (szs ts))) → Dq (SqT K H') (.ref b) (.tuple (tds ts)) → Q .non H'
theorem rd_init (K : PySem.W.Frag) (C : Addr) (T : CF K C) (vs : List V) (H : Hp) (Q : VK) (E : XK) (d : Nat) (hd40 : d ≤ 40) (h : spInit K C d vs H Q E) : t_Searcher__init K spCl (spNum K) (spChecked K d) (spKept K d) { nx := fun _ H' => Q .non H', rt := Q } (start n_Searcher__init vs) H := by
  obtain ⟨x, dx, L, w, a, us, ts, rfl, hx, hL, w0, w1, ha, hus, hok, n0, n1, hsz, q⟩ := h
  have lus : us.length = ts.length := by rw [dqa_len hus, tds_map, List.length_map]
  have hL4 := hL.2.1
  refine ⟨tx L, rfl, L, rfl, hL, fun H1 S1 => ?_⟩
  refine ⟨.int (w : Nat), rfl, (w : Nat), 1, 8, rfl, by omega, by omega, ?_⟩
  refine ⟨.ref a, rfl, us, ha.same S1, _, rfl, ?_⟩
  rw [decide_eq_true (show (1 : Int) ≤ (us.length : Nat) by omega)]
  refine ⟨_, rfl, ?_⟩
  rw [decide_eq_true (show ((us.length : Nat) : Int) ≤ 64 by omega)]
  obtain ⟨G, hG⟩ := src2 (ha.same S1)
  refine ⟨.ref a, rfl, _, _, _, _, rfl, (hG _ (Same.refl H1)).1, ?_⟩
  refine for_it walk_E (fun i σ H' => Same H1 H' ∧ ∃ v5 v6 v7 v8, σ = [some (.ref x), some (tx L), some (.int (w : Nat)), some (.ref a), some (.int ((szs (ts.take i) : Nat) : Int)), v5, v6, v7, v8]) ⟨Same.refl H1, none, none, none, none, by rw [List.take_zero, szs]; rfl⟩ (fun i σ H' _ h => (hG _ h.1).2) ?_ ?_
  · rintro i y σ H2 H3 hi ⟨S2, v5, v6, v7, v8, rfl⟩ ⟨T1, z, rfl, hT1, rfl, hz⟩
    have hit : i < ts.length := by omega
    obtain ⟨dd, h1, h2⟩ := dqa_get hus hz
    rw [tds_map, List.getElem?_map, List.getElem?_eq_getElem hit] at h1
    obtain rfl : td ts[i] = dd := Option.some.inj h1
    obtain ⟨ok1, ok2⟩ := hok _ (List.getElem_mem hit)
    have S3 := (S1.trans S2).trans (Same.new (o := .tup [.int (i : Nat), z]) hT1)
    refine ⟨T1, _, rfl, SqT.of upd_same, rfl, _, _, rfl, _, _, rfl, rfl, ?_⟩
    refine ⟨z, rfl, tx L, rfl, by rw [tl_sx]; omega, .int (w : Nat), rfl, .ref a, rfl, us, ha.same S3, z, ts[i], L.length, w, ts.length, 1, 0, by rw [lus]; rfl, dq2_same S3 h2, ok1, by omega, ok2, by omega, fun T2 H4 S4 hT2 => ?_⟩
    refine ⟨T2, _, rfl, SqT.of hT2, rfl, _, _, rfl, _, _, rfl, rfl, ?_⟩
    refine ⟨.bl false, rfl, .int ((szs (ts.take i) : Nat) : Int), rfl, _, rfl, ?_⟩
    refine ⟨(Same.new' S2 hT1).trans S4, some (.int (i : Nat)), some z, some (.bl false), some (.int ((0 + sz ts[i] : Nat) : Int)), ?_⟩
    rw [szs_take _ i hit, Nat.zero_add]
    rfl
  · rintro σ H2 ⟨S2, v5, v6, v7, v8, rfl⟩
    rw [List.take_of_length_le (by omega)]
    refine ⟨_, rfl, _, rfl, ?_⟩
    rw [decide_eq_false (show ¬ (3000 : Int) < ((szs ts : Nat) : Int) by omega)]
    have S12 := S1.trans S2
    have hx2 := S12 _ _ hx
    refine ⟨tx L, rfl, .ref x, rfl, x, C, dx, _, rfl, hx2, T.cl, T.nL, by simp, ?_⟩
    rw [put1]
    refine ⟨.int (w : Nat), rfl, .ref x, rfl, x, C, dx, _, rfl, upd_same, T.cl, T.nW, by simp [fl1], ?_⟩
    rw [put2]
    generalize hH4 : upd (upd H2 x (.ins C dx (fl1 (tx L)))) x (.ins C dx (fl2 (tx L) (.int (w : Nat)))) = H4
    have kp4 : Kp x H H4 := by
      rw [← hH4]
      exact ((Kp.of S12).trans (kp_upd _)).trans (kp_upd _)
    have hx4 : H4 x = some (.ins C dx (fl2 (tx L) (.int (w : Nat)))) := by rw [← hH4]; exact upd_same
    have ha4 := seq2_ins hx kp4 ha
    have hus4 : DqA (Seq2 K H4) us (tds ts) := dqa_mono (fun _ _ h => seq2_ins hx kp4 h) hus
    have last : ∀ (D : Addr) (acc : List V) (H' : Hp), Same H4 H' → H' D = some (.lst acc) → DqA (SqT K H') acc (tds ts) → rTup1 K [.ref D] H' fun z H5 => ∃ x' C' dx' fs, V.ref x = .ref x' ∧ H5 x' = some (.ins C' dx' fs) ∧ Cls K C' ∧ NoAttr K C' "states" ∧ fs.length < 1000 ∧
        (sFld K (tVar 0) (tVar 4) "nodes") { nx := fun _ H' => Q .non H', rt := Q } [some (.ref x), some (tx L), some (.int (w : Nat)), some (.ref a), some (.int ((szs ts : Nat) : Int)), v5, v6, v7, v8] (upd H5 x' (.ins C' dx' (putF "states" z fs))) := fun D acc H' S hacc hA => by
      refine ⟨acc, .inl ⟨SqL.of hacc, fun b hb => ?_⟩⟩
      have hx5 := (Same.new' (o := .tup acc) S hb) _ _ hx4
      refine ⟨x, C, dx, _, rfl, hx5, T.cl, T.nS, by simp [fl2], ?_⟩
      rw [put3]
      refine ⟨_, rfl, .ref x, rfl, x, C, dx, _, rfl, upd_same, T.cl, T.nN, by simp [fl3], ?_⟩
      rw [put4]
      have kp5 : Kp x H (upd H' b (.tup acc)) := kp4.trans (Kp.of (Same.new' S hb))
      refine q b _ ((kp5.trans (kp_upd _)).trans (kp_upd _)) upd_same ?_
      have hb5 : Dq (SqT K (upd H' b (.tup acc))) (.ref b) (.tuple (tds ts)) := .tup (SqT.of upd_same) (dqa_same (Same.new hb) hA)
      exact dq_mono (fun _ _ h => sqT_ins hx5 ((kp_upd _).trans (kp_upd _)) h) hb5
    have hok1 : ∀ t ∈ ts, okT L.length w ts.length t := fun t h => (hok t h).1
    have hok2 : ∀ t ∈ ts, ht t ≤ d := fun t h => (hok t h).2
    rcases ha4 with ha4 | ha4
    · exact ⟨.ref a, rfl, .inl ⟨us, ha4, fun D hD => kept_all walk_list hD (fun H' S => S.seq ha4) hus4 hok1 (by omega) hok2 (by omega) (fun _ => rfl) (fun _ => rfl) fun acc H' S hacc hA => (last D acc H' S hacc hA).imp fun ys h => h.imp (fun h => ⟨h.1, fun l hl => ⟨.ref x, rfl, h.2 l hl⟩⟩) (fun h => ⟨h.1, ⟨.ref x, rfl, h.2⟩⟩)⟩⟩
    · exact ⟨.ref a, rfl, .inr ⟨us, ha4, fun D hD => kept_all walk_tup hD (fun H' S => sqT_same S ha4) hus4 hok1 (by omega) hok2 (by omega) (fun _ => rfl) (fun _ => rfl) fun acc H' S hacc hA => (last D acc H' S hacc hA).imp fun ys h => h.imp (fun h => ⟨h.1, fun l hl => ⟨.ref x, rfl, h.2 l hl⟩⟩) (fun h => ⟨h.1, ⟨.ref x, rfl, h.2⟩⟩)⟩⟩
/-! ## == -/
def SrV (C : Addr) (H : Hp) (a : Addr) (L : List Nat) (w : Nat) (b : Addr) (n : Nat) : Prop := ∃ dx, H a = some (.ins C dx (sf L w b n))
def spEq (K : PySem.W.Frag) (C : Addr) : Sp := fun vs H Q _ => ∃ (a : Addr) (y : V) (L : List Nat) (w : Nat) (b : Addr) (n : Nat) (D : List PyData), vs = [.ref a, y] ∧ SrV C H a L w b n ∧ Dp K H (.ref b) (.tuple D) ∧ noB (.tuple D) = true ∧ (PyData.tuple D).depth < 160 ∧
  ((∃ (a2 : Addr) (L2 : List Nat) (w2 : Nat) (b2 : Addr) (n2 : Nat) (D2 : List PyData), y = .ref a2 ∧ SrV C H a2 L2 w2 b2 n2 ∧ Dp K H (.ref b2) (.tuple D2) ∧ noB (.tuple D2) = true ∧ ∀ r : Bool, (r = true ↔ L = L2 ∧ w = w2 ∧ D = D2) → Q (.bl r) H) ∨
   (∃ c ys, y = .ref c ∧ SqT K H c ys ∧ Q (.bl false) H))
theorem rd_eq (K : PySem.W.Frag) (C : Addr) (T : CF K C) (vs : List V) (H : Hp) (Q : VK) (E : XK) (h : spEq K C vs H Q E) : t_Searcher__eq K C { nx := fun _ H' => Q .non H', rt := Q } (start n_Searcher__eq vs) H := by
  obtain ⟨a, y, L, w, b, n, D, rfl, ⟨dx, ha⟩, hb, nb, hd, ⟨a2, L2, w2, b2, n2, D2, rfl, ⟨dx2, ha2⟩, hb2, nb2, q⟩ | ⟨c, ys, rfl, hc, q⟩⟩ := h
  · refine ⟨.ref a2, rfl, .inl ⟨_, true, .base (.ins ha2 T.cl T.ha T.hn T.htk T.hm), by unfold PySem.W.kitOne; rw [if_pos (beq_self_eq_true _)], ?_⟩⟩
    refine ⟨.ref a, rfl, a, C, dx, _, tx L, rfl, ha, T.cl, T.nL, sfL L w b n, .ref a2, rfl, a2, C, dx2, _, tx L2, rfl, ha2, T.cl, T.nL, sfL L2 w2 b2 n2, rfl, _, rfl, iteN (fun h1 => ?_) (fun h1 => ?_)⟩
    · exact q false ⟨fun z => (by cases z), fun z => absurd (by rw [z.1]) h1⟩
    · have h1 : L = L2 := tx_inj.mp h1
      refine ⟨.ref a, rfl, a, C, dx, _, .int (w : Nat), rfl, ha, T.cl, T.nW, sfW L w b n, .ref a2, rfl, a2, C, dx2, _, .int (w2 : Nat), rfl, ha2, T.cl, T.nW, sfW L2 w2 b2 n2, rfl, _, rfl, iteD (fun h2 => ?_) (fun h2 => ?_)⟩
      · have h2 : w = w2 := by
          have := V.int.inj h2
          omega
        refine ⟨.ref a, rfl, a, C, dx, _, .ref b, rfl, ha, T.cl, T.nS, sfS L w b n, .ref a2, rfl, a2, C, dx2, _, .ref b2, rfl, ha2, T.cl, T.nS, sfS L2 w2 b2 n2, _, _, hb, hb2, by omega, ?_⟩
        refine q _ ?_
        rw [eqv_noB _ _ nb nb2]
        exact ⟨fun e => ⟨h1, h2, by injection e⟩, fun e => by rw [e.2.2]⟩
      · exact q false ⟨fun z => (by cases z), fun z => absurd (by rw [z.2.1]) h2⟩
  · refine ⟨.ref c, rfl, .inl ⟨_, false, tyx_tup hc, T.kT, ?_⟩⟩
    exact q
/-! ## the law's trees -/
def cnt (e : Nat) : Nat := 2 * 5 ^ e
theorem cnt_succ (e : Nat) : cnt (e + 1) = 5 * cnt e := by unfold cnt; rw [Nat.pow_succ]; omega
theorem cnt_two (e : Nat) : 2 ≤ cnt e := by unfold cnt; have := Nat.pow_pos (n := e) (show 0 < 5 by decide); omega
theorem dq_pn {K : PySem.W.Frag} {p c : Addr} {H H' : Hp} {n m : Nat} (hp : Pen p c H m) (P : Pn p c H n H') {v : V} {d : PyData} (h : Dq (SqT K H) v d) : Dq (SqT K H') v d := dq_mono (fun _ _ h => P.sqT hp h) h
theorem dqa_pn {K : PySem.W.Frag} {p c : Addr} {H H' : Hp} {n m : Nat} (hp : Pen p c H m) (P : Pn p c H n H') {v : List V} {d : List PyData} (h : DqA (SqT K H) v d) : DqA (SqT K H') v d := dqa_mono (fun _ _ h => P.sqT hp h) h
def spTree (K : PySem.W.Frag) (d : Nat) : Sp := fun vs H Q _ => ∃ (p c : Addr) (n0 : Nat) (L : List Nat) (w n dep : Nat), vs = [.ref p, tx L, .int (w : Nat), .int (n : Nat), .int (dep : Nat)] ∧ dep + 1 ≤ d ∧ Pen p c H n0 ∧ n0 + cnt dep < 2 ^ 28 ∧ 1 ≤ L.length ∧ L.length ≤ 4 ∧ w ≤ 100 ∧ 1 ≤ n ∧ n ≤ 100 ∧
  ∀ v t H', Dq (SqT K H') v (td t) → okT L.length w n t → ht t ≤ dep + 1 → Pn p c H (n0 + cnt dep) H' → Q v H'
theorem no_tree (K : PySem.W.Frag) : ∀ vs H Q E, spTree K 0 vs H Q E → False := by
  rintro _ _ _ _ ⟨p, c, n0, L, w, n, dep, _, h, _⟩
  omega
theorem tds_app : ∀ a b : List Tr, tds (a ++ b) = tds a ++ tds b := fun a b => by rw [tds_map, tds_map, tds_map, List.map_append]
theorem tree_lc {K : PySem.W.Frag} {p c : Addr} {H0 : Hp} {n0 : Nat} (hp : Pen p c H0 n0) {J : It} {N : Nat} {Y : Nat → Hp → V → Hp → Prop} (wk : Walk J N (fun _ => True) Y) (quiet : ∀ i H x H', Y i H x H' → H' = H) (hN : N ≤ 1000)
    {σ : L2.St} {s : Nat} {te : TE} {H1 : Hp} {n1 : Nat} (P1 : Pn p c H0 n1 H1) {D : Addr} (hD : H1 D = none) {m w n e : Nat} (room : n1 + N * cnt e < 2 ^ 28)
    (e4 : ∀ x, wipe ((wipe σ [s]).set s (some x)) [s] = wipe σ [s])
    (step : ∀ x H' n', Pn p c H0 n' H' → n' + cnt e < 2 ^ 28 → ∀ Q : VK, (∀ v t H'', Dq (SqT K H'') v (td t) → okT m w n t → ht t ≤ e + 1 → Pn p c H' (n' + cnt e) H'' → Q v H'') → te ((wipe σ [s]).set s (some x)) H' Q)
    {Qd : Hp → Prop} (fin : ∀ acc ts H', H' D = some (.lst acc) → ts.length = N → DqA (SqT K H') acc (tds ts) → (∀ t ∈ ts, okT m w n t ∧ ht t ≤ e + 1) → Pn p c H0 (n1 + N * cnt e) H' → Qd H') :
    ∃ W : Nat → Nat → Hp → Prop, (∃ m, W 0 m (upd H1 D (.lst []))) ∧ ∀ i m H, W i m H →
      (J.stop i H ∧ Qd H) ∨ (J.go i H ∧ ∃ Nx : Hp → Prop, (∀ H', Nx H' → ∃ m', m' < m ∧ W (i + 1) m' H') ∧ ∀ x H', J.yld i H x H' → gName s x (wipe σ [s]) H' fun σ2 H2 => wipe σ2 [s] = wipe σ [s] ∧ tYes σ2 H2 fun b H3 =>
        if b = true then te σ2 H3 fun y H4 => ∃ acc, H4 D = some (.lst acc) ∧ acc.length < sizeLine ∧ Nx (upd H4 D (.lst (acc ++ [y]))) else Nx H3) := by
  have hD0 : H0 D = none := P1.back hD
  refine lcW wk (I := fun i acc H' => i ≤ N ∧ ∃ ts : List Tr, ts.length = i ∧ acc.length = i ∧ (∀ t ∈ ts, okT m w n t ∧ ht t ≤ e + 1) ∧ (∀ H2, Kp D H' H2 → (∃ xs, H2 D = some (.lst xs)) → DqA (SqT K H2) acc (tds ts)) ∧ Pn p c H0 (n1 + i * cnt e) H')
    (fun i acc H' u h => ⟨h.1, h.2.imp fun ts h => ⟨h.1, h.2.1, h.2.2.1, fun H2 kp => h.2.2.2.1 H2 (kp_new kp), h.2.2.2.2.put hp hD0⟩⟩) (fun _ _ _ _ _ => trivial) ⟨Nat.zero_le _, [], rfl, rfl, (fun t h => absurd h List.not_mem_nil), (fun _ _ _ => by rw [tds]; exact .nil), by rw [Nat.zero_mul]; exact P1⟩
    (fun i acc H' h => by obtain ⟨h0, ts, _, h1, _⟩ := h; omega) (fun i x acc H' H2 hi hI hacc y K1 K2 k1 k2 => ?_) (fun acc H' hacc hI => ?_)
  · obtain rfl := quiet _ _ _ _ y
    obtain ⟨h0, ts, l1, l2, hok, hA, P2⟩ := hI
    have hmul : (i + 1) * cnt e ≤ N * cnt e := Nat.mul_le_mul_right _ hi
    rw [Nat.succ_mul] at hmul
    refine ⟨e4 _, step x H2 _ P2 (by omega) _ fun v t H3 hv ok1 ok2 P3 => ?_⟩
    have hDp := P2.pen
    have hacc3 : H3 D = some (.lst acc) := P3.lst hDp hacc
    refine k1 _ _ hacc3 ⟨hi, ts ++ [t], by simp [l1], by simp [l2], fun z hz => ?_, fun H4 kp at4 => ?_, ?_⟩
    · rcases List.mem_append.mp hz with hz | hz
      · exact hok z hz
      · rw [List.mem_singleton.mp hz]; exact ⟨ok1, ok2⟩
    · rw [tds_app]
      refine dqa_app ?_ (by rw [tds, tds]; exact .cons (dq_kp hacc3 kp hv) .nil)
      have h3 := dqa_pn hDp P3 (hA H2 (Kp.refl D H2) ⟨_, hacc⟩)
      exact dqa_mono (fun a ys hs => sqT_kp kp (fun o e => by rw [hacc3] at e; cases e; exact ⟨fun _ => (fun z => by cases z), fun _ _ => (fun z => by cases z)⟩) hs) h3
    · have := P2.trans P3
      rw [Nat.succ_mul, ← Nat.add_assoc]
      exact this
  · obtain ⟨h0, ts, l1, l2, hok, hA, P2⟩ := hI
    exact fin acc ts H' hacc l1 (hA H' (Kp.refl D H') ⟨_, hacc⟩) hok P2
theorem rd_tree (K : PySem.W.Frag) (d : Nat) (vs : List V) (H : Hp) (Q : VK) (E : XK) (h : spTree K (d + 1) vs H Q E) : t__law_tree K spDraw (spTree K d) { nx := fun _ H' => Q .non H', rt := Q } (start n__law_tree vs) H := by
  obtain ⟨p, c, n0, L, w, n, dep, rfl, hd, hp, hn0, l0, l1, w1, m0, m1, q⟩ := h
  have h2 := cnt_two dep
  refine ⟨.int (dep : Nat), rfl, _, rfl, iteD (fun h => ?_) (fun h => ?_)⟩
  · obtain ⟨e, rfl⟩ : ∃ e, dep = e + 1 := ⟨dep - 1, by omega⟩
    have hc := cnt_succ e
    have he2 := cnt_two e
    have hdep : V.int ((((e + 1 : Nat) : Int)) - 1) = V.int (e : Nat) := by congr 1; omega
    refine ⟨.ref p, rfl, p, c, n0, 6, rfl, hp, by omega, by decide, by decide, fun way H1 y0 y1 P1 => ?_⟩
    refine ⟨.int way, rfl, _, rfl, iteD (fun hw => ?_) (fun hw => ?_)⟩
    · refine ⟨.ref p, rfl, .int (w : Nat), rfl, p, c, _, (w : Int) + 1, rfl, P1.pen, by omega, by omega, by omega, fun pl H2 p0 p1 P2 => ?_⟩
      replace P2 := P1.trans P2
      obtain ⟨pn, rfl⟩ : ∃ pn : Nat, pl = pn := ⟨pl.toNat, by omega⟩
      refine ⟨.int (pn : Nat), rfl, tx L, rfl, fun D hD => ?_⟩
      have hmul : L.length * cnt e ≤ 4 * cnt e := Nat.mul_le_mul_right _ l1
      refine tree_lc (K := K) (m := L.length) (w := w) (n := n) (e := e) hp walk_str (fun i H x H' y => y.1) (by show L.length ≤ 1000; omega) P2 hD (by show n0 + 1 + 1 + L.length * cnt e < 2 ^ 28; omega) (fun _ => rfl) (fun x H' n' P' hr Q2 k => ?_) (fun acc ts H' hacc hl hA hok P' => ?_)
      · refine ⟨.ref p, rfl, tx L, rfl, .int (w : Nat), rfl, .int (n : Nat), rfl, _, rfl, p, c, n', L, w, n, e, ?_, by omega, P'.pen, hr, l0, l1, w1, m0, m1, k⟩
        rw [hdep]
        rfl
      · refine ⟨acc, .inl ⟨SqL.of hacc, fun u hu => ⟨by show 3 ≤ sizeLine; decide, fun T hT => ?_⟩⟩⟩
        have huT : u ≠ T := ne_of_none upd_same hT
        refine q _ (.read pn ts) _ (mk_read (e := u) (us := acc) (SqT.of upd_same) (SqT.of (by rw [upd_ne huT]; exact upd_same)) (dqa_same ((Same.new hu).trans (Same.new hT)) hA)) ?_ ?_ ?_
        · rw [okT]
          exact ⟨by omega, hl, okTs_iff.mpr fun t h => (hok t h).1⟩
        · rw [ht]
          exact Nat.succ_le_succ (le_hts fun t h => (hok t h).2)
        · refine ((P'.new hu).new hT).mono ?_
          show n0 + 1 + 1 + L.length * cnt e ≤ _
          omega
    · refine ⟨.int way, rfl, rfl, _, rfl, iteD (fun hw4 => ?_) (fun hw4 => ?_)⟩
      · refine ⟨.ref p, rfl, p, c, _, 3, rfl, P1.pen, by omega, by decide, by decide, fun k H2 k0 k1 P2 => ?_⟩
        replace P2 := P1.trans P2
        obtain ⟨kn, rfl⟩ : ∃ kn : Nat, k = kn := ⟨k.toNat, by omega⟩
        refine ⟨.ref p, rfl, tx L, rfl, .int (w : Nat), rfl, .int (n : Nat), rfl, .int ((e + 1 : Nat) : Int), rfl, p, c, _, L, w, n, e, by rw [hdep]; rfl, by omega, P2.pen, by omega, l0, l1, w1, m0, m1, fun v t H3 hv ok1 ok2 P3 => ⟨by show 3 ≤ sizeLine; decide, fun T hT => ?_⟩⟩
        replace P3 := P2.trans P3
        refine q _ (.tell kn t) _ (mk_tell (SqT.of upd_same) (dq_same (Same.new hT) hv)) (by rw [okT]; exact ⟨by omega, ok1⟩) (by rw [ht]; omega) ((P3.new hT).mono (by omega))
      · refine ⟨.ref p, rfl, .int (w : Nat), rfl, p, c, _, (w : Int) + 1, rfl, P1.pen, by omega, by omega, by omega, fun pl H2 p0 p1 P2 => ?_⟩
        replace P2 := P1.trans P2
        obtain ⟨pn, rfl⟩ : ∃ pn : Nat, pl = pn := ⟨pl.toNat, by omega⟩
        refine ⟨.ref p, rfl, .int (n : Nat), rfl, p, c, _, (n : Int), rfl, P2.pen, by omega, by omega, by omega, fun st H3 s0 s1 P3 => ⟨by show 3 ≤ sizeLine; decide, fun T hT => ?_⟩⟩
        replace P3 := P2.trans P3
        obtain ⟨sn, rfl⟩ : ∃ sn : Nat, st = sn := ⟨st.toNat, by omega⟩
        exact q _ (.go (1 + pn) sn) _ (mk_go (SqT.of upd_same)) (by rw [okT]; omega) (by rw [ht]; omega) ((P3.new hT).mono (by omega))
  · refine ⟨.int 5, rfl, _, rfl, ?_⟩
    refine ⟨.int 5, rfl, rfl, _, rfl, ?_⟩
    refine ⟨.ref p, rfl, .int (w : Nat), rfl, p, c, _, (w : Int) + 1, rfl, hp, by omega, by omega, by omega, fun pl H2 p0 p1 P2 => ?_⟩
    obtain ⟨pn, rfl⟩ : ∃ pn : Nat, pl = pn := ⟨pl.toNat, by omega⟩
    refine ⟨.ref p, rfl, .int (n : Nat), rfl, p, c, _, (n : Int), rfl, P2.pen, by omega, by omega, by omega, fun st H3 s0 s1 P3 => ⟨by show 3 ≤ sizeLine; decide, fun T hT => ?_⟩⟩
    replace P3 := P2.trans P3
    obtain ⟨sn, rfl⟩ : ∃ sn : Nat, st = sn := ⟨st.toNat, by omega⟩
    exact q _ (.go (1 + pn) sn) _ (mk_go (SqT.of upd_same)) (by rw [okT]; omega) (by rw [ht]; omega) ((P3.new hT).mono (by omega))
def spTrees (K : PySem.W.Frag) : Sp := fun vs H Q _ => ∃ (p c : Addr) (n0 : Nat) (L : List Nat) (w n : Nat), vs = [.ref p, tx L, .int (w : Nat), .int (n : Nat), .int 3] ∧ Pen p c H n0 ∧ n0 < 2 ^ 27 ∧ 1 ≤ L.length ∧ L.length ≤ 4 ∧ w ≤ 100 ∧ 1 ≤ n ∧ n ≤ 100 ∧
  ∀ b us ts H', H b = none → H' b = some (.lst us) → DqA (SqT K H') us (tds ts) → ts.length = n → (∀ t ∈ ts, okT L.length w n t ∧ ht t ≤ 4) → Pn p c H (n0 + n * 250) H' → Q (.ref b) H'
theorem rd_trees (K : PySem.W.Frag) (vs : List V) (H : Hp) (Q : VK) (E : XK) (h : spTrees K vs H Q E) : t__law_trees K (spTree K 5) { nx := fun _ H' => Q .non H', rt := Q } (start n__law_trees vs) H := by
  obtain ⟨p, c, n0, L, w, n, rfl, hp, hn0, l0, l1, w1, m0, m1, q⟩ := h
  have h3 : cnt 3 = 250 := by decide
  refine ⟨.int (n : Nat), rfl, _, rfl, by omega, by omega, fun D hD => ?_⟩
  rw [Int.toNat_natCast]
  refine tree_lc (K := K) (m := L.length) (w := w) (n := n) (e := 3) hp walk_range (fun i H x H' y => y.1) (by omega) (Pn.refl hp) hD (by rw [h3]; omega) (fun _ => rfl) (fun x H' n' P' hr Q2 k => ?_) (fun acc ts H' hacc hl hA hok P' => ?_)
  · exact ⟨.ref p, rfl, tx L, rfl, .int (w : Nat), rfl, .int (n : Nat), rfl, .int 3, rfl, p, c, n', L, w, n, 3, rfl, by decide, P'.pen, hr, l0, l1, w1, m0, m1, k⟩
  · rw [h3] at P'
    exact q D acc ts H' hD hacc hA hl hok P'
/-! ## what trees are as data -/
mutual
def thin : PyData → Prop
  | .tuple ds => ds.length ≤ 9000 ∧ thins ds
  | _ => True
def thins : List PyData → Prop
  | [] => True
  | d :: r => thin d ∧ thins r
end
theorem small_ints : ((List.range 202).all fun n => (PyData.int (n : Nat)).showable && decide ((PyData.int (n : Nat)).shown.length ≤ 4)) = true := by decide +kernel
theorem small_int {n : Nat} (h : n ≤ 201) : (PyData.int (n : Nat)).showable = true ∧ (PyData.int (n : Nat)).shown.length ≤ 4 := by
  have := List.all_eq_true.mp small_ints n (List.mem_range.mpr (by omega))
  rw [Bool.and_eq_true, decide_eq_true_iff] at this
  exact this
theorem txt_go : (PyData.str (sx kGo)).shown.length = 4 := by decide +kernel
theorem txt_tell : (PyData.str (sx kTell)).shown.length = 6 := by decide +kernel
theorem txt_read : (PyData.str (sx kRead)).shown.length = 6 := by decide +kernel
theorem tup_len (ts : List Str) : (tupleText ts).length ≤ piled ts + 2 := by
  unfold tupleText
  cases ts with
  | nil => decide
  | cons t r =>
    have h := join_length_add (t :: r) (by simp)
    have e1 : (("(" : String) : Str).length = 1 := rfl
    have e2 : ((if (t :: r).length == 1 then ",)" else ")" : String) : Str).length ≤ 2 := by split <;> decide
    rw [strLen_append, strLen_append, e1]
    omega
mutual
theorem td_noB : ∀ t : Tr, noB (td t) = true
  | .go a b => by rw [td]; rfl
  | .tell k t => by
    rw [td]
    show (noB (.str (sx kTell)) && (noB (.int (k : Nat)) && (noB (td t) && true))) = true
    rw [td_noB t]; rfl
  | .read p ts => by
    rw [td]
    show (noB (.str (sx kRead)) && (noB (.int (p : Nat)) && (noB.all (tds ts) && true))) = true
    rw [tds_noB ts]; rfl
theorem tds_noB : ∀ ts : List Tr, noB.all (tds ts) = true
  | [] => by rw [tds]; rfl
  | t :: r => by
    rw [tds]
    show (noB (td t) && noB.all (tds r)) = true
    rw [td_noB t, tds_noB r]; rfl
end
mutual
theorem td_depth : ∀ t : Tr, (td t).depth ≤ 2 * ht t
  | .go a b => by rw [td, ht]; simp [PyData.depth, PyData.depthAll]
  | .tell k t => by
    have := td_depth t
    rw [td, ht]
    simp only [PyData.depth, PyData.depthAll]
    omega
  | .read p ts => by
    have := tds_depth ts
    rw [td, ht]
    simp only [PyData.depth, PyData.depthAll]
    omega
theorem tds_depth : ∀ ts : List Tr, PyData.depthAll (tds ts) ≤ 2 * hts ts
  | [] => by rw [tds, hts]; simp [PyData.depthAll]
  | t :: r => by
    have h1 := td_depth t
    have h2 := tds_depth r
    rw [tds, hts, PyData.depthAll]
    omega
end
mutual
theorem td_thin {m w n : Nat} (hm : m ≤ 1000) : ∀ t : Tr, okT m w n t → thin (td t)
  | .go a b, _ => by rw [td]; simp [thin, thins]
  | .tell k t, h => by
    rw [okT] at h
    have := td_thin hm t h.2
    rw [td]; simp [thin, thins, this]
  | .read p ts, h => by
    rw [okT] at h
    have h1 := tds_thin hm ts h.2.2
    have h2 : (tds ts).length ≤ 9000 := by rw [tds_map, List.length_map]; omega
    rw [td]; simp [thin, thins, h1, h2]
theorem tds_thin {m w n : Nat} (hm : m ≤ 1000) : ∀ ts : List Tr, okTs m w n ts → thins (tds ts)
  | [], _ => by rw [tds]; simp [thins]
  | t :: r, h => by
    rw [okTs] at h
    rw [tds, thins]
    exact ⟨td_thin hm t h.1, tds_thin hm r h.2⟩
end
mutual
theorem td_shown {m w n : Nat} (hm : m ≤ 4) (hw : w ≤ 100) (hn : n ≤ 100) : ∀ t : Tr, okT m w n t → (td t).showable = true ∧ (td t).hasDict = false ∧ (td t).shown.length + 10 ≤ 15 * 4 ^ ht t
  | .go a b, h => by
    rw [okT] at h
    have ha := small_int (n := a) (by omega)
    have hb := small_int (n := b) (by omega)
    have h1 : a.log2 < 1920 := by simpa [PyData.showable] using ha.1
    have h2 : b.log2 < 1920 := by simpa [PyData.showable] using hb.1
    rw [td, ht]
    refine ⟨by simp [PyData.showable, PyData.showableAll, h1, h2], by simp [PyData.hasDict, PyData.hasDictAll], ?_⟩
    have := tup_len [(PyData.str (sx kGo)).shown, (PyData.int (a : Nat)).shown, (PyData.int (b : Nat)).shown]
    have e := txt_go
    simp only [piled_cons, piled_nil] at this
    show (tupleText [(PyData.str (sx kGo)).shown, (PyData.int (a : Nat)).shown, (PyData.int (b : Nat)).shown]).length + 10 ≤ 15 * 4 ^ 1
    omega
  | .tell k t, h => by
    rw [okT] at h
    have ha := small_int (n := k) (by omega)
    obtain ⟨i1, i2, i3⟩ := td_shown hm hw hn t h.2
    have lg : k.log2 < 1920 := by simpa [PyData.showable] using ha.1
    rw [td, ht]
    refine ⟨by simp [PyData.showable, PyData.showableAll, lg, i1], by simp [PyData.hasDict, PyData.hasDictAll, i2], ?_⟩
    have := tup_len [(PyData.str (sx kTell)).shown, (PyData.int (k : Nat)).shown, (td t).shown]
    have e := txt_tell
    simp only [piled_cons, piled_nil] at this
    show (tupleText [(PyData.str (sx kTell)).shown, (PyData.int (k : Nat)).shown, (td t).shown]).length + 10 ≤ 15 * 4 ^ (ht t + 1)
    rw [Nat.pow_succ]
    omega
  | .read p ts, h => by
    rw [okT] at h
    have ha := small_int (n := p) (by omega)
    obtain ⟨i1, i2, i3⟩ := tds_shown hm hw hn ts h.2.2
    have lg : p.log2 < 1920 := by simpa [PyData.showable] using ha.1
    rw [td, ht]
    refine ⟨by simp [PyData.showable, PyData.showableAll, lg, i1], by simp [PyData.hasDict, PyData.hasDictAll, i2], ?_⟩
    have h1 := tup_len [(PyData.str (sx kRead)).shown, (PyData.int (p : Nat)).shown, (PyData.tuple (tds ts)).shown]
    have h2 := tup_len (PyData.shownAll (tds ts))
    have e := txt_read
    have i4 := i3 (hts ts) (Nat.le_refl _)
    have h3 : ts.length * (15 * 4 ^ hts ts) ≤ 4 * (15 * 4 ^ hts ts) := Nat.mul_le_mul_right _ (by omega)
    have e2 : (PyData.tuple (tds ts)).shown = tupleText (PyData.shownAll (tds ts)) := by simp only [PyData.shown]
    rw [e2] at h1
    simp only [piled_cons, piled_nil] at h1
    show (tupleText [(PyData.str (sx kRead)).shown, (PyData.int (p : Nat)).shown, (PyData.tuple (tds ts)).shown]).length + 10 ≤ 15 * 4 ^ (hts ts + 1)
    rw [Nat.pow_succ, e2]
    have g1 : 1 ≤ 4 ^ hts ts := Nat.pow_pos (by decide)
    have g2 : (4 - ts.length) * 15 ≤ (4 - ts.length) * (15 * 4 ^ hts ts) := Nat.mul_le_mul_left _ (by omega)
    have g3 : ts.length * (15 * 4 ^ hts ts) + (4 - ts.length) * (15 * 4 ^ hts ts) = 4 * (15 * 4 ^ hts ts) := by rw [← Nat.add_mul]; congr 1; omega
    omega
theorem tds_shown {m w n : Nat} (hm : m ≤ 4) (hw : w ≤ 100) (hn : n ≤ 100) : ∀ ts : List Tr, okTs m w n ts → PyData.showableAll (tds ts) = true ∧ PyData.hasDictAll (tds ts) = false ∧ ∀ h, hts ts ≤ h → piled (PyData.shownAll (tds ts)) + 8 * ts.length ≤ ts.length * (15 * 4 ^ h)
  | [], _ => by rw [tds]; exact ⟨rfl, rfl, fun h _ => by simp [PyData.shownAll, piled]⟩
  | t :: r, hok => by
    rw [okTs] at hok
    obtain ⟨i1, i2, i3⟩ := td_shown hm hw hn t hok.1
    obtain ⟨j1, j2, j3⟩ := tds_shown hm hw hn r hok.2
    rw [tds]
    refine ⟨by simp [PyData.showableAll, i1, j1], by simp [PyData.hasDictAll, i2, j2], fun h hh => ?_⟩
    rw [hts] at hh
    have k := j3 h (by omega)
    have l : 4 ^ ht t ≤ 4 ^ h := Nat.pow_le_pow_right (by decide) (by omega)
    simp only [PyData.shownAll, piled_cons, List.length_cons]
    rw [Nat.add_mul, Nat.one_mul]
    omega
end
mutual
theorem sz_le {m w n : Nat} (hm : m ≤ 4) : ∀ t : Tr, okT m w n t → 3 * sz t + 1 ≤ 4 ^ ht t
  | .go a b, _ => by rw [sz, ht]; decide
  | .tell k t, h => by
    rw [okT] at h
    have := sz_le hm t h.2
    rw [sz, ht, Nat.pow_succ]
    omega
  | .read p ts, h => by
    rw [okT] at h
    have := szs_le hm ts h.2.2 (hts ts) (Nat.le_refl _)
    have h1 : 1 ≤ 4 ^ hts ts := Nat.pow_pos (by decide)
    rw [sz, ht, Nat.pow_succ]
    have h3 : (4 - ts.length) * 1 ≤ (4 - ts.length) * 4 ^ hts ts := Nat.mul_le_mul_left _ h1
    have h4 : ts.length * 4 ^ hts ts + (4 - ts.length) * 4 ^ hts ts = 4 * 4 ^ hts ts := by rw [← Nat.add_mul]; congr 1; omega
    omega
theorem szs_le {m w n : Nat} (hm : m ≤ 4) : ∀ ts : List Tr, okTs m w n ts → ∀ h, hts ts ≤ h → 3 * szs ts + ts.length ≤ ts.length * 4 ^ h
  | [], _, h, _ => by rw [szs]; simp
  | t :: r, hok, h, hh => by
    rw [okTs] at hok
    have i := sz_le hm t hok.1
    rw [hts] at hh
    have k := szs_le hm r hok.2 h (by omega)
    have l : 4 ^ ht t ≤ 4 ^ h := Nat.pow_le_pow_right (by decide) (by omega)
    rw [szs, List.length_cons, Nat.add_mul, Nat.one_mul]
    omega
end
end WkSr

namespace Wk07
open PySem PySem.Spec PyProof.Rows L2 Wk WkS WkA WkP WkSr
open TL (tl len_tl ext_tl tl_append mk_tl)
def t_Signs__init (K : PySem.W.Frag) : TS :=
  (tSeq (sFld K (tVar 0) (tVar 1) "line")
    (sFld K (tVar 0) (tC (.int 0)) "at"))
def t_Signs__takes (K : PySem.W.Frag) : TS :=
  (tSeq (tIfS (tTest (tOp (rNeq K) (tSl (rCut K) (tFld K (tVar 0) "line") (tPart (tFld K (tVar 0) "at")) (tPart (tOp (rPlus K) (tFld K (tVar 0) "at") (tCB (Wk.rLenW K) (tCons (tVar 1) tNil))))) (tVar 1))) (tRet (tC (.bl false))) tNext)
    (tSeq (sFld K (tVar 0) (tOp (rPlus K) (tFld K (tVar 0) "at") (tCB (Wk.rLenW K) (tCons (tVar 1) tNil))) "at")
    (tRet (tC (.bl true)))))
def t_Signs__numeral (K : PySem.W.Frag) : TS :=
  (tSeq (tAsg (tFld K (tVar 0) "at") (gName 1))
    (tSeq (tWhile (tAnd (tTest (tOp (rLess) (tFld K (tVar 0) "at") (tCB (Wk.rLenW K) (tCons (tFld K (tVar 0) "line") tNil)))) (tAnd (tTest (tOp (rInn K) (tOp (rItem K) (tFld K (tVar 0) "line") (tFld K (tVar 0) "at")) (tC (tx [48, 49, 50, 51, 52, 53, 54, 55, 56, 57])))) (tTest (tOp (rLess) (tFld K (tVar 0) "at") (tOp (rPlus K) (tVar 1) (tC (.int 2))))))) (sFld K (tVar 0) (tOp (rPlus K) (tFld K (tVar 0) "at") (tC (.int 1))) "at"))
    (tRet (tIf (tTest (tOp (rMore) (tFld K (tVar 0) "at") (tVar 1))) (tCB (rIntT) (tCons (tSl (rCut K) (tFld K (tVar 0) "line") (tPart (tVar 1)) (tPart (tFld K (tVar 0) "at"))) tNil)) (tC .non)))))
def t_Signs__two_numbers (K : PySem.W.Frag) (D : Addr) (s_Signs__takes : Sp) (s_Signs__numeral : Sp) : TS :=
  (tSeq (tAsg (tMeth D "numeral" s_Signs__numeral [] E0 (tVar 0) tNil) (gName 1))
    (tSeq (tIfS (tOr (tTest (tOp (rIsNone) (tVar 1) (tC .non))) (tNot (tTruth K (tMeth D "takes" s_Signs__takes [] E0 (tVar 0) (tCons (tC (tx [32])) tNil))))) (tRet (tC .non)) tNext)
    (tSeq (tAsg (tMeth D "numeral" s_Signs__numeral [] E0 (tVar 0) tNil) (gName 2))
    (tRet (tIf (tTest (tOp (rIsNone) (tVar 2) (tC .non))) (tC .non) (tTup (tCons (tVar 1) (tCons (tVar 2) tNil))))))))
def t_Signs__whole (K : PySem.W.Frag) (D : Addr) (s_Signs__takes : Sp) (s_Signs__numeral : Sp) (s_Signs__two_numbers : Sp) (s_Signs__whole : Sp) (s_Signs__branches : Sp) : TS :=
  (tSeq (tIfS (tTest (tOp (rMore) (tVar 2) (tC (.int 41)))) (tRet (tC .non)) tNext)
    (tSeq (tIfS (tTruth K (tMeth D "takes" s_Signs__takes [] E0 (tVar 0) (tCons (tC (tx [103, 111, 32])) tNil))) (tSeq (tAsg (tMeth D "two_numbers" s_Signs__two_numbers [] E0 (tVar 0) tNil) (gName 3))
    (tRet (tIf (tTest (tOp (rIsNone) (tVar 3) (tC .non))) (tC .non) (tTup (tCons (tC (tx [103, 111])) (tCons (tOp (rItem K) (tVar 3) (tC (.int 0))) (tCons (tOp (rItem K) (tVar 3) (tC (.int 1))) tNil))))))) tNext)
    (tSeq (tIfS (tTruth K (tMeth D "takes" s_Signs__takes [] E0 (tVar 0) (tCons (tC (tx [116, 101, 108, 108, 32])) tNil))) (tSeq (tAsg (tMeth D "numeral" s_Signs__numeral [] E0 (tVar 0) tNil) (gName 4))
    (tSeq (tIfS (tOr (tTest (tOp (rIsNone) (tVar 4) (tC .non))) (tNot (tTruth K (tMeth D "takes" s_Signs__takes [] E0 (tVar 0) (tCons (tC (tx [32])) tNil))))) (tRet (tC .non)) tNext)
    (tSeq (tAsg (tMeth D "whole" s_Signs__whole [] E0 (tVar 0) (tCons (tVar 1) (tCons (tOp (rPlus K) (tVar 2) (tC (.int 1))) tNil))) (gName 5))
    (tRet (tIf (tTest (tOp (rIsNone) (tVar 5) (tC .non))) (tC .non) (tTup (tCons (tC (tx [116, 101, 108, 108])) (tCons (tVar 4) (tCons (tVar 5) tNil))))))))) tNext)
    (tRet (tIf (tTruth K (tMeth D "takes" s_Signs__takes [] E0 (tVar 0) (tCons (tC (tx [114, 101, 97, 100, 32])) tNil))) (tMeth D "branches" s_Signs__branches [] E0 (tVar 0) (tCons (tVar 1) (tCons (tVar 2) tNil))) (tC .non))))))
def t_Signs__branches (K : PySem.W.Frag) (D : Addr) (s_Signs__takes : Sp) (s_Signs__numeral : Sp) (s_Signs__whole : Sp) : TS :=
  (tSeq (tPar 3 4 (tCons (tMeth D "numeral" s_Signs__numeral [] E0 (tVar 0) tNil) (tCons (tLst tNil) tNil)))
    (tSeq (tIfS (tOr (tTest (tOp (rIsNone) (tVar 3) (tC .non))) (tNot (tTruth K (tMeth D "takes" s_Signs__takes [] E0 (tVar 0) (tCons (tC (tx [32, 91])) tNil))))) (tRet (tC .non)) tNext)
    (tSeq (tFor (iAny K (tVar 1)) (gName 5) (tSeq (tIfS (tNot (tTruth K (tMeth D "takes" s_Signs__takes [] E0 (tVar 0) (tCons (tOp (rPlus K) (tOp (rPlus K) (tIf (tTruth K (tVar 4)) (tC (tx [44, 32])) (tC (tx []))) (tVar 5)) (tC (tx [58, 32]))) tNil)))) (tRet (tC .non)) tNext)
    (tSeq (tAsg (tMeth D "whole" s_Signs__whole [] E0 (tVar 0) (tCons (tVar 1) (tCons (tOp (rPlus K) (tVar 2) (tC (.int 1))) tNil))) (gName 6))
    (tSeq (tIfS (tTest (tOp (rIsNone) (tVar 6) (tC .non))) (tRet (tC .non)) tNext)
    (tDrop (tBM K "list" rAppend (tVar 4) (tCons (tVar 6) tNil)))))))
    (tRet (tIf (tTruth K (tMeth D "takes" s_Signs__takes [] E0 (tVar 0) (tCons (tC (tx [93])) tNil))) (tTup (tCons (tC (tx [114, 101, 97, 100])) (tCons (tVar 3) (tCons (tCB (rTup1 K) (tCons (tVar 4) tNil)) tNil)))) (tC .non))))))
def t_read_head (K : PySem.W.Frag) (s_check_letters : Sp) : TS :=
  (tSeq (tPar 1 2 (tCons (tSl (rCut K) (tVar 0) tNoPart (tPart (tUn rNeg (tC (.int 2))))) (tCons (tSl (rCut K) (tVar 0) (tPart (tUn rNeg (tC (.int 1)))) tNoPart) tNil)))
    (tSeq (tDrop (tCall s_check_letters [] E0 (tCons (tVar 1) tNil)))
    (tSeq (tIfS (tOr (tTest (tOp (rNeq K) (tSl (rCut K) (tVar 0) (tPart (tUn rNeg (tC (.int 2)))) (tPart (tUn rNeg (tC (.int 1))))) (tC (tx [32])))) (tOr (tTest (tOp (rNin K) (tVar 2) (tC (tx [48, 49, 50, 51, 52, 53, 54, 55, 56, 57])))) (tNot (tTest (tChain (rLeq) (rLeq) (tC (.int 1)) (tCB (rIntT) (tCons (tVar 2) tNil)) (tC (.int 8))))))) tNever tNext)
    (tRet (tTup (tCons (tVar 1) (tCons (tCB (rIntT) (tCons (tVar 2) tNil)) tNil)))))))
def t_read_tree (K : PySem.W.Frag) (D : Addr) (s_Signs__init : Sp) (s_Signs__whole : Sp) : TS :=
  (tSeq (tAsg (tMake D s_Signs__init [] E0 (tCons (tVar 1) tNil)) (gName 2))
    (tSeq (tAsg (tMeth D "whole" s_Signs__whole [] E0 (tVar 2) (tCons (tVar 0) (tCons (tC (.int 1)) tNil))) (gName 3))
    (tRet (tIf (tTest (tOp (rEqq K) (tFld K (tVar 2) "at") (tCB (Wk.rLenW K) (tCons (tVar 1) tNil)))) (tVar 3) (tC .non)))))
def t_tree_text (K : PySem.W.Frag) (s_tree_text : Sp) : TS :=
  (tSeq (tIfS (tTest (tOp (rEqq K) (tOp (rItem K) (tVar 0) (tC (.int 0))) (tC (tx [103, 111])))) (tRet (tOp (rPlus K) (tOp (rPlus K) (tOp (rPlus K) (tC (tx [103, 111, 32])) (tCB (rStrI) (tCons (tOp (rItem K) (tVar 0) (tC (.int 1))) tNil))) (tC (tx [32]))) (tCB (rStrI) (tCons (tOp (rItem K) (tVar 0) (tC (.int 2))) tNil)))) tNext)
    (tSeq (tIfS (tTest (tOp (rEqq K) (tOp (rItem K) (tVar 0) (tC (.int 0))) (tC (tx [116, 101, 108, 108])))) (tRet (tOp (rPlus K) (tOp (rPlus K) (tOp (rPlus K) (tC (tx [116, 101, 108, 108, 32])) (tCB (rStrI) (tCons (tOp (rItem K) (tVar 0) (tC (.int 1))) tNil))) (tC (tx [32]))) (tCall s_tree_text [] E0 (tCons (tOp (rItem K) (tVar 0) (tC (.int 2))) (tCons (tVar 1) tNil))))) tNext)
    (tSeq (tAsg (tLc (iZipG K (tCons (tVar 1) (tCons (tOp (rItem K) (tVar 0) (tC (.int 2))) tNil))) (gTup K 2 (gCons (gName 3) (gCons (gName 4) gNil))) tYes (tOp (rPlus K) (tOp (rPlus K) (tVar 3) (tC (tx [58, 32]))) (tCall s_tree_text [] E0 (tCons (tVar 4) (tCons (tVar 1) tNil)))) [3, 4]) (gName 2))
    (tRet (tOp (rPlus K) (tOp (rPlus K) (tOp (rPlus K) (tOp (rPlus K) (tC (tx [114, 101, 97, 100, 32])) (tCB (rStrI) (tCons (tOp (rItem K) (tVar 0) (tC (.int 1))) tNil))) (tC (tx [32, 91]))) (tM1 (rJoin K) (tC (tx [44, 32])) (tVar 2))) (tC (tx [93])))))))
def t_Searcher__written (K : PySem.W.Frag) (s_tree_text : Sp) : TS :=
  (tSeq (tAsg (tLst (tCons (tOp (rPlus K) (tOp (rPlus K) (tFld K (tVar 0) "letters") (tC (tx [32]))) (tCB (rStrI) (tCons (tFld K (tVar 0) "width") tNil))) tNil)) (gName 1))
    (tRet (tM1 (rJoin K) (tC (tx [10])) (tOp (rPlus K) (tVar 1) (tLc (iAny K (tFld K (tVar 0) "states")) (gName 2) tYes (tCall s_tree_text [] E0 (tCons (tVar 2) (tCons (tFld K (tVar 0) "letters") tNil))) [2])))))
def t_Searcher__read (K : PySem.W.Frag) (C : Addr) (s_read_head : Sp) (s_read_tree : Sp) (s_checked : Sp) (s_tree_text : Sp) (s_Searcher__init : Sp) : TS :=
  (tSeq (tIfS (tNot (tTruth K (tCB (rIsi1 K) (tCons (tVar 1) (tCons (tC (.ty "str")) tNil))))) tNever tNext)
    (tSeq (tAsg (tM1 (rSplitT K) (tVar 1) (tC (tx [10]))) (gName 2))
    (tSeq (tAsg (tCall s_read_head [] E0 (tCons (tOp (rItem K) (tVar 2) (tC (.int 0))) tNil)) (gTup K 2 (gCons (gName 3) (gCons (gName 4) gNil))))
    (tSeq (tPar 5 6 (tCons (tOp (rMinus) (tCB (Wk.rLenW K) (tCons (tVar 2) tNil)) (tC (.int 1))) (tCons (tLst tNil) tNil)))
    (tSeq (tIfS (tTest (tOp (rMore) (tVar 5) (tC (.int 64)))) tNever tNext)
    (tSeq (tFor (iEnumG K (tCons (tSl (rCut K) (tVar 2) (tPart (tC (.int 1))) tNoPart) tNil)) (gTup K 2 (gCons (gName 7) (gCons (gName 8) gNil))) (tSeq (tAsg (tCall s_read_tree [] E0 (tCons (tVar 3) (tCons (tVar 8) tNil))) (gName 9))
    (tSeq (tIfS (tOr (tTest (tOp (rIsNone) (tVar 9) (tC .non))) (tOr (tTruth K (tOp (rItem K) (tCall s_checked [] E0 (tCons (tVar 9) (tCons (tCB (Wk.rLenW K) (tCons (tVar 3) tNil)) (tCons (tVar 4) (tCons (tVar 5) (tCons (tC (.int 1)) (tCons (tC (.int 0)) tNil))))))) (tC (.int 0)))) (tTest (tOp (rNeq K) (tCall s_tree_text [] E0 (tCons (tVar 9) (tCons (tVar 3) tNil))) (tVar 8))))) tNever tNext)
    (tDrop (tBM K "list" rAppend (tVar 6) (tCons (tVar 9) tNil))))))
    (tSeq (tIfS (tTest (tOp (rEqq K) (tVar 5) (tC (.int 0)))) tNever tNext)
    (tRet (tMakeL C 0 s_Searcher__init [] E0 (tCons (tVar 3) (tCons (tVar 4) (tCons (tVar 6) tNil))))))))))))
def t__law_line (K : PySem.W.Frag) (s__law_line : Sp) : TS :=
  (tSeq (tIfS (tTest (tOp (rEqq K) (tOp (rItem K) (tVar 0) (tC (.int 0))) (tC (tx [103, 111])))) (tRet (tOp (rPlus K) (tOp (rPlus K) (tOp (rPlus K) (tC (tx [103, 111, 32])) (tCB (rStrI) (tCons (tOp (rItem K) (tVar 0) (tC (.int 1))) tNil))) (tC (tx [32]))) (tCB (rStrI) (tCons (tOp (rItem K) (tVar 0) (tC (.int 2))) tNil)))) tNext)
    (tSeq (tIfS (tTest (tOp (rEqq K) (tOp (rItem K) (tVar 0) (tC (.int 0))) (tC (tx [116, 101, 108, 108])))) (tRet (tOp (rPlus K) (tOp (rPlus K) (tOp (rPlus K) (tC (tx [116, 101, 108, 108, 32])) (tCB (rStrI) (tCons (tOp (rItem K) (tVar 0) (tC (.int 1))) tNil))) (tC (tx [32]))) (tCall s__law_line [] E0 (tCons (tOp (rItem K) (tVar 0) (tC (.int 2))) (tCons (tVar 1) tNil))))) tNext)
    (tSeq (tAsg (tLc (iRng1 (tCons (tCB (Wk.rLenW K) (tCons (tVar 1) tNil)) tNil)) (gName 3) tYes (tOp (rPlus K) (tOp (rPlus K) (tOp (rItem K) (tVar 1) (tVar 3)) (tC (tx [58, 32]))) (tCall s__law_line [] E0 (tCons (tOp (rItem K) (tOp (rItem K) (tVar 0) (tC (.int 2))) (tVar 3)) (tCons (tVar 1) tNil)))) [3]) (gName 2))
    (tRet (tOp (rPlus K) (tOp (rPlus K) (tOp (rPlus K) (tOp (rPlus K) (tC (tx [114, 101, 97, 100, 32])) (tCB (rStrI) (tCons (tOp (rItem K) (tVar 0) (tC (.int 1))) tNil))) (tC (tx [32, 91]))) (tM1 (rJoin K) (tC (tx [44, 32])) (tVar 2))) (tC (tx [93])))))))
def t__law_deep_tree (K : PySem.W.Frag) (s__law_draw : Sp) : TS :=
  (tSeq (tAsg (tTup (tCons (tC (tx [103, 111])) (tCons (tOp (rPlus K) (tVar 2) (tC (.int 1))) (tCons (tOp (rMinus) (tVar 3) (tC (.int 1))) tNil)))) (gName 4))
    (tSeq (tFor (iRng1 (tCons (tC (.int 39)) tNil)) (gName 5) (tIfS (tTest (tOp (rMore) (tCall s__law_draw [] E0 (tCons (tVar 0) (tCons (tC (.int 3)) tNil))) (tC (.int 0)))) (tAsg (tTup (tCons (tC (tx [116, 101, 108, 108])) (tCons (tCall s__law_draw [] E0 (tCons (tVar 0) (tCons (tC (.int 3)) tNil))) (tCons (tVar 4) tNil)))) (gName 4)) (tAsg (tTup (tCons (tC (tx [114, 101, 97, 100])) (tCons (tVar 2) (tCons (tOp (rPlus K) (tTup (tCons (tVar 4) tNil)) (tCB (rTup1 K) (tCons (tLc (iAny K (tSl (rCut K) (tVar 1) (tPart (tC (.int 1))) tNoPart)) (gName 6) tYes (tTup (tCons (tC (tx [103, 111])) (tCons (tC (.int 1)) (tCons (tC (.int 0)) tNil)))) [6]) tNil))) tNil)))) (gName 4))))
    (tRet (tVar 4))))
def t_law (K : PySem.W.Frag) (C : Addr) (s_Searcher__init : Sp) (s_Searcher__eq : Sp) (s_Searcher__written : Sp) (s_Searcher__read : Sp) (s__law_pen : Sp) (s__law_draw : Sp) (s__law_letters : Sp) (s__law_trees : Sp) (s__law_line : Sp) (s__law_deep_tree : Sp) : TS :=
  (tSeq (tAsg (tCall s__law_pen [] E0 (tCons (tVar 0) tNil)) (gName 1))
    (tSeq (tFor (iRng1 (tCons (tOp (rPlus K) (tC (.int 4)) (tCB (rMin2) (tCons (tC (.int 6)) (tCons (tCB (Wk.rLenW K) (tCons (tVar 0) tNil)) tNil)))) tNil)) (gName 2) (tSeq (tAsg (tTup (tCons (tCall s__law_letters [] E0 (tCons (tVar 1) tNil)) (tCons (tOp (rPlus K) (tC (.int 1)) (tCall s__law_draw [] E0 (tCons (tVar 1) (tCons (tC (.int 8)) tNil)))) (tCons (tOp (rPlus K) (tC (.int 1)) (tCall s__law_draw [] E0 (tCons (tVar 1) (tCons (tC (.int 5)) tNil)))) tNil)))) (gTup K 3 (gCons (gName 3) (gCons (gName 4) (gCons (gName 5) gNil)))))
    (tSeq (tAsg (tCall s__law_trees [] E0 (tCons (tVar 1) (tCons (tVar 3) (tCons (tVar 4) (tCons (tVar 5) (tCons (tC (.int 3)) tNil)))))) (gName 6))
    (tSeq (tIfS (tTest (tOp (rEqq K) (tCall s__law_draw [] E0 (tCons (tVar 1) (tCons (tC (.int 4)) tNil))) (tC (.int 0)))) (tAsg (tCall s__law_deep_tree [] E0 (tCons (tVar 1) (tCons (tVar 3) (tCons (tVar 4) (tCons (tVar 5) tNil))))) (gSub (tVar 6) (tOp (rMinus) (tVar 5) (tC (.int 1))) rSetL)) tNext)
    (tSeq (tAsg (tMake C s_Searcher__init [] E0 (tCons (tVar 3) (tCons (tVar 4) (tCons (tVar 6) tNil)))) (gName 7))
    (tSeq (tAsg (tM1 (rJoin K) (tC (tx [10])) (tOp (rPlus K) (tLst (tCons (tOp (rPlus K) (tOp (rPlus K) (tVar 3) (tC (tx [32]))) (tCB (rStrI) (tCons (tVar 4) tNil))) tNil)) (tLc (iAny K (tVar 6)) (gName 9) tYes (tCall s__law_line [] E0 (tCons (tVar 9) (tCons (tVar 3) tNil))) [9]))) (gName 8))
    (tSeq (tIfS (tOr (tTest (tOp (rNeq K) (tMeth C "written" s_Searcher__written [] E0 (tVar 7) tNil) (tVar 8))) (tOr (tTest (tOp (rOwn C s_Searcher__eq K true) (ClX.tCMeth C s_Searcher__read E0 (tC (.ref C)) (tCons (tVar 8) tNil)) (tVar 7))) (tTest (tOp (rNeq K) (tFld K (ClX.tCMeth C s_Searcher__read E0 (tC (.ref C)) (tCons (tVar 8) tNil)) "states") (tCB (rTup1 K) (tCons (tVar 6) tNil)))))) (tRet (tC (.bl false))) tNext)
    (tIfS (tOr (tTest (tOp (rNeq K) (tMeth C "written" s_Searcher__written [] E0 (ClX.tCMeth C s_Searcher__read E0 (tC (.ref C)) (tCons (tMeth C "written" s_Searcher__written [] E0 (tVar 7) tNil) tNil)) tNil) (tVar 8))) (tTest (tOp (rNeq K) (tMeth C "written" s_Searcher__written [] E0 (tVar 7) tNil) (tVar 8)))) (tRet (tC (.bl false))) tNext))))))))
    (tRet (tC (.bl true)))))
abbrev n_Signs__init : List Str := ["self", "line"]
abbrev n_Signs__takes : List Str := ["self", "part"]
abbrev n_Signs__numeral : List Str := ["self", "start"]
abbrev n_Signs__two_numbers : List Str := ["self", "first", "second"]
abbrev n_Signs__whole : List Str := ["self", "letters", "level", "pair", "number", "inner"]
abbrev n_Signs__branches : List Str := ["self", "letters", "level", "place", "parts", "letter", "inner"]
abbrev n_read_head : List Str := ["line", "letters", "width"]
abbrev n_read_tree : List Str := ["letters", "line", "signs", "tree"]
abbrev n_tree_text : List Str := ["tree", "letters", "parts", "letter", "inner"]
abbrev n_Searcher__written : List Str := ["self", "lines", "tree"]
abbrev n_Searcher__read : List Str := ["cls", "text", "lines", "letters", "width", "many", "states", "number", "line", "tree"]
abbrev n__law_line : List Str := ["_law_tree_here", "_law_letters_here", "_law_parts", "_law_k"]
abbrev n__law_deep_tree : List Str := ["_law_pen_here", "_law_letters_here", "_law_width", "_law_states", "_law_tree_here", "_law_k", "_law_letter"]
abbrev n_law : List Str := ["_law_script", "_law_pen_here", "_law_turn", "_law_letters_here", "_law_width", "_law_many", "_law_states", "_law_searcher", "_law_due", "_law_tree_here"]
/-! ## the reader's signs -/
structure SF (K : PySem.W.Frag) (D : Addr) : Prop where
  cl : Cls K D
  nL : NoAttr K D "line"
  nA : NoAttr K D "at"
def sg (l : List Nat) (i : Nat) : List (Str × V) := [("line", tx l), ("at", .int (i : Nat))]
theorem ne_la : ¬ (("line" : Str) = "at") := by decide +kernel
theorem sgL (l : List Nat) (i : Nat) : (sg l i).lookup ("line" : Str) = some (tx l) := by
  unfold sg
  rw [List.lookup_cons, beq_self_eq_true]
theorem sgA (l : List Nat) (i : Nat) : (sg l i).lookup ("at" : Str) = some (.int (i : Nat)) := by
  unfold sg
  rw [List.lookup_cons, beq_eq_false_iff_ne.mpr (fun e => ne_la e.symm), List.lookup_cons, beq_self_eq_true]
theorem sg_put (l : List Nat) (i j : Nat) : putF "at" (.int (j : Nat)) (sg l i) = sg l j := by
  show (if ("line" : Str) = "at" then _ else (("line" : Str), tx l) :: (if ("at" : Str) = "at" then [(("at" : Str), V.int (j : Nat))] else _)) = sg l j
  rw [if_neg ne_la, if_pos rfl]; rfl
theorem sg_new (l : List Nat) : putF "at" (.int 0) (putF "line" (tx l) []) = sg l 0 := by
  show (if ("line" : Str) = "at" then _ else (("line" : Str), tx l) :: [(("at" : Str), V.int 0)]) = sg l 0
  rw [if_neg ne_la]; rfl
theorem upd2 {H : Hp} {a : Addr} {o u : HO} : upd (upd H a o) a u = upd H a u := by
  funext b
  by_cases h : b = a
  · rw [h, upd_same, upd_same]
  · rw [upd_ne h, upd_ne h, upd_ne h]
theorem upd_id {H : Hp} {a : Addr} {o : HO} (h : H a = some o) : upd H a o = H := by
  funext b
  by_cases e : b = a
  · rw [e, upd_same, h]
  · rw [upd_ne e]
abbrev digs : List Nat := [48, 49, 50, 51, 52, 53, 54, 55, 56, 57]
/-- no figure stands first -/
def noDig (r : List Nat) : Prop := ∀ c, r[0]? = some c → c ∉ digs
theorem dig_digs {n : Nat} (h : n < 100) : ∀ c ∈ dig n, c ∈ digs := by
  intro c hc
  have key : ((List.range 100).all fun n => (dig n).all fun c => decide (c ∈ digs)) = true := by decide +kernel
  exact of_decide_eq_true (List.all_eq_true.mp (List.all_eq_true.mp key n (List.mem_range.mpr h)) c hc)
/-- the object of signs: a is read, r lies ahead -/
def SgV (D s dx : Addr) (a r : List Nat) (H : Hp) : Prop := H s = some (.ins D dx (sg (a ++ r) a.length))
def len_si (K : PySem.W.Frag) (D : Addr) : ∀ vs H Q E, (fun (vs : List V) (H : Hp) (Q : VK) (_ : XK) => ∃ (x dx : Addr) (l : List Nat), vs = [.ref x, tx l] ∧ H x = some (.ins D dx []) ∧ Q .non (upd H x (.ins D dx (sg l 0)))) vs H Q E → vs.length = 2 := by
  rintro _ _ _ _ ⟨x, dx, l, rfl, _⟩
  rfl
def spSi (K : PySem.W.Frag) (D : Addr) : Sp := fun vs H Q _ => ∃ (x dx : Addr) (l : List Nat), vs = [.ref x, tx l] ∧ H x = some (.ins D dx []) ∧ Q .non (upd H x (.ins D dx (sg l 0)))
theorem rd_si (K : PySem.W.Frag) (D : Addr) (T : SF K D) (vs : List V) (H : Hp) (Q : VK) (E : XK) (h : spSi K D vs H Q E) : t_Signs__init K { nx := fun _ H' => Q .non H', rt := Q } (start n_Signs__init vs) H := by
  obtain ⟨x, dx, l, rfl, hx, q⟩ := h
  refine ⟨tx l, rfl, .ref x, rfl, x, D, dx, _, rfl, hx, T.cl, T.nL, by simp, ?_⟩
  refine ⟨.ref x, rfl, x, D, dx, _, rfl, upd_same, T.cl, T.nA, by show 1 < 1000; decide, ?_⟩
  rw [upd2, sg_new]
  exact q
/-! ## takes -/
def spTk (K : PySem.W.Frag) (D : Addr) : Sp := fun vs H Q _ => ∃ (s dx : Addr) (a p r : List Nat), vs = [.ref s, tx p] ∧ SgV D s dx a r H ∧ (a ++ r).length ≤ 90000 ∧ p.length ≤ 1000 ∧
  ((∃ r', r = p ++ r' ∧ ∀ H', H' = upd H s (.ins D dx (sg (a ++ p ++ r') (a ++ p).length)) → Q (.bl true) H') ∨ (¬ p <+: r ∧ Q (.bl false) H))
theorem rd_tk (K : PySem.W.Frag) (D : Addr) (T : SF K D) (vs : List V) (H : Hp) (Q : VK) (E : XK) (h : spTk K D vs H Q E) : t_Signs__takes K { nx := fun _ H' => Q .non H', rt := Q } (start n_Signs__takes vs) H := by
  obtain ⟨s, dx, a, p, r, rfl, hs, hl, hp, q⟩ := h
  refine ⟨.ref s, rfl, s, D, dx, _, tx (a ++ r), rfl, hs, T.cl, T.nL, sgL _ _, .ref s, rfl, s, D, dx, _, .int (a.length : Nat), rfl, hs, T.cl, T.nA, sgA _ _, (a.length : Nat), rfl, ?_⟩
  refine ⟨.ref s, rfl, s, D, dx, _, .int (a.length : Nat), rfl, hs, T.cl, T.nA, sgA _ _, tx p, rfl, by rw [tl_sx]; omega, _, rfl, ?_⟩
  have e1 : cutL (tl (sx (a ++ r))) (some ((a.length : Nat) : Int)) (some ((a.length : Nat) + (((tl (sx p)).length : Nat) : Int))) = r.take p.length := by
    have e2 : ((a.length : Nat) : Int) + (((tl (sx p)).length : Nat) : Int) = ((a.length + p.length : Nat) : Int) := by rw [tl_sx]; omega
    rw [e2, cutL_mid, tl_sx, List.drop_left, Nat.add_sub_cancel_left]
  refine ⟨by rw [tl_sx]; omega, ?_⟩
  rw [e1]
  refine ⟨tx p, rfl, rfl, _, rfl, iteN (fun h1 => ?_) (fun h1 => ?_)⟩
  · rcases q with ⟨r', rfl, q⟩ | ⟨h2, q⟩
    · exact absurd (by rw [List.take_left]) h1
    · exact q
  · rcases q with ⟨r', rfl, q⟩ | ⟨h2, q⟩
    · refine ⟨.ref s, rfl, s, D, dx, _, .int (a.length : Nat), rfl, hs, T.cl, T.nA, sgA _ _, tx p, rfl, by rw [tl_sx]; omega, ?_⟩
      refine ⟨.ref s, rfl, s, D, dx, _, rfl, hs, T.cl, T.nA, by show 2 < 1000; decide, ?_⟩
      refine q _ ?_
      have e2 : V.int (((a.length : Nat) : Int) + (((tl (sx p)).length : Nat) : Int)) = V.int ((a ++ p).length : Nat) := by rw [tl_sx, List.length_append]; rfl
      rw [e2, sg_put, ← List.append_assoc]
    · exact absurd (by
        have h3 : r.take p.length = p := tx_inj.mp h1
        rw [← h3]
        exact List.take_prefix _ _) h2
theorem len_tk (K : PySem.W.Frag) (D : Addr) : ∀ vs H Q E, spTk K D vs H Q E → vs.length = 2 := by
  rintro _ _ _ _ ⟨s, dx, a, p, r, rfl, _⟩
  rfl
/-! ## numeral -/
def spNu (K : PySem.W.Frag) (D : Addr) : Sp := fun vs H Q _ => ∃ (s dx : Addr) (a r : List Nat) (n : Nat), vs = [.ref s] ∧ SgV D s dx a (dig n ++ r) H ∧ (a ++ (dig n ++ r)).length ≤ 90000 ∧ n < 100 ∧ noDig r ∧
  ∀ H', H' = upd H s (.ins D dx (sg (a ++ dig n ++ r) (a ++ dig n).length)) → Q (.int (n : Nat)) H'
theorem len_nu (K : PySem.W.Frag) (D : Addr) : ∀ vs H Q E, spNu K D vs H Q E → vs.length = 1 := by
  rintro _ _ _ _ ⟨s, dx, a, r, n, rfl, _⟩
  rfl
theorem rd_nu (K : PySem.W.Frag) (D : Addr) (T : SF K D) (vs : List V) (H : Hp) (Q : VK) (E : XK) (h : spNu K D vs H Q E) : t_Signs__numeral K { nx := fun _ H' => Q .non H', rt := Q } (start n_Signs__numeral vs) H := by
  obtain ⟨s, dx, a, r, n, rfl, hs, hl, hn, hr, q⟩ := h
  obtain ⟨d1, d2⟩ := dig_len n
  have hs' : H s = some (.ins D dx (sg (a ++ (dig n ++ r)) a.length)) := hs
  refine ⟨.ref s, rfl, s, D, dx, _, .int (a.length : Nat), rfl, hs, T.cl, T.nA, sgA _ _, ?_⟩
  have hlen : (a ++ (dig n ++ r)).length = a.length + (dig n).length + r.length := by simp [List.length_append]; omega
  refine while_w (fun σ H' => σ = [some (.ref s), some (.int (a.length : Nat))] ∧ ∃ j, j ≤ (dig n).length ∧ H' = upd H s (.ins D dx (sg (a ++ (dig n ++ r)) (a.length + j))))
    (fun _ H' => match H' s with
      | some (.ins _ _ [_, (_, .int i)]) => (a.length + 2 - i.toNat)
      | _ => 0) ⟨rfl, 0, Nat.zero_le _, (upd_id hs').symm⟩ ?_
  rintro σ H1 ⟨rfl, j, hj, rfl⟩
  have hs1 : (upd H s (.ins D dx (sg (a ++ (dig n ++ r)) (a.length + j)))) s = some (.ins D dx (sg (a ++ (dig n ++ r)) (a.length + j))) := upd_same
  have ex : j = (dig n).length → ∀ D0 : Ends, D0.rt = Q → (tRet (tIf (tTest (tOp (rMore) (tFld K (tVar 0) "at") (tVar 1))) (tCB (rIntT) (tCons (tSl (rCut K) (tFld K (tVar 0) "line") (tPart (tVar 1)) (tPart (tFld K (tVar 0) "at"))) tNil)) (tC .non))) D0 [some (.ref s), some (.int (a.length : Nat))] (upd H s (.ins D dx (sg (a ++ (dig n ++ r)) (a.length + j)))) := by
    intro hjn D0 hD0
    refine ⟨.ref s, rfl, s, D, dx, _, .int (a.length + j : Nat), rfl, hs1, T.cl, T.nA, sgA _ _, .int (a.length : Nat), rfl, _, rfl, iteD (fun _ => ?_) (fun h => absurd (by omega) h)⟩
    refine ⟨.ref s, rfl, s, D, dx, _, tx (a ++ (dig n ++ r)), rfl, hs1, T.cl, T.nL, sgL _ _, .int (a.length : Nat), rfl, (a.length : Nat), rfl, .ref s, rfl, s, D, dx, _, .int (a.length + j : Nat), rfl, hs1, T.cl, T.nA, sgA _ _, (a.length + j : Nat), rfl, by rw [tl_sx]; omega, n, ?_, hn, ?_⟩
    · rw [cutL_mid, tl_sx, List.drop_left, Nat.add_sub_cancel_left, hjn, List.take_left]
    · rw [hD0]
      refine q _ ?_
      rw [hjn, ← List.append_assoc, List.length_append]
  refine ⟨.ref s, rfl, s, D, dx, _, .int (a.length + j : Nat), rfl, hs1, T.cl, T.nA, sgA _ _, .ref s, rfl, s, D, dx, _, tx (a ++ (dig n ++ r)), rfl, hs1, T.cl, T.nL, sgL _ _, by rw [tl_sx]; omega, _, rfl, iteD (fun h1 => ?_) (fun h1 => ?_)⟩
  · rw [tl_sx] at h1
    have hr1 : a.length + j < (a ++ (dig n ++ r)).length := by omega
    have hat : atI (a ++ (dig n ++ r)) ((a.length + j : Nat) : Int) = some (a ++ (dig n ++ r))[a.length + j] := atI_nat (List.getElem?_eq_getElem hr1)
    have hgj : (a ++ (dig n ++ r))[a.length + j]? = (dig n ++ r)[j]? := by rw [List.getElem?_append_right (by omega), Nat.add_sub_cancel_left]
    rw [List.getElem?_eq_getElem hr1] at hgj
    refine ⟨.ref s, rfl, s, D, dx, _, tx (a ++ (dig n ++ r)), rfl, hs1, T.cl, T.nL, sgL _ _, .ref s, rfl, s, D, dx, _, .int (a.length + j : Nat), rfl, hs1, T.cl, T.nA, sgA _ _, by rw [tl_sx]; omega, _, hat, ?_⟩
    generalize (a ++ (dig n ++ r))[a.length + j] = c at hgj ⊢
    refine .inl ⟨_, rfl, _, rfl, iteD (fun h2 => ?_) (fun h2 => ?_)⟩
    · have hjd : j < (dig n).length := by
        rcases Nat.lt_or_ge j (dig n).length with h | h
        · exact h
        · exfalso
          have e0 : j - (dig n).length = 0 := by omega
          rw [List.getElem?_append_right h, e0] at hgj
          exact hr c hgj.symm h2
      refine ⟨.ref s, rfl, s, D, dx, _, .int (a.length + j : Nat), rfl, hs1, T.cl, T.nA, sgA _ _, .int (a.length : Nat), rfl, _, rfl, iteD (fun _ => ?_) (fun h => absurd (by omega) h)⟩
      refine ⟨_, Nxt.ok, ?_⟩
      refine ⟨.ref s, rfl, s, D, dx, _, .int (a.length + j : Nat), rfl, hs1, T.cl, T.nA, sgA _ _, .ref s, rfl, s, D, dx, _, rfl, hs1, T.cl, T.nA, by show 2 < 1000; decide, ?_⟩
      have e1 : V.int (((a.length + j : Nat) : Int) + 1) = V.int ((a.length + (j + 1) : Nat) : Int) := by congr 1
      rw [e1, sg_put, upd2]
      refine ⟨⟨rfl, j + 1, by omega, rfl⟩, ?_⟩
      show (match (upd H s (.ins D dx (sg (a ++ (dig n ++ r)) (a.length + (j + 1))))) s with
        | some (.ins _ _ [_, (_, .int i)]) => (a.length + 2 - i.toNat)
        | _ => 0) < (match (upd H s (.ins D dx (sg (a ++ (dig n ++ r)) (a.length + j)))) s with
        | some (.ins _ _ [_, (_, .int i)]) => (a.length + 2 - i.toNat)
        | _ => 0)
      rw [upd_same, upd_same]
      show a.length + 2 - (((a.length + (j + 1) : Nat) : Int)).toNat < a.length + 2 - (((a.length + j : Nat) : Int)).toNat
      omega
    · refine ex ?_ _ rfl
      rcases Nat.lt_or_ge j (dig n).length with h | h
      · exfalso
        rw [List.getElem?_append_left h, List.getElem?_eq_getElem h] at hgj
        have hc : c = (dig n)[j] := Option.some.inj hgj
        exact h2 (by rw [hc]; exact dig_digs hn _ (List.getElem_mem h))
      · omega
  · rw [tl_sx] at h1
    exact ex (by omega) _ rfl
/-! ## two numbers -/
theorem sg_none {m : Str} (l : List Nat) (i : Nat) (h1 : (m == ("line" : Str)) = false) (h2 : (m == ("at" : Str)) = false) : (sg l i).lookup m = none := by
  unfold sg
  rw [List.lookup_cons, h1, List.lookup_cons, h2]
  rfl
def spTw (K : PySem.W.Frag) (D : Addr) : Sp := fun vs H Q _ => ∃ (s dx : Addr) (a r : List Nat) (n m : Nat), vs = [.ref s] ∧ SgV D s dx a (dig n ++ ([32] ++ (dig m ++ r))) H ∧ (a ++ (dig n ++ ([32] ++ (dig m ++ r)))).length ≤ 90000 ∧ n < 100 ∧ m < 100 ∧ noDig r ∧
  ∀ T H', Kp s H H' → SgV D s dx (a ++ dig n ++ [32] ++ dig m) r H' → H' T = some (.tup [.int (n : Nat), .int (m : Nat)]) → Q (.ref T) H'
theorem len_tw (K : PySem.W.Frag) (D : Addr) : ∀ vs H Q E, spTw K D vs H Q E → vs.length = 1 := by
  rintro _ _ _ _ ⟨s, dx, a, r, n, m, rfl, _⟩
  rfl
theorem noDig_32 (r : List Nat) : noDig ([32] ++ r) := fun c h => by
  simp at h
  subst h
  decide
theorem rd_tw (K : PySem.W.Frag) (D : Addr) (vs : List V) (H : Hp) (Q : VK) (E : XK) (h : spTw K D vs H Q E) : t_Signs__two_numbers K D (spTk K D) (spNu K D) { nx := fun _ H' => Q .non H', rt := Q } (start n_Signs__two_numbers vs) H := by
  obtain ⟨s, dx, a, r, n, m, rfl, hs, hl, hn, hm, hr, q⟩ := h
  refine ⟨.ref s, rfl, s, dx, _, rfl, hs, sg_none _ _ (by decide) (by decide), s, dx, a, [32] ++ (dig m ++ r), n, rfl, hs, hl, hn, noDig_32 _, ?_⟩
  rintro _ rfl
  have L2 : (a ++ dig n ++ ([32] ++ (dig m ++ r))).length ≤ 90000 := by rw [List.append_assoc]; exact hl
  refine ⟨.int (n : Nat), rfl, rfl, ⟨_, rfl, ?_⟩⟩
  refine ⟨.ref s, rfl, s, dx, _, rfl, upd_same, sg_none _ _ (by decide) (by decide), s, dx, a ++ dig n, [32], [32] ++ (dig m ++ r), rfl, upd_same, L2, by decide, .inl ⟨_, rfl, ?_⟩⟩
  rintro _ rfl
  rw [upd2]
  have L3 : (a ++ dig n ++ [32] ++ (dig m ++ r)).length ≤ 90000 := by rw [List.append_assoc]; exact L2
  refine ⟨.ref s, rfl, s, dx, _, rfl, upd_same, sg_none _ _ (by decide) (by decide), s, dx, a ++ dig n ++ [32], r, m, rfl, upd_same, L3, hm, hr, ?_⟩
  rintro _ rfl
  rw [upd2]
  refine ⟨.int (m : Nat), rfl, rfl, ⟨_, rfl, ?_⟩⟩
  refine ⟨.int (n : Nat), rfl, .int (m : Nat), rfl, by show 2 ≤ sizeLine; decide, fun T hT => ?_⟩
  have hsT : s ≠ T := ne_of_none upd_same hT
  refine q T _ (Kp.new (kp_upd _) hT) ?_ upd_same
  unfold SgV
  rw [upd_ne hsT, upd_same]
/-! ## trees as texts -/
mutual
def txt (L : List Nat) : Tr → List Nat
  | .go a b => [103, 111, 32] ++ (dig a ++ ([32] ++ dig b))
  | .tell k t => [116, 101, 108, 108, 32] ++ (dig k ++ ([32] ++ txt L t))
  | .read p ts => [114, 101, 97, 100, 32] ++ (dig p ++ ([32, 91] ++ (tls L ts true L ++ [93])))
def tls (L : List Nat) : List Tr → Bool → List Nat → List Nat
  | [], _, _ => []
  | _ :: _, _, [] => []
  | t :: ts, f, c :: cs => (if f then [] else [44, 32]) ++ ([c] ++ ([58, 32] ++ (txt L t ++ tls L ts false cs)))
end
theorem td_ref {S : Addr → List V → Prop} {v : V} : ∀ {t : Tr}, Dq S v (td t) → ∃ c, v = .ref c
  | .go _ _, h => by rw [td] at h; cases h; exact ⟨_, rfl⟩
  | .tell _ _, h => by rw [td] at h; cases h; exact ⟨_, rfl⟩
  | .read _ _, h => by rw [td] at h; cases h; exact ⟨_, rfl⟩
theorem pre_ne {x y : Nat} {p r : List Nat} (h : x ≠ y) : ¬ (x :: p) <+: (y :: r) := by
  rintro ⟨z, hz⟩
  exact h (List.cons.inj hz).1
/-- what is left is read no more than told -/
def spWh (K : PySem.W.Frag) (D : Addr) (d : Nat) : Sp := fun vs H Q _ => ∃ (s dx : Addr) (a r L : List Nat) (t : Tr) (w n lv : Nat), vs = [.ref s, tx L, .int (lv : Nat)] ∧ SgV D s dx a (txt L t ++ r) H ∧ (a ++ (txt L t ++ r)).length ≤ 90000 ∧
  L.length ≤ 4 ∧ w ≤ 8 ∧ n ≤ 64 ∧ okT L.length w n t ∧ ht t ≤ d ∧ lv + ht t ≤ 42 ∧ noDig r ∧
  ∀ v a' H', Kp s H H' → a' ++ r = a ++ (txt L t ++ r) → SgV D s dx a' r H' → Dq (SqT K H') v (td t) → Q v H'
def spBr (K : PySem.W.Frag) (D : Addr) (d : Nat) : Sp := fun vs H Q _ => ∃ (s dx : Addr) (a r L : List Nat) (p : Nat) (ts : List Tr) (w n lv : Nat), vs = [.ref s, tx L, .int (lv : Nat)] ∧ SgV D s dx a (dig p ++ ([32, 91] ++ (tls L ts true L ++ ([93] ++ r)))) H ∧
  (a ++ (dig p ++ ([32, 91] ++ (tls L ts true L ++ ([93] ++ r))))).length ≤ 90000 ∧ L.length ≤ 4 ∧ w ≤ 8 ∧ n ≤ 64 ∧ p ≤ w ∧ ts.length = L.length ∧ okTs L.length w n ts ∧ hts ts ≤ d ∧ lv + 1 + hts ts ≤ 42 ∧
  ∀ v a' H', Kp s H H' → a' ++ r = a ++ (dig p ++ ([32, 91] ++ (tls L ts true L ++ ([93] ++ r)))) → SgV D s dx a' r H' → Dq (SqT K H') v (td (.read p ts)) → Q v H'
theorem len_wh (K : PySem.W.Frag) (D : Addr) (d : Nat) : ∀ vs H Q E, spWh K D d vs H Q E → vs.length = 3 := by
  rintro _ _ _ _ ⟨s, dx, a, r, L, t, w, n, lv, rfl, _⟩
  rfl
theorem len_br (K : PySem.W.Frag) (D : Addr) (d : Nat) : ∀ vs H Q E, spBr K D d vs H Q E → vs.length = 3 := by
  rintro _ _ _ _ ⟨s, dx, a, r, L, p, ts, w, n, lv, rfl, _⟩
  rfl
theorem no_wh (K : PySem.W.Frag) (D : Addr) : ∀ vs H Q E, spWh K D 0 vs H Q E → False := by
  rintro _ _ _ _ ⟨s, dx, a, r, L, t, w, n, lv, _, _, _, _, _, _, _, h, _⟩
  have := ht_pos t
  omega
theorem rd_wh (K : PySem.W.Frag) (D : Addr) (d : Nat) (vs : List V) (H : Hp) (Q : VK) (E : XK) (h : spWh K D (d + 1) vs H Q E) : t_Signs__whole K D (spTk K D) (spNu K D) (spTw K D) (spWh K D d) (spBr K D d) { nx := fun _ H' => Q .non H', rt := Q } (start n_Signs__whole vs) H := by
  obtain ⟨s, dx, a, r, L, t, w, n, lv, rfl, hs, hl, hL, hw, hn, hok, hd, hlv, hr, q⟩ := h
  have hpos := ht_pos t
  refine ⟨.int (lv : Nat), rfl, _, rfl, ?_⟩
  rw [decide_eq_false (show ¬ (41 : Int) < (lv : Nat) by omega)]
  cases t with
  | go x y =>
    rw [okT] at hok
    rw [txt] at hs hl q
    rw [List.append_assoc, List.append_assoc, List.append_assoc] at hs hl
    refine ⟨.ref s, rfl, s, dx, _, rfl, hs, sg_none _ _ (by decide) (by decide), s, dx, a, [103, 111, 32], _, rfl, hs, hl, by decide, .inl ⟨_, rfl, ?_⟩⟩
    rintro _ rfl
    refine ⟨.ref s, rfl, s, dx, _, rfl, upd_same, sg_none _ _ (by decide) (by decide), s, dx, a ++ [103, 111, 32], r, x, y, rfl, upd_same, by rw [List.append_assoc]; exact hl, by omega, by omega, hr, fun T H1 k1 h1 hT => ?_⟩
    refine ⟨.ref T, rfl, rfl, _, rfl, ?_⟩
    refine ⟨.ref T, rfl, _, _, .inr (SqT.of hT), rfl, .ref T, rfl, _, _, .inr (SqT.of hT), rfl, by show 3 ≤ sizeLine; decide, fun T2 hT2 => ?_⟩
    have hsT : s ≠ T2 := ne_of_none h1 hT2
    refine q _ _ _ (((kp_upd _).trans k1).new hT2) ?_ (show SgV D s dx (a ++ [103, 111, 32] ++ dig x ++ [32] ++ dig y) r _ from (upd_ne hsT).trans h1) (mk_go (SqT.of upd_same))
    simp only [List.append_assoc]
  | tell k t =>
    rw [okT] at hok
    rw [ht] at hd hlv
    rw [txt] at hs hl q
    rw [List.append_assoc, List.append_assoc, List.append_assoc] at hs hl
    refine ⟨.ref s, rfl, s, dx, _, rfl, hs, sg_none _ _ (by decide) (by decide), s, dx, a, [103, 111, 32], _, rfl, hs, hl, by decide, .inr ⟨pre_ne (by decide), ?_⟩⟩
    refine ⟨.ref s, rfl, s, dx, _, rfl, hs, sg_none _ _ (by decide) (by decide), s, dx, a, [116, 101, 108, 108, 32], _, rfl, hs, hl, by decide, .inl ⟨_, rfl, ?_⟩⟩
    rintro _ rfl
    have L2 : (a ++ [116, 101, 108, 108, 32] ++ (dig k ++ ([32] ++ (txt L t ++ r)))).length ≤ 90000 := by rw [List.append_assoc]; exact hl
    refine ⟨.ref s, rfl, s, dx, _, rfl, upd_same, sg_none _ _ (by decide) (by decide), s, dx, a ++ [116, 101, 108, 108, 32], [32] ++ (txt L t ++ r), k, rfl, upd_same, L2, by omega, noDig_32 _, ?_⟩
    rintro _ rfl
    rw [upd2]
    have L3 : (a ++ [116, 101, 108, 108, 32] ++ dig k ++ ([32] ++ (txt L t ++ r))).length ≤ 90000 := by rw [List.append_assoc]; exact L2
    refine ⟨.int (k : Nat), rfl, rfl, _, rfl, ?_⟩
    refine ⟨.ref s, rfl, s, dx, _, rfl, upd_same, sg_none _ _ (by decide) (by decide), s, dx, a ++ [116, 101, 108, 108, 32] ++ dig k, [32], [32] ++ (txt L t ++ r), rfl, upd_same, L3, by decide, .inl ⟨_, rfl, ?_⟩⟩
    rintro _ rfl
    rw [upd2]
    have L4 : (a ++ [116, 101, 108, 108, 32] ++ dig k ++ [32] ++ (txt L t ++ r)).length ≤ 90000 := by rw [List.append_assoc]; exact L3
    refine ⟨.ref s, rfl, s, dx, _, rfl, upd_same, sg_none _ _ (by decide) (by decide), tx L, rfl, .int (lv : Nat), rfl, s, dx, a ++ [116, 101, 108, 108, 32] ++ dig k ++ [32], r, L, t, w, n, lv + 1, rfl, upd_same, L4, hL, hw, hn, hok.2, by omega, by omega, hr, fun v a' H1 k1 e1 h1 hv => ?_⟩
    obtain ⟨c, rfl⟩ := td_ref hv
    refine ⟨.ref c, rfl, rfl, _, rfl, ?_⟩
    refine ⟨.int (k : Nat), rfl, .ref c, rfl, by show 3 ≤ sizeLine; decide, fun T2 hT2 => ?_⟩
    have hsT : s ≠ T2 := ne_of_none h1 hT2
    refine q _ a' _ (((kp_upd _).trans k1).new hT2) ?_ ((upd_ne hsT).trans h1) (mk_tell (SqT.of upd_same) (dq_same (Same.new hT2) hv))
    rw [e1]
    simp only [List.append_assoc]
  | read p ts =>
    rw [okT] at hok
    rw [ht] at hd hlv
    rw [txt] at hs hl q
    rw [List.append_assoc, List.append_assoc, List.append_assoc, List.append_assoc] at hs hl
    refine ⟨.ref s, rfl, s, dx, _, rfl, hs, sg_none _ _ (by decide) (by decide), s, dx, a, [103, 111, 32], _, rfl, hs, hl, by decide, .inr ⟨pre_ne (by decide), ?_⟩⟩
    refine ⟨.ref s, rfl, s, dx, _, rfl, hs, sg_none _ _ (by decide) (by decide), s, dx, a, [116, 101, 108, 108, 32], _, rfl, hs, hl, by decide, .inr ⟨pre_ne (by decide), ?_⟩⟩
    refine ⟨.ref s, rfl, s, dx, _, rfl, hs, sg_none _ _ (by decide) (by decide), s, dx, a, [114, 101, 97, 100, 32], _, rfl, hs, hl, by decide, .inl ⟨_, rfl, ?_⟩⟩
    rintro _ rfl
    have L2 : (a ++ [114, 101, 97, 100, 32] ++ (dig p ++ ([32, 91] ++ (tls L ts true L ++ ([93] ++ r))))).length ≤ 90000 := by rw [List.append_assoc]; exact hl
    refine ⟨.ref s, rfl, s, dx, _, rfl, upd_same, sg_none _ _ (by decide) (by decide), tx L, rfl, .int (lv : Nat), rfl, s, dx, a ++ [114, 101, 97, 100, 32], r, L, p, ts, w, n, lv, rfl, upd_same, L2, hL, hw, hn, hok.1, hok.2.1, hok.2.2, by omega, by omega, fun v a' H1 k1 e1 h1 hv => ?_⟩
    refine q v a' H1 ((kp_upd _).trans k1) ?_ h1 hv
    rw [e1]
    simp only [List.append_assoc]
/-! ## branches -/
theorem noDig_tls (L : List Nat) (ts : List Tr) (cs r : List Nat) : noDig (tls L ts false cs ++ ([93] ++ r)) := by
  intro c h
  cases ts with
  | nil =>
    rw [tls] at h
    simp at h
    subst h
    decide
  | cons t ts =>
    cases cs with
    | nil =>
      rw [tls] at h
      simp at h
      subst h
      decide
    | cons x cs =>
      rw [tls] at h
      simp at h
      subst h
      decide
theorem tif_c {k : Bool} {x y : V} {σ : L2.St} {H : Hp} {Q : VK} (h : Q (if k = true then x else y) H) : if k = true then tC x σ H Q else tC y σ H Q := by
  cases k <;> exact h
theorem tds_snoc (ts : List Tr) (i : Nat) (h : i < ts.length) : tds (ts.take (i + 1)) = tds (ts.take i) ++ [td ts[i]] := by
  rw [tds_map, tds_map, List.take_add_one, List.getElem?_eq_getElem h, List.map_append]
  rfl
theorem rd_br (K : PySem.W.Frag) (D : Addr) (d : Nat) (vs : List V) (H : Hp) (Q : VK) (E : XK) (h : spBr K D d vs H Q E) : t_Signs__branches K D (spTk K D) (spNu K D) (spWh K D d) { nx := fun _ H' => Q .non H', rt := Q } (start n_Signs__branches vs) H := by
  obtain ⟨s, dx, a, r, L, p, ts, w, n, lv, rfl, hs, hl, hL, hw, hn, hp, hts, hok, hd, hlv, q⟩ := h
  have hok' := okTs_iff.mp hok
  refine ⟨.ref s, rfl, s, dx, _, rfl, hs, sg_none _ _ (by decide) (by decide), s, dx, a, [32, 91] ++ (tls L ts true L ++ ([93] ++ r)), p, rfl, hs, hl, by omega, noDig_32 ([91] ++ (tls L ts true L ++ ([93] ++ r))), ?_⟩
  rintro _ rfl
  refine ⟨by show 0 ≤ sizeLine; decide, fun B hB => ⟨_, _, rfl, ?_⟩⟩
  have hsB : s ≠ B := ne_of_none upd_same hB
  generalize hH1 : upd (upd H s (.ins D dx (sg (a ++ dig p ++ ([32, 91] ++ (tls L ts true L ++ ([93] ++ r)))) (a ++ dig p).length))) B (.lst []) = H1
  have hs1 : SgV D s dx (a ++ dig p) ([32, 91] ++ (tls L ts true L ++ ([93] ++ r))) H1 := by
    rw [← hH1]
    exact (upd_ne hsB).trans upd_same
  have hB1 : H1 B = some (.lst []) := by rw [← hH1]; exact upd_same
  have k1 : Kp s H H1 := by rw [← hH1]; exact (kp_upd _).new hB
  have L2 : (a ++ dig p ++ ([32, 91] ++ (tls L ts true L ++ ([93] ++ r)))).length ≤ 90000 := by rw [List.append_assoc]; exact hl
  refine ⟨.int (p : Nat), rfl, rfl, _, rfl, ?_⟩
  refine ⟨.ref s, rfl, s, dx, _, rfl, hs1, sg_none _ _ (by decide) (by decide), s, dx, a ++ dig p, [32, 91], _, rfl, hs1, L2, by decide, .inl ⟨_, rfl, ?_⟩⟩
  rintro _ rfl
  generalize hH2 : upd H1 s (.ins D dx (sg (a ++ dig p ++ [32, 91] ++ (tls L ts true L ++ ([93] ++ r))) (a ++ dig p ++ [32, 91]).length)) = H2
  have hs2 : SgV D s dx (a ++ dig p ++ [32, 91]) (tls L ts true L ++ ([93] ++ r)) H2 := by rw [← hH2]; exact upd_same
  have hB2 : H2 B = some (.lst []) := by rw [← hH2]; exact (upd_ne hsB.symm).trans hB1
  have k2 : Kp s H H2 := by rw [← hH2]; exact k1.trans (kp_upd _)
  generalize hF : a ++ (dig p ++ ([32, 91] ++ (tls L ts true L ++ ([93] ++ r)))) = F at hl q
  refine ⟨tx L, rfl, ?_⟩
  refine for_it walk_str (fun i σ H' => ∃ a' acc v5 v6, σ = [some (.ref s), some (tx L), some (.int (lv : Nat)), some (.int (p : Nat)), some (.ref B), v5, v6] ∧ Kp s H H' ∧ H' B = some (.lst acc) ∧ acc.length = i ∧ DqA (SqT K H') acc (tds (ts.take i)) ∧
    SgV D s dx a' (tls L (ts.drop i) (i == 0) (L.drop i) ++ ([93] ++ r)) H' ∧ a' ++ (tls L (ts.drop i) (i == 0) (L.drop i) ++ ([93] ++ r)) = F)
    ⟨_, [], none, none, rfl, k2, hB2, rfl, by rw [List.take_zero, tds]; exact .nil, hs2, by rw [← hF]; simp only [List.append_assoc]; rfl⟩ (fun i σ H' _ h => True.intro) ?_ ?_
  · rintro i x σ H3 H4 hi ⟨a', acc, v5, v6, rfl, k3, hB3, hacc, hA3, hs3, e3⟩ ⟨rfl, c, hc, rfl⟩
    have hiL : i < L.length := by simpa using hi
    have hit : i < ts.length := by omega
    have hcL : L[i] = c := by
      have h1 : L[i]? = some c := by simpa using hc
      rw [List.getElem?_eq_getElem hiL] at h1
      exact Option.some.inj h1
    have hB0 : H B = none := by rw [← upd_ne (H := H) hsB.symm]; exact hB
    obtain ⟨sep, hsep⟩ : ∃ sep : List Nat, sep = (if (i == 0) = true then [] else [44, 32]) := ⟨_, rfl⟩
    have hsl : sep.length ≤ 2 := by rw [hsep]; split <;> decide
    have hT : tls L (ts.drop i) (i == 0) (L.drop i) = sep ++ ([c] ++ ([58, 32] ++ (txt L ts[i] ++ tls L (ts.drop (i + 1)) false (L.drop (i + 1))))) := by
      rw [List.drop_eq_getElem_cons hit, List.drop_eq_getElem_cons hiL, tls, hcL, ← hsep]
    rw [hT] at hs3 e3
    generalize hR : tls L (ts.drop (i + 1)) false (L.drop (i + 1)) ++ ([93] ++ r) = R at *
    have e4 : sep ++ ([c] ++ ([58, 32] ++ (txt L ts[i] ++ tls L (ts.drop (i + 1)) false (L.drop (i + 1))))) ++ ([93] ++ r) = (sep ++ [c] ++ [58, 32]) ++ (txt L ts[i] ++ R) := by
      rw [← hR]
      simp only [List.append_assoc]
    rw [e4] at hs3 e3
    have hk : (if (!acc.isEmpty) = true then tx [44, 32] else tx []) = tx sep := by
      rw [hsep]
      cases acc with
      | nil =>
        have : i = 0 := by rw [← hacc]; rfl
        subst this
        rfl
      | cons y ys =>
        have : i ≠ 0 := by rw [← hacc]; simp
        have h2 : (i == 0) = false := by simpa using this
        rw [h2]
        rfl
    refine ⟨.ref s, rfl, s, dx, _, rfl, hs3, sg_none _ _ (by decide) (by decide), .ref B, rfl, !acc.isEmpty, .inl ⟨acc, SqL.of hB3, rfl⟩, tif_c ?_⟩
    rw [hk]
    have hl3 : (a' ++ ((sep ++ [c] ++ [58, 32]) ++ (txt L ts[i] ++ R))).length ≤ 90000 := by rw [e3]; exact hl
    refine ⟨tx [c], rfl, by rw [tl_sx, tl_sx]; simp; omega, by rw [tl_sx, tl_sx, tl_sx]; simp; omega, s, dx, a', sep ++ [c] ++ [58, 32], _, rfl, hs3, hl3, by simp; omega, .inl ⟨_, rfl, ?_⟩⟩
    rintro _ rfl
    have hti := okTs_iff.mp hok _ (List.getElem_mem hit)
    have hhi := hts_le (List.getElem_mem hit)
    refine ⟨.ref s, rfl, s, dx, _, rfl, upd_same, sg_none _ _ (by decide) (by decide), tx L, rfl, .int (lv : Nat), rfl, s, dx, a' ++ (sep ++ [c] ++ [58, 32]), R, L, ts[i], w, n, lv + 1, rfl, upd_same, by rw [List.append_assoc]; exact hl3, hL, hw, hn, hti, by omega, by omega, by rw [← hR]; exact noDig_tls _ _ _ _, fun v a2 H5 k5 e5 h5 hv => ?_⟩
    obtain ⟨cc, rfl⟩ := td_ref hv
    have kall : Kp s H4 H5 := (kp_upd _).trans k5
    have hB5 : H5 B = some (.lst acc) := kall _ _ hsB.symm hB3
    refine ⟨.ref cc, rfl, rfl, _, rfl, ?_⟩
    refine ⟨.ref B, rfl, .inl ⟨rfl, _, SqL.of hB5⟩, .ref cc, rfl, B, acc, .ref cc, rfl, rfl, hB5, by rw [hacc]; exact small1000 (by omega), ?_⟩
    have kB : Kp B H5 (upd H5 B (.lst (acc ++ [.ref cc]))) := kp_upd _
    have mono : ∀ b ys, SqT K H5 b ys → SqT K (upd H5 B (.lst (acc ++ [.ref cc]))) b ys := fun b ys hs => sqT_kp kB (fun o e => by rw [hB5] at e; cases e; exact ⟨fun _ => (fun z => by cases z), fun _ _ => (fun z => by cases z)⟩) hs
    refine ⟨a2, acc ++ [.ref cc], some (tx [c]), some (.ref cc), rfl, (k3.trans kall).mut hB0, upd_same, by rw [List.length_append, hacc]; rfl, ?_, ?_, ?_⟩
    · rw [tds_snoc ts i hit]
      exact dqa_app (dqa_mono (fun b ys hs => mono b ys (sqT_ins hs3 kall hs)) hA3) (.cons (dq_mono mono hv) .nil)
    · show SgV D s dx a2 (tls L (ts.drop (i + 1)) false (L.drop (i + 1)) ++ ([93] ++ r)) _
      rw [hR]
      exact (upd_ne hsB).trans h5
    · show a2 ++ (tls L (ts.drop (i + 1)) false (L.drop (i + 1)) ++ ([93] ++ r)) = F
      rw [hR, e5, ← e3]
      simp only [List.append_assoc]
  · rintro σ H3 ⟨a', acc, v5, v6, rfl, k3, hB3, hacc, hA3, hs3, e3⟩
    have hsz : (sx L).cps.size = ts.length := by rw [hts]; simp
    rw [hsz, List.drop_length, tls, List.nil_append] at hs3 e3
    rw [hsz, List.take_length] at hA3
    have hl3 : (a' ++ ([93] ++ r)).length ≤ 90000 := by rw [e3]; exact hl
    refine ⟨.ref s, rfl, s, dx, _, rfl, hs3, sg_none _ _ (by decide) (by decide), s, dx, a', [93], _, rfl, hs3, hl3, by decide, .inl ⟨_, rfl, ?_⟩⟩
    rintro _ rfl
    have hB5 : (upd H3 s (.ins D dx (sg (a' ++ [93] ++ r) (a' ++ [93]).length))) B = some (.lst acc) := (upd_ne hsB.symm).trans hB3
    refine ⟨.int (p : Nat), rfl, .ref B, rfl, acc, .inl ⟨SqL.of hB5, fun e he => ⟨by show 3 ≤ sizeLine; decide, fun T hT => ?_⟩⟩⟩
    have hse : s ≠ e := ne_of_none upd_same he
    have heT : e ≠ T := ne_of_none upd_same hT
    have hsT : s ≠ T := ne_of_none ((upd_ne hse).trans upd_same) hT
    refine q (.ref T) (a' ++ [93]) _ (((k3.trans (kp_upd _)).new he).new hT) (by rw [List.append_assoc]; exact e3) ((upd_ne hsT).trans ((upd_ne hse).trans upd_same)) ?_
    refine mk_read (e := e) (us := acc) (SqT.of upd_same) (SqT.of (by rw [upd_ne heT]; exact upd_same)) ?_
    exact dqa_same ((Same.new he).trans (Same.new hT)) (dqa_mono (fun b ys hs => sqT_ins hs3 (kp_upd _) hs) hA3)
/-! ## a line read -/
def spRt (K : PySem.W.Frag) : Sp := fun vs H Q _ => ∃ (L : List Nat) (t : Tr) (w n : Nat), vs = [tx L, tx (txt L t)] ∧ (txt L t).length ≤ 90000 ∧ L.length ≤ 4 ∧ w ≤ 8 ∧ n ≤ 64 ∧ okT L.length w n t ∧ ht t ≤ 41 ∧
  ∀ v H', Same H H' → Dq (SqT K H') v (td t) → Q v H'
theorem len_rt (K : PySem.W.Frag) : ∀ vs H Q E, spRt K vs H Q E → vs.length = 2 := by
  rintro _ _ _ _ ⟨L, t, w, n, rfl, _⟩
  rfl
theorem rd_rt (K : PySem.W.Frag) (D : Addr) (T : SF K D) (vs : List V) (H : Hp) (Q : VK) (E : XK) (h : spRt K vs H Q E) : t_read_tree K D (spSi K D) (spWh K D 42) { nx := fun _ H' => Q .non H', rt := Q } (start n_read_tree vs) H := by
  obtain ⟨L, t, w, n, rfl, hl, hL, hw, hn, hok, hd, q⟩ := h
  refine ⟨tx (txt L t), rfl, fun x dx hx hdx hne => ⟨x, dx, txt L t, rfl, upd_same, rfl, ?_⟩⟩
  have S0 : Same H (upd (upd (upd H dx (.own x)) x (.ins D dx [])) x (.ins D dx (sg (txt L t) 0))) := fun b o e => by
    rw [upd_ne (ne_of_none e hx), upd_ne (ne_of_none e hx), upd_ne (ne_of_none e hdx)]
    exact e
  have e0 : txt L t = [] ++ (txt L t ++ []) := by rw [List.append_nil, List.nil_append]
  refine ⟨.ref x, rfl, x, dx, _, rfl, upd_same, sg_none _ _ (by decide) (by decide), tx L, rfl, x, dx, [], [], L, t, w, n, 1, rfl, ?_, by rw [← e0]; exact hl, hL, hw, hn, hok, by omega, by omega, fun c hc => by simp at hc, fun v a' H1 k1 e1 h1 hv => ?_⟩
  · show (upd _ x _) x = _
    rw [upd_same, ← e0]
    rfl
  · have ea : a' = txt L t := by simpa using e1
    subst ea
    have h2 : H1 x = some (.ins D dx (sg (txt L t ++ []) (txt L t).length)) := h1
    rw [List.append_nil] at h2
    have S1 : Same H H1 := fun b o e => k1 b o (ne_of_none e hx) (S0 _ _ e)
    refine ⟨.ref x, rfl, x, D, dx, _, .int ((txt L t).length : Nat), rfl, h2, T.cl, T.nA, sgA _ _, tx (txt L t), rfl, by rw [tl_sx]; omega, rfl, _, rfl, iteD (fun _ => ?_) (fun h => absurd rfl h)⟩
    exact ⟨v, rfl, q v H1 S1 hv⟩
/-! ## the head read -/
theorem cut_negL (l : List Nat) (k : Nat) (h0 : 0 < k) (h1 : k ≤ l.length) : cutL l none (some (-(k : Nat) : Int)) = l.take (l.length - k) := by
  unfold cutL HT.sIx
  dsimp only
  rw [if_pos (by omega), List.drop_zero]
  congr 1
  omega
theorem cut_negR (l : List Nat) (k : Nat) (h0 : 0 < k) (h1 : k ≤ l.length) : cutL l (some (-(k : Nat) : Int)) none = l.drop (l.length - k) := by
  unfold cutL HT.sIx
  dsimp only
  rw [if_pos (by omega)]
  have e : (-((k : Nat) : Int) + (l.length : Int)).toNat = l.length - k := by omega
  rw [e, List.take_of_length_le (by rw [List.length_drop]; omega)]
theorem cut_neg2 (l : List Nat) (k m : Nat) (h0 : 0 < m) (hm : m < k) (h1 : k ≤ l.length) : cutL l (some (-(k : Nat) : Int)) (some (-(m : Nat) : Int)) = (l.drop (l.length - k)).take (k - m) := by
  unfold cutL HT.sIx
  dsimp only
  rw [if_pos (by omega), if_pos (by omega)]
  have e : (-((k : Nat) : Int) + (l.length : Int)).toNat = l.length - k := by omega
  have e2 : (-((m : Nat) : Int) + (l.length : Int)).toNat = l.length - m := by omega
  rw [e, e2]
  congr 1
  omega
def spRh (K : PySem.W.Frag) : Sp := fun vs H Q _ => ∃ (L : List Nat) (w : Nat), vs = [tx (L ++ ([32] ++ dig w))] ∧ LetOk L ∧ 1 ≤ w ∧ w ≤ 8 ∧ ∀ T H', Same H H' → H' T = some (.tup [tx L, .int (w : Nat)]) → Q (.ref T) H'
theorem len_rh (K : PySem.W.Frag) : ∀ vs H Q E, spRh K vs H Q E → vs.length = 1 := by
  rintro _ _ _ _ ⟨L, w, rfl, _⟩
  rfl
theorem rd_rh (K : PySem.W.Frag) (vs : List V) (H : Hp) (Q : VK) (E : XK) (h : spRh K vs H Q E) : t_read_head K spCl { nx := fun _ H' => Q .non H', rt := Q } (start n_read_head vs) H := by
  obtain ⟨L, w, rfl, hL, w0, w1, q⟩ := h
  have hL4 := hL.2.1
  have hdw : dig w = [48 + w] := by unfold dig; rw [if_pos (by omega)]
  have hlen : (L ++ ([32] ++ dig w)).length = L.length + 2 := by rw [hdw]; simp
  have c1 : cutL (tl (sx (L ++ ([32] ++ dig w)))) none (some (-2 : Int)) = L := by
    rw [tl_sx]
    refine (cut_negL _ 2 (by decide) (by omega)).trans ?_
    rw [hlen, Nat.add_sub_cancel, List.take_left]
  have c2 : cutL (tl (sx (L ++ ([32] ++ dig w)))) (some (-1 : Int)) none = dig w := by
    rw [tl_sx]
    refine (cut_negR _ 1 (by decide) (by omega)).trans ?_
    rw [hlen, ← List.append_assoc, show L.length + 2 - 1 = (L ++ [32]).length by simp, List.drop_left]
  have c3 : cutL (tl (sx (L ++ ([32] ++ dig w)))) (some (-2 : Int)) (some (-1 : Int)) = [32] := by
    rw [tl_sx]
    refine (cut_neg2 _ 2 1 (by decide) (by decide) (by omega)).trans ?_
    rw [hlen, Nat.add_sub_cancel, List.drop_left]
    rfl
  have hsz : (tl (sx (L ++ ([32] ++ dig w)))).length ≤ 100000 := by rw [tl_sx]; omega
  refine ⟨_, rfl, -2, rfl, hsz, ?_⟩
  rw [c1]
  refine ⟨_, rfl, -1, rfl, hsz, ?_⟩
  rw [c2]
  refine ⟨_, _, rfl, ?_⟩
  refine ⟨tx L, rfl, L, rfl, hL, fun H1 S1 => ?_⟩
  refine ⟨_, rfl, -2, rfl, -1, rfl, hsz, ?_⟩
  rw [c3]
  refine ⟨rfl, _, rfl, iteN (fun h => absurd rfl h) (fun _ => ?_)⟩
  refine ⟨tx (dig w), rfl, .inl ⟨48 + w, by rw [tl_sx, hdw], _, rfl, iteN (fun h => absurd (dig_digs (n := w) (by omega) (48 + w) (by rw [hdw]; exact List.mem_singleton.mpr rfl)) h) (fun _ => ?_)⟩⟩
  refine ⟨tx (dig w), rfl, w, rfl, by omega, _, rfl, ?_⟩
  rw [decide_eq_true (show (1 : Int) ≤ (w : Nat) by omega)]
  refine ⟨_, rfl, ?_⟩
  rw [decide_eq_true (show ((w : Nat) : Int) ≤ 8 by omega)]
  refine ⟨tx L, rfl, tx (dig w), rfl, w, rfl, by omega, by show 2 ≤ sizeLine; decide, fun T hT => ?_⟩
  exact q T _ (Same.new' S1 hT) upd_same
/-! ## a tree written -/
def itm (L : List Nat) : List Tr → List Nat → List (List Nat)
  | t :: ts, c :: cs => ([c] ++ ([58, 32] ++ txt L t)) :: itm L ts cs
  | _, _ => []
theorem itm_len (L : List Nat) : ∀ (ts : List Tr) (cs : List Nat), ts.length = cs.length → (itm L ts cs).length = ts.length
  | [], [], _ => rfl
  | t :: ts, c :: cs, h => congrArg Nat.succ (itm_len L ts cs (by simpa using h))
theorem itm_get (L : List Nat) : ∀ (ts : List Tr) (cs : List Nat) (i : Nat) (h1 : i < ts.length) (h2 : i < cs.length), (itm L ts cs)[i]? = some ([cs[i]] ++ ([58, 32] ++ txt L ts[i]))
  | [], _, i, h, _ => by simp at h
  | _ :: _, [], i, _, h => by simp at h
  | t :: ts, c :: cs, 0, _, _ => rfl
  | t :: ts, c :: cs, i + 1, h1, h2 => by
    show (itm L ts cs)[i]? = _
    rw [itm_get L ts cs i (by simpa using h1) (by simpa using h2)]
    rfl
theorem tls_false (L : List Nat) : ∀ (ts : List Tr) (cs : List Nat), tls L ts false cs = ((itm L ts cs).map fun p => [44, 32] ++ p).flatten
  | [], _ => by rw [tls, itm]; rfl; rintro _ _ _ _ h; cases h
  | t :: ts, [] => by rw [tls, itm]; rfl; rintro _ _ _ _ _ h; cases h
  | t :: ts, c :: cs => by
    rw [tls, itm, List.map_cons, List.flatten_cons, tls_false L ts cs]
    simp only [List.append_assoc]
    rfl
theorem tls_true (L : List Nat) : ∀ (ts : List Tr) (cs : List Nat), tls L ts true cs = joinL [44, 32] (itm L ts cs)
  | [], _ => by rw [tls, itm]; rfl; rintro _ _ _ _ h; cases h
  | t :: ts, [] => by rw [tls, itm]; rfl; rintro _ _ _ _ _ h; cases h
  | t :: ts, c :: cs => by
    rw [tls, itm, joinL_cons, tls_false L ts cs]
    simp only [List.append_assoc]
    rfl
theorem join_sum (a : List Nat) : ∀ ps : List (List Nat), (ps.map List.length).sum + ps.length * a.length ≤ (joinL a ps).length + a.length
  | [] => by simp
  | x :: r => by
    rw [joinL_cons]
    have key : ∀ r : List (List Nat), (r.map fun p => a ++ p).flatten.length = (r.map List.length).sum + r.length * a.length := by
      intro r
      induction r with
      | nil => simp
      | cons y r ih => rw [List.map_cons, List.flatten_cons, List.length_append, ih, List.map_cons, List.sum_cons, List.length_append, List.length_cons, Nat.succ_mul]; omega
    rw [List.length_append, key, List.map_cons, List.sum_cons, List.length_cons, Nat.succ_mul]
    omega
theorem join_part (a : List Nat) (ps : List (List Nat)) (x : List Nat) (h : x ∈ ps) : x.length ≤ (joinL a ps).length := by
  cases ps with
  | nil => cases h
  | cons y r =>
    rw [joinL_cons, List.length_append]
    rcases List.mem_cons.mp h with e | e
    · rw [e]; omega
    · have : ∀ r : List (List Nat), x ∈ r → x.length ≤ (r.map fun p => a ++ p).flatten.length := by
        intro r
        induction r with
        | nil => intro h; cases h
        | cons z r ih =>
          intro h
          rw [List.map_cons, List.flatten_cons, List.length_append, List.length_append]
          rcases List.mem_cons.mp h with e | e
          · rw [e]; omega
          · have := ih e; omega
      have := this r e
      omega
def spTt (K : PySem.W.Frag) (d : Nat) : Sp := fun vs H Q _ => ∃ (v : V) (t : Tr) (L : List Nat) (w n : Nat), vs = [v, tx L] ∧ Dq (Seq2 K H) v (td t) ∧ (txt L t).length ≤ 90000 ∧ L.length ≤ 4 ∧ w ≤ 8 ∧ n ≤ 64 ∧ okT L.length w n t ∧ ht t ≤ d ∧ ∀ H', Same H H' → Q (tx (txt L t)) H'
theorem len_tt (K : PySem.W.Frag) (d : Nat) : ∀ vs H Q E, spTt K d vs H Q E → vs.length = 2 := by
  rintro _ _ _ _ ⟨v, t, L, w, n, rfl, _⟩
  rfl
theorem no_tt (K : PySem.W.Frag) : ∀ vs H Q E, spTt K 0 vs H Q E → False := by
  rintro _ _ _ _ ⟨v, t, L, w, n, _, _, _, _, _, _, _, h, _⟩
  have := ht_pos t
  omega
theorem rd_tt (K : PySem.W.Frag) (d : Nat) (vs : List V) (H : Hp) (Q : VK) (E : XK) (h : spTt K (d + 1) vs H Q E) : t_tree_text K (spTt K d) { nx := fun _ H' => Q .non H', rt := Q } (start n_tree_text vs) H := by
  obtain ⟨v, t, L, w, n, rfl, hv, hl, hL, hw, hn, hok, hd, q⟩ := h
  cases t with
  | go x y =>
    obtain ⟨c, rfl, hc⟩ := dq_go hv
    rw [okT] at hok
    have dx := dig_len x
    have dy := dig_len y
    refine ⟨.ref c, rfl, _, _, hc, rfl, rfl, _, rfl, ?_⟩
    refine ⟨.ref c, rfl, _, _, hc, rfl, x, rfl, by omega, by simp only [tl_sx, List.length_append, List.length_cons, List.length_nil]; omega, by simp only [tl_sx, List.length_append, List.length_cons, List.length_nil]; omega, .ref c, rfl, _, _, hc, rfl, y, rfl, by omega, by simp only [tl_sx, List.length_append, List.length_cons, List.length_nil]; omega, ?_⟩
    have q1 := q H (Same.refl H)
    rw [txt] at q1
    simp only [tl_sx, List.append_assoc] at q1 ⊢
    exact q1
  | tell k t =>
    obtain ⟨c, u, rfl, hc, hu⟩ := dq_tell hv
    rw [okT] at hok
    rw [ht] at hd
    have dk := dig_len k
    have hl2 : (txt L t).length ≤ 90000 := by
      rw [txt] at hl
      simp only [List.length_append] at hl
      omega
    refine ⟨.ref c, rfl, _, _, hc, rfl, rfl, _, rfl, ?_⟩
    refine ⟨.ref c, rfl, _, _, hc, rfl, rfl, _, rfl, ?_⟩
    refine ⟨.ref c, rfl, _, _, hc, rfl, k, rfl, by omega, by simp only [tl_sx, List.length_append, List.length_cons, List.length_nil]; omega, by simp only [tl_sx, List.length_append, List.length_cons, List.length_nil]; omega, .ref c, rfl, _, _, hc, rfl, tx L, rfl, u, t, L, w, n, rfl, hu, hl2, hL, hw, hn, hok.2, by omega, fun H1 S1 => ⟨by simp only [tl_sx, List.length_append, List.length_cons, List.length_nil]; omega, ?_⟩⟩
    have q1 := q H1 S1
    rw [txt] at q1
    simp only [tl_sx, List.append_assoc] at q1 ⊢
    exact q1
  | read p ts =>
    obtain ⟨c, e, us, rfl, hc, he, hu⟩ := dq_read hv
    rw [okT] at hok
    rw [ht] at hd
    have dp := dig_len p
    have hts := hok.2.1
    have lus : us.length = ts.length := by rw [dqa_len hu, tds_map, List.length_map]
    have hJ : (joinL [44, 32] (itm L ts L)).length ≤ 90000 ∧ [114, 101, 97, 100, 32] ++ (dig p ++ ([32, 91] ++ (joinL [44, 32] (itm L ts L) ++ [93]))) = txt L (.read p ts) := by
      rw [txt, tls_true] at *
      refine ⟨?_, rfl⟩
      simp only [List.length_append] at hl
      omega
    have hI : ∀ i (hi : i < ts.length), (txt L ts[i]).length ≤ 90000 ∧ ([L[i]'(by omega)] ++ ([58, 32] ++ txt L ts[i])).length ≤ 90000 := by
      intro i hi
      have h1 := itm_get L ts L i hi (by omega)
      have h2 : ([L[i]'(by omega)] ++ ([58, 32] ++ txt L ts[i])).length ≤ (joinL [44, 32] (itm L ts L)).length := join_part [44, 32] (itm L ts L) _ (List.mem_of_getElem? h1)
      simp only [List.length_append, List.length_cons, List.length_nil] at h2 ⊢
      omega
    refine ⟨.ref c, rfl, _, _, hc, rfl, rfl, _, rfl, ?_⟩
    refine ⟨.ref c, rfl, _, _, hc, rfl, rfl, _, rfl, ?_⟩
    obtain ⟨G, hG⟩ := src2 he
    refine ⟨tx L, rfl, .ref c, rfl, _, _, hc, rfl, tx L, .ref e, _, _, _, _, _, _, rfl, .text _, (hG _ (Same.refl H)).1, fun D hD => ?_⟩
    refine lcW walk_G (I := fun i acc H' => i ≤ ts.length ∧ acc = ((itm L ts L).take i).map tx ∧ Same H H') (fun i acc H' u h => ⟨h.1, h.2.1, Same.mut h.2.2 hD⟩) (fun i acc H' _ h => ⟨trivial, (hG _ h.2.2).2⟩) ⟨Nat.zero_le _, rfl, Same.refl H⟩
      (fun i acc H' h => by rw [h.2.1, List.length_map, List.length_take]; have := h.1; omega) (fun i x acc H' H'' hi hI2 hacc y K1 K2 k1 k2 => ?step) (fun acc H' hacc hI2 => ?fin)
    case step =>
      obtain ⟨T, x1, x2, rfl, hT, rfl, e1, e2⟩ := y
      obtain ⟨hi0, rfl, S1⟩ := hI2
      have hi1 : i < L.length := by rw [tl_sx] at hi; omega
      have hi2 : i < ts.length := by omega
      rw [tl_sx] at e1
      dsimp only at e1 e2
      rw [List.getElem?_eq_getElem hi1] at e1
      obtain rfl : tx [L[i]] = x1 := Option.some.inj e1
      obtain ⟨dd, g1, g2⟩ := dqa_get hu e2
      rw [tds_map, List.getElem?_map, List.getElem?_eq_getElem hi2] at g1
      obtain rfl : td ts[i] = dd := Option.some.inj g1
      have hDT : D ≠ T := ne_of_none hacc hT
      have S2 := Same.new' (o := .tup [tx [L[i]], x2]) S1 hT
      obtain ⟨z1, z2⟩ := hI i hi2
      have hti := okTs_iff.mp hok.2.2 _ (List.getElem_mem hi2)
      have hhi := hts_le (List.getElem_mem hi2)
      refine ⟨T, _, rfl, SqT.of upd_same, rfl, _, _, rfl, _, _, rfl, rfl, rfl, ?_⟩
      refine ⟨tx [L[i]], rfl, by simp only [tl_sx, List.length_append, List.length_cons, List.length_nil]; omega, x2, rfl, tx L, rfl, x2, ts[i], L, w, n, rfl, dq2_same S2 g2, z1, hL, hw, hn, hti, by omega, fun H4 S4 => ⟨by simp only [tl_sx, List.length_append, List.length_cons, List.length_nil]; omega, ?_⟩⟩
      refine k1 _ _ (S4 _ _ ((upd_ne hDT).trans hacc)) ⟨by omega, ?_, S2.trans S4⟩
      rw [List.take_add_one, itm_get L ts L i hi2 hi1, List.map_append]
      rfl
    case fin =>
      obtain ⟨_, rfl, S1⟩ := hI2
      have hfull : (itm L ts L).take (min (tl (sx L)).length us.length) = itm L ts L := by
        refine List.take_of_length_le ?_
        rw [itm_len L ts L hts, tl_sx]
        omega
      rw [hfull] at hacc
      have hcH : Seq2 K H' c [tx kRead, .int (p : Nat), .ref e] := hc.imp (fun h => S1.seq h) (fun h => sqT_same S1 h)
      have hsum := join_sum [44, 32] (itm L ts L)
      have hil := itm_len L ts L hts
      refine ⟨.ref c, rfl, _, _, hcH, rfl, p, rfl, by omega, by simp only [tl_sx, List.length_append, List.length_cons, List.length_nil]; omega, by simp only [tl_sx, List.length_append, List.length_cons, List.length_nil]; omega, ⟨_, rfl⟩, .ref D, rfl, itm L ts L, .inl (SqL.of hacc), ?_, ?_⟩
      · rw [tl_sx]
        show _ + _ * 2 ≤ _
        have : (([44, 32] : List Nat).length : Nat) = 2 := rfl
        rw [this] at hsum
        omega
      · refine ⟨by simp only [tl_sx, List.length_append, List.length_cons, List.length_nil]; omega, by simp only [tl_sx, List.length_append, List.length_cons, List.length_nil]; omega, ?_⟩
        have q1 := q H' S1
        rw [← hJ.2] at q1
        simp only [tl_sx, List.append_assoc] at q1 ⊢
        exact q1
/-! ## a tree written by the law -/
def spLn (K : PySem.W.Frag) (d : Nat) : Sp := spTt K d
theorem rd_ln (K : PySem.W.Frag) (d : Nat) (vs : List V) (H : Hp) (Q : VK) (E : XK) (h : spLn K (d + 1) vs H Q E) : t__law_line K (spLn K d) { nx := fun _ H' => Q .non H', rt := Q } (start n__law_line vs) H := by
  obtain ⟨v, t, L, w, n, rfl, hv, hl, hL, hw, hn, hok, hd, q⟩ := h
  cases t with
  | go x y =>
    obtain ⟨c, rfl, hc⟩ := dq_go hv
    rw [okT] at hok
    have dx := dig_len x
    have dy := dig_len y
    refine ⟨.ref c, rfl, _, _, hc, rfl, rfl, _, rfl, ?_⟩
    refine ⟨.ref c, rfl, _, _, hc, rfl, x, rfl, by omega, by simp only [tl_sx, List.length_append, List.length_cons, List.length_nil]; omega, by simp only [tl_sx, List.length_append, List.length_cons, List.length_nil]; omega, .ref c, rfl, _, _, hc, rfl, y, rfl, by omega, by simp only [tl_sx, List.length_append, List.length_cons, List.length_nil]; omega, ?_⟩
    have q1 := q H (Same.refl H)
    rw [txt] at q1
    simp only [tl_sx, List.append_assoc] at q1 ⊢
    exact q1
  | tell k t =>
    obtain ⟨c, u, rfl, hc, hu⟩ := dq_tell hv
    rw [okT] at hok
    rw [ht] at hd
    have dk := dig_len k
    have hl2 : (txt L t).length ≤ 90000 := by
      rw [txt] at hl
      simp only [List.length_append] at hl
      omega
    refine ⟨.ref c, rfl, _, _, hc, rfl, rfl, _, rfl, ?_⟩
    refine ⟨.ref c, rfl, _, _, hc, rfl, rfl, _, rfl, ?_⟩
    refine ⟨.ref c, rfl, _, _, hc, rfl, k, rfl, by omega, by simp only [tl_sx, List.length_append, List.length_cons, List.length_nil]; omega, by simp only [tl_sx, List.length_append, List.length_cons, List.length_nil]; omega, .ref c, rfl, _, _, hc, rfl, tx L, rfl, u, t, L, w, n, rfl, hu, hl2, hL, hw, hn, hok.2, by omega, fun H1 S1 => ⟨by simp only [tl_sx, List.length_append, List.length_cons, List.length_nil]; omega, ?_⟩⟩
    have q1 := q H1 S1
    rw [txt] at q1
    simp only [tl_sx, List.append_assoc] at q1 ⊢
    exact q1
  | read p ts =>
    obtain ⟨c, e, us, rfl, hc, he, hu⟩ := dq_read hv
    rw [okT] at hok
    rw [ht] at hd
    have dp := dig_len p
    have hts := hok.2.1
    have lus : us.length = ts.length := by rw [dqa_len hu, tds_map, List.length_map]
    have hJ : (joinL [44, 32] (itm L ts L)).length ≤ 90000 ∧ [114, 101, 97, 100, 32] ++ (dig p ++ ([32, 91] ++ (joinL [44, 32] (itm L ts L) ++ [93]))) = txt L (.read p ts) := by
      rw [txt, tls_true] at *
      refine ⟨?_, rfl⟩
      simp only [List.length_append] at hl
      omega
    have hI : ∀ i (hi : i < ts.length), (txt L ts[i]).length ≤ 90000 ∧ ([L[i]'(by omega)] ++ ([58, 32] ++ txt L ts[i])).length ≤ 90000 := by
      intro i hi
      have h1 := itm_get L ts L i hi (by omega)
      have h2 : ([L[i]'(by omega)] ++ ([58, 32] ++ txt L ts[i])).length ≤ (joinL [44, 32] (itm L ts L)).length := join_part [44, 32] (itm L ts L) _ (List.mem_of_getElem? h1)
      simp only [List.length_append, List.length_cons, List.length_nil] at h2 ⊢
      omega
    refine ⟨.ref c, rfl, _, _, hc, rfl, rfl, _, rfl, ?_⟩
    refine ⟨.ref c, rfl, _, _, hc, rfl, rfl, _, rfl, ?_⟩
    refine ⟨tx L, rfl, by rw [tl_sx]; omega, _, rfl, by rw [tl_sx]; omega, by rw [tl_sx]; omega, fun D hD => ?_⟩
    refine lcW walk_range (I := fun i acc H' => i ≤ ts.length ∧ acc = ((itm L ts L).take i).map tx ∧ Same H H') (fun i acc H' u h => ⟨h.1, h.2.1, Same.mut h.2.2 hD⟩) (fun i acc H' _ h => trivial) ⟨Nat.zero_le _, rfl, Same.refl H⟩
      (fun i acc H' h => by rw [h.2.1, List.length_map, List.length_take]; have := h.1; omega) (fun i x acc H' H'' hi hI2 hacc y K1 K2 k1 k2 => ?step) (fun acc H' hacc hI2 => ?fin)
    case step =>
      obtain ⟨rfl, rfl⟩ := y
      obtain ⟨hi0, rfl, S1⟩ := hI2
      have hi1 : i < L.length := by rw [tl_sx] at hi; simpa using hi
      have hi2 : i < ts.length := by omega
      have hi3 : i < us.length := by omega
      obtain ⟨dd, g1, g2⟩ := dqa_get hu (List.getElem?_eq_getElem hi3)
      rw [tds_map, List.getElem?_map, List.getElem?_eq_getElem hi2] at g1
      obtain rfl : td ts[i] = dd := Option.some.inj g1
      obtain ⟨z1, z2⟩ := hI i hi2
      have hti := okTs_iff.mp hok.2.2 _ (List.getElem_mem hi2)
      have hhi := hts_le (List.getElem_mem hi2)
      have hat : atI L (i : Int) = some L[i] := atI_nat (List.getElem?_eq_getElem hi1)
      have hat2 : atI us (i : Int) = some us[i] := atI_nat (List.getElem?_eq_getElem hi3)
      have e0 : (0 : Int) + (i : Nat) = (i : Nat) := by omega
      refine ⟨rfl, ?_⟩
      refine ⟨tx L, rfl, .int (0 + (i : Nat)), rfl, by rw [tl_sx]; omega, L[i], by rw [e0]; exact hat, ?_⟩
      refine ⟨by simp only [tl_sx, List.length_append, List.length_cons, List.length_nil]; omega, ?_⟩
      have hcH : Seq2 K H'' c [tx kRead, .int (p : Nat), .ref e] := hc.imp (fun h => S1.seq h) (fun h => sqT_same S1 h)
      have heH : Seq2 K H'' e us := he.imp (fun h => S1.seq h) (fun h => sqT_same S1 h)
      refine ⟨.ref c, rfl, _, _, hcH, rfl, .int (0 + (i : Nat)), rfl, us, us[i], heH, by rw [e0]; exact hat2, tx L, rfl, us[i], ts[i], L, w, n, rfl, dq2_same S1 g2, z1, hL, hw, hn, hti, by omega, fun H4 S4 => ⟨by simp only [tl_sx, List.length_append, List.length_cons, List.length_nil]; omega, ?_⟩⟩
      refine k1 _ _ (S4 _ _ hacc) ⟨by omega, ?_, S1.trans S4⟩
      rw [List.take_add_one, itm_get L ts L i hi2 hi1, List.map_append]
      rfl
    case fin =>
      obtain ⟨_, rfl, S1⟩ := hI2
      have hfull : (itm L ts L).take (((tl (sx L)).length : Nat) : Int).toNat = itm L ts L := by
        refine List.take_of_length_le ?_
        rw [itm_len L ts L hts, tl_sx, hts]
        simp
      rw [hfull] at hacc
      have hcH : Seq2 K H' c [tx kRead, .int (p : Nat), .ref e] := hc.imp (fun h => S1.seq h) (fun h => sqT_same S1 h)
      have hsum := join_sum [44, 32] (itm L ts L)
      have hil := itm_len L ts L hts
      refine ⟨.ref c, rfl, _, _, hcH, rfl, p, rfl, by omega, by simp only [tl_sx, List.length_append, List.length_cons, List.length_nil]; omega, by simp only [tl_sx, List.length_append, List.length_cons, List.length_nil]; omega, ⟨_, rfl⟩, .ref D, rfl, itm L ts L, .inl (SqL.of hacc), ?_, ?_⟩
      · rw [tl_sx]
        show _ + _ * 2 ≤ _
        have : (([44, 32] : List Nat).length : Nat) = 2 := rfl
        rw [this] at hsum
        omega
      · refine ⟨by simp only [tl_sx, List.length_append, List.length_cons, List.length_nil]; omega, by simp only [tl_sx, List.length_append, List.length_cons, List.length_nil]; omega, ?_⟩
        have q1 := q H' S1
        rw [← hJ.2] at q1
        simp only [tl_sx, List.append_assoc] at q1 ⊢
        exact q1
/-! ## written -/
def due (L : List Nat) (w : Nat) (ts : List Tr) : List Nat := joinL [10] ((L ++ ([32] ++ dig w)) :: ts.map (txt L))
/-- a searcher that stands -/
structure Srch (K : PySem.W.Frag) (C : Addr) (H : Hp) (a : Addr) (L : List Nat) (w : Nat) (ts : List Tr) : Prop where
  ex : ∃ dx b n, H a = some (.ins C dx (sf L w b n)) ∧ Dq (SqT K H) (.ref b) (.tuple (tds ts))
def OkS (L : List Nat) (w : Nat) (ts : List Tr) : Prop := LetOk L ∧ 1 ≤ w ∧ w ≤ 8 ∧ 1 ≤ ts.length ∧ ts.length ≤ 5 ∧ (∀ t ∈ ts, okT L.length w ts.length t ∧ ht t ≤ 40) ∧ (due L w ts).length ≤ 80000 ∧ szs ts ≤ 3000
def spWr (K : PySem.W.Frag) (C : Addr) : Sp := fun vs H Q _ => ∃ (a : Addr) (L : List Nat) (w : Nat) (ts : List Tr), vs = [.ref a] ∧ Srch K C H a L w ts ∧ OkS L w ts ∧ ∀ H', Same H H' → Q (tx (due L w ts)) H'
theorem len_wr (K : PySem.W.Frag) (C : Addr) : ∀ vs H Q E, spWr K C vs H Q E → vs.length = 1 := by
  rintro _ _ _ _ ⟨a, L, w, ts, rfl, _⟩
  rfl
theorem rd_wr (K : PySem.W.Frag) (C : Addr) (T : CF K C) (vs : List V) (H : Hp) (Q : VK) (E : XK) (h : spWr K C vs H Q E) : t_Searcher__written K (spTt K 41) { nx := fun _ H' => Q .non H', rt := Q } (start n_Searcher__written vs) H := by
  obtain ⟨a, L, w, ts, rfl, ⟨dx, b, n, ha, hb⟩, ⟨hL, w0, w1, n0, n1, hok, hl, hz⟩, q⟩ := h
  have hL4 := hL.2.1
  have dw := dig_len w
  obtain ⟨us, hbs, hA⟩ : ∃ us, SqT K H b us ∧ DqA (SqT K H) us (tds ts) := by
    cases hb with
    | tup s k => exact ⟨_, s, k⟩
  have lus : us.length = ts.length := by rw [dqa_len hA, tds_map, List.length_map]
  refine ⟨.ref a, rfl, a, C, dx, _, tx L, rfl, ha, T.cl, T.nL, sfL L w b n, by simp only [tl_sx, List.length_append, List.length_cons, List.length_nil]; omega, .ref a, rfl, a, C, dx, _, .int (w : Nat), rfl, ha, T.cl, T.nW, sfW L w b n, w, rfl, by omega, by simp only [tl_sx, List.length_append, List.length_cons, List.length_nil]; omega, by show 1 ≤ sizeLine; decide, fun B hB => ?_⟩
  have S1 := Same.new (o := .lst [tx (tl (sx (tl (sx L) ++ tl (sx [32]))) ++ tl (sx (dig w)))]) hB
  refine ⟨⟨_, rfl⟩, .ref B, rfl, .ref a, rfl, a, C, dx, _, .ref b, rfl, S1 _ _ ha, T.cl, T.nS, sfS L w b n, .inr ⟨us, sqT_same S1 hbs, fun D hD => ?_⟩⟩
  have hDB : D ≠ B := fun e => by rw [e, upd_same] at hD; cases hD
  refine lcW walk_tup (I := fun i acc H' => i ≤ ts.length ∧ acc = ((ts.map (txt L)).take i).map tx ∧ Same (upd H B (.lst [tx (tl (sx (tl (sx L) ++ tl (sx [32]))) ++ tl (sx (dig w)))])) H') (fun i acc H' u h => ⟨h.1, h.2.1, Same.mut h.2.2 hD⟩) (fun i acc H' _ h => sqT_same h.2.2 (sqT_same S1 hbs)) ⟨Nat.zero_le _, rfl, Same.refl _⟩
    (fun i acc H' h => by rw [h.2.1, List.length_map, List.length_take]; have := h.1; omega) (fun i x acc H' H'' hi hI2 hacc y K1 K2 k1 k2 => ?step) (fun acc H' hacc hI2 => ?fin)
  case step =>
    obtain ⟨rfl, hx⟩ := y
    obtain ⟨hi0, rfl, S2⟩ := hI2
    have hi2 : i < ts.length := by omega
    obtain ⟨dd, g1, g2⟩ := dqa_get hA hx
    rw [tds_map, List.getElem?_map, List.getElem?_eq_getElem hi2] at g1
    obtain rfl : td ts[i] = dd := Option.some.inj g1
    obtain ⟨ok1, ok2⟩ := hok _ (List.getElem_mem hi2)
    have z1 : (txt L ts[i]).length ≤ 90000 := by
      have := join_part [10] ((L ++ ([32] ++ dig w)) :: ts.map (txt L)) (txt L ts[i]) (List.mem_cons_of_mem _ (List.mem_map_of_mem (List.getElem_mem hi2)))
      have h2 : (joinL [10] ((L ++ ([32] ++ dig w)) :: ts.map (txt L))).length ≤ 80000 := hl
      omega
    have ha2 := S2 _ _ (S1 _ _ ha)
    refine ⟨rfl, x, rfl, .ref a, rfl, a, C, dx, _, tx L, rfl, ha2, T.cl, T.nL, sfL L w b n, x, ts[i], L, w, ts.length, rfl, dq_mono (fun _ _ h => .inr h) (dq_same (S1.trans S2) g2), z1, hL4, w1, by omega, ok1, by omega, fun H4 S4 => ?_⟩
    refine k1 _ _ (S4 _ _ hacc) ⟨by omega, ?_, S2.trans S4⟩
    rw [List.take_add_one, List.getElem?_map, List.getElem?_eq_getElem hi2, List.map_append]
    rfl
  case fin =>
    obtain ⟨_, rfl, S2⟩ := hI2
    have hfull : (ts.map (txt L)).take us.length = ts.map (txt L) := List.take_of_length_le (by rw [List.length_map]; omega)
    rw [hfull] at hacc
    have hB2 := S2 _ _ (upd_same (H := H) (a := B) (o := .lst [tx (tl (sx (tl (sx L) ++ tl (sx [32]))) ++ tl (sx (dig w)))]))
    refine .inl ⟨_, _, hB2, hacc, by simp only [List.length_map, List.length_cons, List.length_nil]; omega, fun p hp => ?_⟩
    have hsum := join_sum [10] ((L ++ ([32] ++ dig w)) :: ts.map (txt L))
    have h2 : (joinL [10] ((L ++ ([32] ++ dig w)) :: ts.map (txt L))).length ≤ 80000 := hl
    refine ⟨(L ++ ([32] ++ dig w)) :: ts.map (txt L), .inl (SqL.of ?_), ?_, ?_⟩
    · rw [upd_same]
      simp only [tl_sx, List.append_assoc]
      rfl
    · rw [tl_sx]
      have : (([10] : List Nat).length : Nat) = 1 := rfl
      rw [this] at hsum ⊢
      omega
    · exact q _ (Same.new' (S1.trans S2) hp)
/-! ## read -/
theorem dig_48 (n : Nat) : ∀ c ∈ dig n, 48 ≤ c := by
  intro c hc
  unfold dig at hc
  split at hc
  · rw [List.mem_singleton.mp hc]; omega
  · simp at hc
    rcases hc with e | e <;> rw [e] <;> omega
mutual
theorem txt_no (L : List Nat) (hL : ∀ c ∈ L, c ≠ 10) : ∀ t : Tr, 10 ∉ txt L t
  | .go a b => by
    rw [txt]
    have h1 : 10 ∉ dig a := fun h => by have := dig_48 a _ h; omega
    have h2 : 10 ∉ dig b := fun h => by have := dig_48 b _ h; omega
    simp [h1, h2]
  | .tell k t => by
    rw [txt]
    have h1 : 10 ∉ dig k := fun h => by have := dig_48 k _ h; omega
    have h2 := txt_no L hL t
    simp [h1, h2]
  | .read p ts => by
    rw [txt]
    have h1 : 10 ∉ dig p := fun h => by have := dig_48 p _ h; omega
    have h2 := tls_no L hL ts true L hL
    simp [h1, h2]
theorem tls_no (L : List Nat) (hL : ∀ c ∈ L, c ≠ 10) : ∀ (ts : List Tr) (f : Bool) (cs : List Nat), (∀ c ∈ cs, c ≠ 10) → 10 ∉ tls L ts f cs
  | [], _, _, _ => by rw [tls]; simp
  | t :: ts, f, [], _ => by rw [tls]; simp
  | t :: ts, f, c :: cs, h => by
    rw [tls]
    have h1 := txt_no L hL t
    have h2 := tls_no L hL ts false cs fun x hx => h x (List.mem_cons_of_mem _ hx)
    have h3 := h c List.mem_cons_self
    cases f <;> simp [h1, h2, Ne.symm h3]
end
def spRd (K : PySem.W.Frag) (C : Addr) : Sp := fun vs H Q _ => ∃ (L : List Nat) (w : Nat) (ts : List Tr), vs = [.ref C, tx (due L w ts)] ∧ OkS L w ts ∧ ∀ a H', Same H H' → Srch K C H' a L w ts → Q (.ref a) H'
theorem len_rd (K : PySem.W.Frag) (C : Addr) : ∀ vs H Q E, spRd K C vs H Q E → vs.length = 2 := by
  rintro _ _ _ _ ⟨L, w, ts, rfl, _⟩
  rfl
theorem rd_rd (K : PySem.W.Frag) (C : Addr) (vs : List V) (H : Hp) (Q : VK) (E : XK) (h : spRd K C vs H Q E) : t_Searcher__read K C (spRh K) (spRt K) (spChecked K 40) (spTt K 41) (spInit K C 40) { nx := fun _ H' => Q .non H', rt := Q } (start n_Searcher__read vs) H := by
  obtain ⟨L, w, ts, rfl, ⟨hL, w0, w1, n0, n1, hok, hl, hz⟩, q⟩ := h
  have hL4 := hL.2.1
  have hLn : ∀ c ∈ L, c ≠ 10 := fun c hc e => by have := (hL.2.2.2 c hc).1; omega
  have hno : ∀ p ∈ (L ++ ([32] ++ dig w)) :: ts.map (txt L), 10 ∉ p := by
    intro p hp
    rcases List.mem_cons.mp hp with e | e
    · rw [e]
      intro h
      simp only [List.mem_append] at h
      rcases h with h | h | h
      · exact hLn _ h rfl
      · simp at h
      · have := dig_48 w _ h; omega
    · obtain ⟨t, ht, rfl⟩ := List.mem_map.mp e
      exact txt_no L hLn t
  have hl2 : (joinL [10] ((L ++ ([32] ++ dig w)) :: ts.map (txt L))).length ≤ 80000 := hl
  refine ⟨tx (due L w ts), rfl, _, _, .base (.str _), kb_str, ?_⟩
  refine ⟨tx (due L w ts), rfl, ⟨_, rfl⟩, (L ++ ([32] ++ dig w)) :: ts.map (txt L), by simp, hno, rfl, rfl, by omega, fun A hA => ?_⟩
  have S1 := Same.new (o := .lst (((L ++ ([32] ++ dig w)) :: ts.map (txt L)).map tx)) hA
  refine ⟨.ref A, rfl, _, _, .inl (SqL.of upd_same), atI_nat (j := 0) rfl, L, w, rfl, hL, w0, w1, fun T H1 S2 hT => ?_⟩
  refine ⟨T, _, rfl, SqT.of hT, rfl, _, _, rfl, _, _, rfl, rfl, ?_⟩
  have hA1 := S2 _ _ (upd_same (H := H) (a := A) (o := .lst (((L ++ ([32] ++ dig w)) :: ts.map (txt L)).map tx)))
  refine ⟨.ref A, rfl, _, .inl (SqL.of hA1), by show 0 ≤ sizeLine; decide, fun B hB => ⟨_, _, rfl, ?_⟩⟩
  have em : V.int (((((L ++ ([32] ++ dig w)) :: ts.map (txt L)).map tx).length : Nat) - (1 : Int)) = V.int (ts.length : Nat) := by
    congr 1
    simp
  rw [em]
  refine ⟨.int (ts.length : Nat), rfl, _, rfl, ?_⟩
  rw [decide_eq_false (show ¬ (64 : Int) < (ts.length : Nat) by omega)]
  refine ⟨.ref A, rfl, 1, rfl, .inl ⟨A, _, rfl, SqL.of ((Same.new hB) _ _ hA1), fun e he => ?_⟩⟩
  have hcut : cutV (((L ++ ([32] ++ dig w)) :: ts.map (txt L)).map tx) (some (1 : Int)) none = (ts.map (txt L)).map tx := cutV_drop (((L ++ ([32] ++ dig w)) :: ts.map (txt L)).map tx) 1
  rw [hcut]
  generalize hH2 : upd (upd H1 B (.lst [])) e (.lst ((ts.map (txt L)).map tx)) = H2
  have hBe : B ≠ e := ne_of_none upd_same he
  have he2 : H2 e = some (.lst ((ts.map (txt L)).map tx)) := by rw [← hH2]; exact upd_same
  have hB2 : H2 B = some (.lst []) := by rw [← hH2]; exact (upd_ne hBe).trans upd_same
  have S3 : Same H H2 := by rw [← hH2]; exact Same.new' (Same.new' (S1.trans S2) hB) he
  have hB0 : H B = none := by
    cases hh : H B with
    | none => rfl
    | some o => rw [(S1.trans S2) _ _ hh] at hB; cases hB
  have sam : ∀ {H'}, Kp B H2 H' → Same H H' := fun {H'} k b o h => k b o (ne_of_none h hB0) (S3 _ _ h)
  refine ⟨_, _, _, (fun H' => SqL K H' e ((ts.map (txt L)).map tx)), rfl, .list (SqL.of he2), ?_⟩
  refine for_it walk_E (fun i σ H' => ∃ acc v7 v8 v9, σ = [some (.ref C), some (tx (due L w ts)), some (.ref A), some (tx L), some (.int (w : Nat)), some (.int (ts.length : Nat)), some (.ref B), v7, v8, v9] ∧ Kp B H2 H' ∧ H' B = some (.lst acc) ∧ acc.length = i ∧ DqA (SqT K H') acc (tds (ts.take i)))
    ⟨[], none, none, none, rfl, Kp.refl _ _, hB2, rfl, by rw [List.take_zero, tds]; exact .nil⟩ (fun i σ H' _ ⟨acc, v7, v8, v9, _, k, _⟩ => SqL.of (k _ _ hBe.symm he2)) ?_ ?_
  · rintro i y σ H3 H4 hi ⟨acc, v7, v8, v9, rfl, k3, hB3, hacc, hA3⟩ ⟨T2, z, rfl, hT2, rfl, hz2⟩
    have hit : i < ts.length := by simpa using hi
    have hz3 : z = tx (txt L ts[i]) := by
      dsimp only at hz2
      rw [List.getElem?_map, List.getElem?_map, List.getElem?_eq_getElem hit] at hz2
      exact (Option.some.inj hz2).symm
    subst hz3
    obtain ⟨ok1, ok2⟩ := hok _ (List.getElem_mem hit)
    have z1 : (txt L ts[i]).length ≤ 80000 := by
      have := join_part [10] ((L ++ ([32] ++ dig w)) :: ts.map (txt L)) (txt L ts[i]) (List.mem_cons_of_mem _ (List.mem_map_of_mem (List.getElem_mem hit)))
      omega
    refine ⟨T2, _, rfl, SqT.of upd_same, rfl, _, _, rfl, _, _, rfl, rfl, ?_⟩
    have S4 := Same.new (o := .tup [.int (i : Nat), tx (txt L ts[i])]) hT2
    refine ⟨tx L, rfl, tx (txt L ts[i]), rfl, L, ts[i], w, ts.length, rfl, by omega, hL4, w1, by omega, ok1, by omega, fun v H5 S5 hv => ?_⟩
    obtain ⟨cc, rfl⟩ := td_ref hv
    refine ⟨.ref cc, rfl, rfl, _, rfl, ?_⟩
    refine ⟨.ref cc, rfl, tx L, rfl, by rw [tl_sx]; omega, .int (w : Nat), rfl, .int (ts.length : Nat), rfl, .ref cc, ts[i], L.length, w, ts.length, 1, 0, rfl, dq_mono (fun _ _ h => .inr h) hv, ok1, by omega, ok2, by decide, fun T3 H6 S6 hT3 => ?_⟩
    refine ⟨_, _, .inr (SqT.of hT3), atI_nat (j := 0) rfl, ?_⟩
    refine ⟨.ref cc, rfl, tx L, rfl, .ref cc, ts[i], L, w, ts.length, rfl, dq_mono (fun _ _ h => .inr h) (dq_same S6 hv), by omega, hL4, w1, by omega, ok1, by omega, fun H7 S7 => ?_⟩
    refine ⟨tx (txt L ts[i]), rfl, rfl, _, rfl, iteN (fun h => absurd rfl h) (fun _ => ?_)⟩
    have S37 : Same H3 H7 := ((S4.trans S5).trans S6).trans S7
    have hB7 := S37 _ _ hB3
    refine ⟨.ref B, rfl, .inl ⟨rfl, _, SqL.of hB7⟩, .ref cc, rfl, B, acc, .ref cc, rfl, rfl, hB7, by rw [hacc]; exact small1000 (by omega), ?_⟩
    have mono : ∀ b ys, SqT K H7 b ys → SqT K (upd H7 B (.lst (acc ++ [.ref cc]))) b ys := fun b ys hs => sqT_kp (kp_upd _) (fun o e => by rw [hB7] at e; cases e; exact ⟨fun _ => (fun z => by cases z), fun _ _ => (fun z => by cases z)⟩) hs
    refine ⟨acc ++ [.ref cc], some (.int (i : Nat)), some (tx (txt L ts[i])), some (.ref cc), rfl, (k3.trans (Kp.of S37)).trans (kp_upd _), upd_same, by rw [List.length_append, hacc]; rfl, ?_⟩
    rw [tds_snoc ts i hit]
    exact dqa_app (dqa_mono mono (dqa_same S37 hA3)) (.cons (dq_mono mono (dq_same (S6.trans S7) hv)) .nil)
  · rintro σ H3 ⟨acc, v7, v8, v9, rfl, k3, hB3, hacc, hA3⟩
    rw [List.take_of_length_le (by simp)] at hA3
    refine ⟨.int (ts.length : Nat), rfl, rfl, _, rfl, iteD (fun h => absurd (V.int.inj h) (by omega)) (fun _ => ?_)⟩
    refine ⟨rfl, tx L, rfl, .int (w : Nat), rfl, .ref B, rfl, fun x dx hx hdx hne => ?_⟩
    have S4 : Same H3 (upd (upd H3 dx (.own x)) x (.ins C dx [])) := fun b o e => by
      rw [upd_ne (ne_of_none e hx), upd_ne (ne_of_none e hdx)]
      exact e
    refine ⟨x, dx, L, w, B, acc, ts, rfl, upd_same, hL, w0, w1, .inl (SqL.of (S4 _ _ hB3)), dqa_mono (fun _ _ h => .inr h) (dqa_same S4 hA3), hok, n0, by omega, hz, fun b H5 k5 h5 hb5 => ⟨rfl, ?_⟩⟩
    refine q x H5 (fun b o h => k5 b o (ne_of_none (sam k3 _ _ h) hx) (S4 _ _ (sam k3 _ _ h))) ⟨dx, b, szs ts, h5, hb5⟩
/-! ## a deep tree -/
def spDp (K : PySem.W.Frag) : Sp := fun vs H Q _ => ∃ (p c : Addr) (n0 : Nat) (L : List Nat) (w n : Nat), vs = [.ref p, tx L, .int (w : Nat), .int (n : Nat)] ∧ Pen p c H n0 ∧ n0 < 2 ^ 27 ∧ 2 ≤ L.length ∧ L.length ≤ 4 ∧ w ≤ 8 ∧ 1 ≤ n ∧ n ≤ 5 ∧
  ∀ v t H', Pn p c H (n0 + 78) H' → Dq (SqT K H') v (td t) → okT L.length w n t → ht t ≤ 40 → sz t ≤ 160 → Q v H'
theorem len_dp (K : PySem.W.Frag) : ∀ vs H Q E, spDp K vs H Q E → vs.length = 4 := by
  rintro _ _ _ _ ⟨p, c, n0, L, w, n, rfl, _⟩
  rfl
theorem szs_rep (k : Nat) : szs (List.replicate k (.go 1 0)) = k := by
  induction k with
  | zero => rfl
  | succ k ih => rw [List.replicate_succ, szs, sz, ih]; omega
theorem rd_dp (K : PySem.W.Frag) (vs : List V) (H : Hp) (Q : VK) (E : XK) (h : spDp K vs H Q E) : t__law_deep_tree K spDraw { nx := fun _ H' => Q .non H', rt := Q } (start n__law_deep_tree vs) H := by
  obtain ⟨p, c, n0, L, w, n, rfl, hp, hn0, l0, l1, w1, m0, m1, q⟩ := h
  refine ⟨.int (w : Nat), rfl, .int (n : Nat), rfl, by show 3 ≤ sizeLine; decide, fun T hT => ?_⟩
  have e1 : V.int ((w : Nat) + (1 : Int)) = V.int ((w + 1 : Nat) : Int) := by congr 1
  have e2 : V.int ((n : Nat) - (1 : Int)) = V.int ((n - 1 : Nat) : Int) := by congr 1; omega
  rw [e1, e2]
  refine ⟨39, rfl, by decide, by decide, ?_⟩
  refine for_it walk_range (fun i σ H' => ∃ v t v5 v6, σ = [some (.ref p), some (tx L), some (.int (w : Nat)), some (.int (n : Nat)), some v, v5, v6] ∧ Pn p c H (n0 + 2 * i) H' ∧ Dq (SqT K H') v (td t) ∧ okT L.length w n t ∧ ht t ≤ i + 1 ∧ sz t ≤ 1 + 4 * i)
    ⟨.ref T, .go (w + 1) (n - 1), none, none, rfl, (Pn.refl hp).new hT, mk_go (SqT.of upd_same), by rw [okT]; omega, by rw [ht]; omega, by rw [sz]; omega⟩ (fun i σ H' _ h => trivial) ?_ ?_
  · rintro i y σ H1 H2 hi ⟨v, t, v5, v6, rfl, P, hv, ok, hh, hs⟩ ⟨rfl, rfl⟩
    have hi39 : i < 39 := hi
    refine ⟨.ref p, rfl, p, c, _, 3, rfl, P.pen, by omega, by decide, by decide, fun r H3 r0 r1 P1 => ⟨_, rfl, iteD (fun hr => ?_) (fun hr => ?_)⟩⟩
    · refine ⟨.ref p, rfl, p, c, _, 3, rfl, P1.pen, by omega, by decide, by decide, fun k H4 k0 k1 P2 => ⟨v, rfl, by show 3 ≤ sizeLine; decide, fun T2 hT2 => ?_⟩⟩
      obtain ⟨kn, rfl⟩ : ∃ kn : Nat, k = kn := ⟨k.toNat, by omega⟩
      have P3 := P1.trans P2
      refine ⟨.ref T2, .tell kn t, _, _, rfl, ((P.trans P3).new hT2).mono (by omega), mk_tell (SqT.of upd_same) (dq_same (Same.new hT2) (dq_pn P.pen P3 hv)), by rw [okT]; exact ⟨by omega, ok⟩, by rw [ht]; omega, by rw [sz]; omega⟩
    · refine ⟨.int (w : Nat), rfl, v, rfl, by show 1 ≤ sizeLine; decide, fun T1 hT1 => ?_⟩
      refine ⟨tx L, rfl, 1, rfl, by rw [tl_sx]; omega, fun D hD => ?_⟩
      have hcut : cutL (tl (sx L)) (some (1 : Int)) none = L.drop 1 := cutL_drop L 1
      rw [hcut]
      have P3 := P.trans P1
      have hv3 := dq_pn P.pen P1 hv
      refine lcW walk_str (I := fun i acc H' => i ≤ (L.drop 1).length ∧ acc.length = i ∧ Same (upd H3 T1 (.tup [v])) H' ∧ ∀ H5, Kp D H' H5 → (∃ xs, H5 D = some (.lst xs)) → DqA (SqT K H5) acc (tds (List.replicate i (.go 1 0))))
        (fun i acc H' u h => ⟨h.1, h.2.1, Same.mut h.2.2.1 hD, fun H2 kp => h.2.2.2 H2 (kp_new kp)⟩) (fun _ _ _ _ _ => trivial) ⟨Nat.zero_le _, rfl, Same.refl _, fun _ _ _ => by rw [List.replicate_zero, tds]; exact .nil⟩
        (fun i acc H' h => by have := h.1; have := h.2.1; rw [List.length_drop] at *; omega) (fun j x acc H' H'' hj hI hacc y K1 K2 k1 k2 => ?step) (fun acc H' hacc hI => ?fin)
      case step =>
        obtain ⟨rfl, c', hc', rfl⟩ := y
        obtain ⟨h0, hl, S1, hA⟩ := hI
        have hj2 : j < (L.drop 1).length := by simpa using hj
        refine ⟨rfl, by show 3 ≤ sizeLine; decide, fun T3 hT3 => ?_⟩
        have hD3 := (upd_ne (o := .tup [tx kGo, .int 1, .int 0]) (ne_of_none hacc hT3)).trans hacc
        refine k1 _ _ hD3 ⟨by omega, by rw [List.length_append, hl]; rfl, Same.new' S1 hT3, fun H5 kp at5 => ?_⟩
        rw [List.replicate_succ', tds_app]
        exact dqa_app (hA H5 ((Kp.of (Same.new hT3)).trans kp) at5) (by rw [tds, tds]; exact .cons (dq_kp hD3 kp (mk_go (a := 1) (b := 0) (SqT.of upd_same))) .nil)
      case fin =>
        obtain ⟨_, hl, S1, hA⟩ := hI
        have hsz : (sx (L.drop 1)).cps.size = L.length - 1 := by simp
        rw [hsz] at hl hA
        have hA5 := hA H' (Kp.refl D H') ⟨_, hacc⟩
        have hT1' := S1 _ _ (upd_same (H := H3) (a := T1) (o := .tup [v]))
        have S13 : Same H3 H' := (Same.new hT1).trans S1
        refine ⟨acc, .inl ⟨SqL.of hacc, fun u hu => ?_⟩⟩
        refine .inr (.inl ⟨T1, u, [v], acc, rfl, rfl, SqT.of ((Same.new hu) _ _ hT1'), SqT.of upd_same, by simp, Nat.le_trans (show [v].length + acc.length ≤ 10 by simp; omega) (by decide), fun e => absurd (congrArg List.length e) (by rw [hl]; simp; omega), fun _ e4 he4 => ⟨by show 3 ≤ sizeLine; decide, fun T5 hT5 => ?_⟩⟩)
        have h45 : e4 ≠ T5 := ne_of_none upd_same hT5
        have Sall := ((Same.new (o := .tup acc) hu).trans (Same.new (o := .tup ([v] ++ acc)) he4)).trans (Same.new (o := .tup [tx kRead, .int (w : Nat), .ref e4]) hT5)
        refine ⟨.ref T5, .read w (t :: List.replicate (L.length - 1) (.go 1 0)), _, _, rfl, ((P3.then S13).then Sall).mono (by omega), mk_read (e := e4) (us := v :: acc) (SqT.of upd_same) (SqT.of ((upd_ne h45).trans upd_same)) ?_, ?_, ?_, ?_⟩
        · rw [tds]
          exact .cons (dq_same (S13.trans Sall) hv3) (dqa_same Sall hA5)
        · rw [okT]
          refine ⟨Nat.le_refl _, by simp; omega, okTs_iff.mpr fun s hs2 => ?_⟩
          rcases List.mem_cons.mp hs2 with e | e
          · rw [e]; exact ok
          · rw [(List.mem_replicate.mp e).2, okT]; omega
        · rw [ht]
          refine Nat.succ_le_succ (le_hts fun s hs2 => ?_)
          rcases List.mem_cons.mp hs2 with e | e
          · rw [e]; exact hh
          · rw [(List.mem_replicate.mp e).2, ht]; omega
        · rw [sz, szs, szs_rep]
          omega
  · rintro σ H1 ⟨v, t, v5, v6, rfl, P, hv, ok, hh, hs⟩
    have e39 : (39 : Int).toNat = 39 := rfl
    rw [e39] at P hh hs
    exact ⟨v, rfl, q v t H1 P hv ok hh (by omega)⟩
/-! ## how long texts are -/
mutual
theorem txt_len (L : List Nat) : ∀ t : Tr, (txt L t).length + 5 ≤ 20 * sz t
  | .go a b => by
    rw [txt, sz]
    have := dig_len a
    have := dig_len b
    simp only [List.length_append, List.length_cons, List.length_nil]
    omega
  | .tell k t => by
    rw [txt, sz]
    have := dig_len k
    have := txt_len L t
    simp only [List.length_append, List.length_cons, List.length_nil]
    omega
  | .read p ts => by
    rw [txt, sz]
    have := dig_len p
    have := tls_len L ts true L
    simp only [List.length_append, List.length_cons, List.length_nil]
    omega
theorem tls_len (L : List Nat) : ∀ (ts : List Tr) (f : Bool) (cs : List Nat), (tls L ts f cs).length ≤ 20 * szs ts
  | [], _, _ => by rw [tls]; exact Nat.zero_le _
  | t :: ts, f, [] => by rw [tls]; exact Nat.zero_le _
  | t :: ts, f, c :: cs => by
    rw [tls, szs]
    have := txt_len L t
    have := tls_len L ts false cs
    cases f <;> simp only [List.length_append, List.length_cons, List.length_nil, Bool.false_eq_true, if_false, if_true] <;> omega
end
theorem due_len {L : List Nat} {w : Nat} {ts : List Tr} (hL : L.length ≤ 4) : (due L w ts).length ≤ 20 * szs ts + 10 := by
  have hw := dig_len w
  unfold due
  rw [joinL_cons]
  have key : ∀ r : List Tr, ((r.map (txt L)).map fun p => [10] ++ p).flatten.length ≤ 20 * szs r := by
    intro r
    induction r with
    | nil => simp
    | cons t r ih =>
      rw [List.map_cons, List.map_cons, List.flatten_cons, szs]
      have := txt_len L t
      simp only [List.length_append, List.length_cons, List.length_nil]
      omega
  have := key ts
  simp only [List.length_append, List.length_cons, List.length_nil]
  omega
/-! ## the law: one state may be a deep tree -/
theorem dqa_set {S : Addr → List V → Prop} {v : V} {d : PyData} (hv : Dq S v d) : ∀ {vs : List V} {ds : List PyData} (j : Nat), DqA S vs ds → DqA S (vs.set j v) (ds.set j d)
  | _, _, _, .nil => .nil
  | _, _, 0, .cons _ r => .cons hv r
  | _, _, j + 1, .cons h r => .cons h (dqa_set hv j r)
theorem law_if {K : PySem.W.Frag} {D0 : Ends} {σ : L2.St} {H H5 : Hp} {p c b : Addr} {k : Nat} {L : List Nat} {w n : Nat} {us : List V} {ts : List Tr} (h1 : σ[1]? = some (some (.ref p))) (h3 : σ[3]? = some (some (tx L))) (h4 : σ[4]? = some (some (.int (w : Nat)))) (h5 : σ[5]? = some (some (.int (n : Nat)))) (h6 : σ[6]? = some (some (.ref b)))
    (hb0 : H b = none) (P : Pn p c H k H5) (hk : k < 2 ^ 26) (P0 : Pen p c H 0) (l0 : 2 ≤ L.length) (l1 : L.length ≤ 4) (w1 : w ≤ 8) (m0 : 1 ≤ n) (m1 : n ≤ 5) (hb : H5 b = some (.lst us)) (hA : DqA (SqT K H5) us (tds ts)) (hn : ts.length = n) (hok : ∀ t ∈ ts, okT L.length w n t ∧ ht t ≤ 40 ∧ sz t ≤ 160)
    (go : ∀ us' ts' H6, H6 b = some (.lst us') → DqA (SqT K H6) us' (tds ts') → ts'.length = n → (∀ t ∈ ts', okT L.length w n t ∧ ht t ≤ 40 ∧ sz t ≤ 160) → Pn p c H (k + 79) H6 → D0.nx σ H6) :
    (tIfS (tTest (tOp (rEqq K) (tCall spDraw [] E0 (tCons (tVar 1) (tCons (tC (.int 4)) tNil))) (tC (.int 0)))) (tAsg (tCall (spDp K) [] E0 (tCons (tVar 1) (tCons (tVar 3) (tCons (tVar 4) (tCons (tVar 5) tNil))))) (gSub (tVar 6) (tOp (rMinus) (tVar 5) (tC (.int 1))) rSetL)) tNext) D0 σ H5 := by
  refine ⟨.ref p, h1, p, c, _, 4, rfl, P.pen, by omega, by decide, by decide, fun r H6 r0 r1 P1 => ⟨rfl, _, rfl, iteD (fun hr => ?_) (fun hr => ?_)⟩⟩
  · have P2 := P.trans P1
    refine ⟨.ref p, h1, tx L, h3, .int (w : Nat), h4, .int (n : Nat), h5, p, c, _, L, w, n, rfl, P2.pen, by omega, l0, l1, w1, m0, m1, fun v t H7 P3 hv ok hh hz => ?_⟩
    have lus : us.length = n := by rw [dqa_len hA, tds_map, List.length_map, hn]
    have P23 := P1.trans P3
    have hb7 := P23.lst P.pen hb
    have hA7 := dqa_pn P.pen P23 hA
    have hix : ixN us.length (((n : Nat) : Int) - 1) = some (n - 1) := by
      rw [show ((n : Nat) : Int) - 1 = ((n - 1 : Nat) : Int) by omega, lus]
      unfold ixN
      simp
      omega
    refine ⟨.ref b, h6, .int (n : Nat), h5, b, us, _, n - 1, rfl, rfl, hb7, hix, ?_⟩
    have kB : Kp b H7 (upd H7 b (.lst (us.set (n - 1) v))) := kp_upd _
    have mono : ∀ a ys, SqT K H7 a ys → SqT K (upd H7 b (.lst (us.set (n - 1) v))) a ys := fun a ys hs => sqT_kp kB (fun o e => by rw [hb7] at e; cases e; exact ⟨fun _ => (fun z => by cases z), fun _ _ => (fun z => by cases z)⟩) hs
    refine go (us.set (n - 1) v) (ts.set (n - 1) t) _ upd_same ?_ (by rw [List.length_set]; exact hn) (fun s hs => ?_) (((P.trans P23).put P0 hb0).mono (by omega))
    · rw [show tds (ts.set (n - 1) t) = (tds ts).set (n - 1) (td t) by rw [tds_map, tds_map, List.map_set]]
      exact dqa_set (dq_mono mono hv) _ (dqa_mono mono hA7)
    · rcases List.mem_or_eq_of_mem_set hs with h | h
      · exact hok s h
      · rw [h]; exact ⟨ok, hh, hz⟩
  · exact go us ts H6 (P1.lst P.pen hb) (dqa_pn P.pen P1 hA) hn hok ((P.trans P1).mono (by omega))
theorem tup_noB (ts : List Tr) : noB (.tuple (tds ts)) = true := by
  show noB.all (tds ts) = true
  exact tds_noB ts
theorem tup_depth {ts : List Tr} (h : ∀ t ∈ ts, ht t ≤ 40) : (PyData.tuple (tds ts)).depth < 160 := by
  have h1 := tds_depth ts
  have h2 := le_hts h
  show PyData.depthAll (tds ts) + 1 < 160
  omega
/-- two searchers of the same parts are told alike -/
theorem ne_same {K : PySem.W.Frag} {C a a2 : Addr} {L : List Nat} {w : Nat} {ts : List Tr} {H : Hp} {Q : V → Hp → Prop} (hok : ∀ t ∈ ts, ht t ≤ 40) (h1 : Srch K C H a L w ts) (h2 : Srch K C H a2 L w ts)
    (q : Q (.bl false) H) : rOwn C (spEq K C) K true (.ref a) (.ref a2) H Q := by
  obtain ⟨dx, e, n, h1, d1⟩ := h1
  obtain ⟨dx2, e2, n2, h2, d2⟩ := h2
  refine ⟨a, dx, _, rfl, h1, ⟨a2, rfl, .inl ⟨_, _, h2⟩⟩, a, .ref a2, L, w, e, n, tds ts, rfl, ⟨dx, h1⟩, dq_dp d1, tup_noB ts, tup_depth hok, .inl ⟨a2, L, w, e2, n2, tds ts, rfl, ⟨dx2, h2⟩, dq_dp d2, tup_noB ts, fun r hr => ?_⟩⟩
  obtain rfl : r = true := hr.mpr ⟨rfl, rfl, rfl⟩
  exact ⟨true, rfl, q⟩
theorem pn_ins {p c : Addr} {H H' : Hp} {n m : Nat} {x C dx : Addr} {fs : List (Str × V)} (P : Pn p c H n H') (hp : Pen p c H m) (h : H x = some (.ins C dx fs)) : H' x = some (.ins C dx fs) := by
  obtain ⟨_, _, _, hpd, _⟩ := hp
  exact P.kp _ _ (fun e => by rw [e, hpd] at h; cases h) h
/-! ## the law -/
def spLaw (K : PySem.W.Frag) : Sp := fun vs H Q _ => ∃ (a : Addr) (ns : List Int), vs = [.ref a] ∧ SqL K H a (ns.map V.int) ∧ ns.length ≤ 63 ∧ ∀ H', Q (.bl true) H'
theorem len_law (K : PySem.W.Frag) : ∀ vs H Q E, spLaw K vs H Q E → vs.length = 1 := by
  rintro _ _ _ _ ⟨a, ns, rfl, _⟩
  rfl
theorem sf_none {f : Str} (L : List Nat) (w : Nat) (b : Addr) (n : Nat) (h1 : (f == ("letters" : Str)) = false) (h2 : (f == ("width" : Str)) = false) (h3 : (f == ("states" : Str)) = false) (h4 : (f == ("nodes" : Str)) = false) : (sf L w b n).lookup f = none := by
  unfold sf
  rw [List.lookup_cons, h1, List.lookup_cons, h2, List.lookup_cons, h3, List.lookup_cons, h4]
  rfl
theorem Srch.same {K : PySem.W.Frag} {C : Addr} {H H' : Hp} {a : Addr} {L : List Nat} {w : Nat} {ts : List Tr} (h : Srch K C H a L w ts) (S : Same H H') : Srch K C H' a L w ts := by
  obtain ⟨dx, b, n, h1, h2⟩ := h
  exact ⟨dx, b, n, S _ _ h1, dq_same S h2⟩
theorem szs_all {b : Nat} : ∀ ts : List Tr, (∀ t ∈ ts, sz t ≤ b) → szs ts ≤ ts.length * b
  | [], _ => by rw [szs]; exact Nat.zero_le _
  | t :: ts, h => by
    have h1 := h t List.mem_cons_self
    have h2 := szs_all ts fun s hs => h s (List.mem_cons_of_mem _ hs)
    rw [szs, List.length_cons, Nat.succ_mul]
    omega
theorem rd_law (K : PySem.W.Frag) (C : Addr) (T : CF K C) (vs : List V) (H : Hp) (Q : VK) (E : XK) (h : spLaw K vs H Q E) : t_law K C (spInit K C 40) (spEq K C) (spWr K C) (spRd K C) (spPen K) spDraw spLetters (spTrees K) (spLn K 41) (spDp K) { nx := fun _ H' => Q .non H', rt := Q } (start n_law vs) H := by
  obtain ⟨a, ns, rfl, hS, hlen, q⟩ := h
  refine ⟨.ref a, rfl, a, ns, rfl, hS, hlen, fun p c H0 _ _ s0 P0 => ?_⟩
  have hS0 := s0.seq hS
  refine ⟨.ref a, rfl, _, .inl hS0, _, rfl, by omega, by rw [List.length_map]; omega, ?_⟩
  rw [List.length_map]
  generalize hN : ((4 : Int) + min 6 ((ns.length : Nat) : Int)).toNat = N
  have hN2 : N ≤ 16 := by omega
  refine for_range (lo := 0) (fun i σ H' => (∃ v2 v3 v4 v5 v6 v7 v8 v9, σ = [some (.ref a), some (.ref p), v2, v3, v4, v5, v6, v7, v8, v9]) ∧ Pn p c H0 (i * 4000) H') ⟨⟨_, _, _, _, _, _, _, _, rfl⟩, by simpa using Pn.refl P0⟩ ?_ ?_
  · rintro i σ H1 hi ⟨⟨v2, v3, v4, v5, v6, v7, v8, v9, rfl⟩, P1⟩
    have hib : i * 4000 ≤ 16 * 4000 := Nat.mul_le_mul_right _ (by omega)
    refine ⟨.ref p, rfl, p, c, _, rfl, P1.pen, by omega, fun L H2 hL P2 => ?_⟩
    replace P2 := P1.trans P2
    have hL1 : 2 ≤ L.length := hL.1
    have hL4 := hL.2.1
    refine ⟨.ref p, rfl, p, c, _, 8, rfl, P2.pen, by omega, by decide, by decide, fun w H3 w0 w1 P3 => ?_⟩
    replace P3 := P2.trans P3
    obtain ⟨w', rfl⟩ : ∃ w' : Nat, w = w' := ⟨w.toNat, by omega⟩
    obtain ⟨m, hm⟩ : ∃ m : Nat, 1 + w' = m := ⟨_, rfl⟩
    have hmi : V.int (1 + (w' : Int)) = V.int (m : Int) := by rw [← hm]; rfl
    refine ⟨.ref p, rfl, p, c, _, 5, rfl, P3.pen, by omega, by decide, by decide, fun k H4 k0 k1 P4 => ?_⟩
    replace P4 := P3.trans P4
    obtain ⟨k', rfl⟩ : ∃ k' : Nat, k = k' := ⟨k.toNat, by omega⟩
    obtain ⟨n, hn⟩ : ∃ n : Nat, 1 + k' = n := ⟨_, rfl⟩
    have hni : V.int (1 + (k' : Int)) = V.int (n : Int) := by rw [← hn]; rfl
    refine ⟨by show 3 ≤ sizeLine; decide, fun T1 hT1 => ?_⟩
    rw [hmi, hni]
    refine ⟨T1, _, rfl, SqT.of upd_same, rfl, _, _, rfl, _, _, rfl, _, _, rfl, rfl, ?_⟩
    replace P4 := P4.new (o := .tup [tx L, .int (m : Nat), .int (n : Nat)]) hT1
    refine ⟨.ref p, rfl, tx L, rfl, .int (m : Nat), rfl, .int (n : Nat), rfl, p, c, _, L, m, n, rfl, P4.pen, by omega, by omega, hL4, by omega, by omega, by omega, fun b us ts H5 hb hbs hA htl hok P5 => ?_⟩
    have hb0 : H0 b = none := P4.back hb
    replace P5 := P4.trans P5
    refine law_if (K := K) (L := L) (w := m) (n := n) rfl rfl rfl rfl rfl hb0 P5 (by omega) (P0.mono (by omega)) hL1 hL4 (by omega) (by omega) (by omega) hbs hA htl (fun t h => ⟨(hok t h).1, by have := (hok t h).2; omega, ?szb⟩) (fun us2 ts2 H6 hb6 hA6 hn6 hok6 P6 => ?_)
    case szb =>
      have h1 := sz_le hL4 t (hok t h).1
      have h2 : 4 ^ ht t ≤ 4 ^ 4 := Nat.pow_le_pow_right (by decide) (hok t h).2
      have h3 : (4 : Nat) ^ 4 = 256 := by decide
      omega
    have hszs : szs ts2 ≤ 800 := by
      have h1 := szs_all (b := 160) ts2 fun t h => (hok6 t h).2.2
      omega
    refine ⟨tx L, rfl, .int (m : Nat), rfl, .ref b, rfl, fun x dx hx hdx hne => ?_⟩
    have S7 : Same H6 (upd (upd H6 dx (.own x)) x (.ins C dx [])) := fun b o e => by
      rw [upd_ne (ne_of_none e hx), upd_ne (ne_of_none e hdx)]
      exact e
    refine ⟨x, dx, L, m, b, us2, ts2, rfl, upd_same, hL, by omega, by omega, .inl (SqL.of (S7 _ _ hb6)), dqa_mono (fun _ _ h => .inr h) (dqa_same S7 hA6), fun t h => ⟨by rw [hn6]; exact (hok6 t h).1, (hok6 t h).2.1⟩, by omega, by omega, by omega, fun e H8 k8 h8 he8 => ⟨rfl, ?_⟩⟩
    have S8 : Same H6 H8 := fun b o h => k8 b o (ne_of_none h hx) (S7 _ _ h)
    have okS : OkS L m ts2 := ⟨hL, by omega, by omega, by omega, by omega, fun t h => ⟨by rw [hn6]; exact (hok6 t h).1, (hok6 t h).2.1⟩, by have := due_len (w := m) (ts := ts2) hL4; omega, by omega⟩
    have hx8 : Srch K C H8 x L m ts2 := ⟨dx, e, szs ts2, h8, he8⟩
    have P8 := P6.then S8
    have hb8 := S8 _ _ hb6
    have hA8 := dqa_same S8 hA6
    have dm := dig_len m
    have hdl := okS.2.2.2.2.2.2.1
    have hl2 : (joinL [10] ((L ++ ([32] ++ dig m)) :: ts2.map (txt L))).length ≤ 80000 := hdl
    have lus2 : us2.length = ts2.length := by rw [dqa_len hA8, tds_map, List.length_map]
    refine ⟨⟨_, rfl⟩, tx L, rfl, by simp only [tl_sx, List.length_append, List.length_cons, List.length_nil]; omega, .int (m : Nat), rfl, m, rfl, by omega, by simp only [tl_sx, List.length_append, List.length_cons, List.length_nil]; omega, by show 1 ≤ sizeLine; decide, fun B hB => ?_⟩
    have S9 := Same.new (o := .lst [tx (tl (sx (tl (sx L) ++ tl (sx [32]))) ++ tl (sx (dig m)))]) hB
    refine ⟨.ref b, rfl, .inl ⟨us2, SqL.of (S9 _ _ hb8), fun D hD => ?_⟩⟩
    refine lcW walk_list (I := fun i acc H' => i ≤ ts2.length ∧ acc = ((ts2.map (txt L)).take i).map tx ∧ Same (upd H8 B (.lst [tx (tl (sx (tl (sx L) ++ tl (sx [32]))) ++ tl (sx (dig m)))])) H') (fun i acc H' u h => ⟨h.1, h.2.1, Same.mut h.2.2 hD⟩) (fun i acc H' _ h => SqL.of (h.2.2 _ _ (S9 _ _ hb8))) ⟨Nat.zero_le _, rfl, Same.refl _⟩
      (fun i acc H' h => by rw [h.2.1, List.length_map, List.length_take]; have := h.1; omega) (fun i x acc H' H'' hi hI2 hacc y K1 K2 k1 k2 => ?step) (fun acc H' hacc hI2 => ?fin)
    case step =>
      obtain ⟨rfl, hx⟩ := y
      obtain ⟨hi0, rfl, S2⟩ := hI2
      have hi2 : i < ts2.length := by omega
      obtain ⟨dd, g1, g2⟩ := dqa_get hA8 hx
      rw [tds_map, List.getElem?_map, List.getElem?_eq_getElem hi2] at g1
      obtain rfl : td ts2[i] = dd := Option.some.inj g1
      obtain ⟨ok1, ok2⟩ := okS.2.2.2.2.2.1 _ (List.getElem_mem hi2)
      have z1 : (txt L ts2[i]).length ≤ 90000 := by
        have := join_part [10] ((L ++ ([32] ++ dig m)) :: ts2.map (txt L)) (txt L ts2[i]) (List.mem_cons_of_mem _ (List.mem_map_of_mem (List.getElem_mem hi2)))
        omega
      refine ⟨rfl, x, rfl, tx L, rfl, x, ts2[i], L, m, ts2.length, rfl, dq_mono (fun _ _ h => .inr h) (dq_same (S9.trans S2) g2), z1, hL4, by omega, by omega, ok1, by omega, fun H4 S4 => ?_⟩
      refine k1 _ _ (S4 _ _ hacc) ⟨by omega, ?_, S2.trans S4⟩
      rw [List.take_add_one, List.getElem?_map, List.getElem?_eq_getElem hi2, List.map_append]
      rfl
    case fin =>
      obtain ⟨_, rfl, S2⟩ := hI2
      have hfull : (ts2.map (txt L)).take us2.length = ts2.map (txt L) := List.take_of_length_le (by rw [List.length_map]; omega)
      rw [hfull] at hacc
      have hB2 := S2 _ _ (upd_same (H := H8) (a := B) (o := .lst [tx (tl (sx (tl (sx L) ++ tl (sx [32]))) ++ tl (sx (dig m)))]))
      refine .inl ⟨_, _, hB2, hacc, by simp only [List.length_map, List.length_cons, List.length_nil]; omega, fun g hg => ?_⟩
      have hsum := join_sum [10] ((L ++ ([32] ++ dig m)) :: ts2.map (txt L))
      refine ⟨(L ++ ([32] ++ dig m)) :: ts2.map (txt L), .inl (SqL.of ?_), ?_, ?_⟩
      · rw [upd_same]
        simp only [tl_sx, List.append_assoc]
        rfl
      · rw [tl_sx]
        have : (([10] : List Nat).length : Nat) = 1 := rfl
        rw [this] at hsum ⊢
        omega
      · have Sg := Same.new' (o := .lst ([tx (tl (sx (tl (sx L) ++ tl (sx [32]))) ++ tl (sx (dig m)))] ++ (ts2.map (txt L)).map tx)) (S9.trans S2) hg
        have e10 : tl (sx [10]) = [10] := rfl
        rw [e10]
        refine ⟨.ref x, rfl, x, dx, _, rfl, Sg _ _ h8, sf_none _ _ _ _ (by decide) (by decide) (by decide) (by decide), x, L, m, ts2, rfl, hx8.same Sg, okS, fun H10 S10 => ⟨tx (due L m ts2), rfl, rfl, _, rfl, iteN (fun h => absurd rfl h) (fun _ => ?_)⟩⟩
        have h40 : ∀ t ∈ ts2, ht t ≤ 40 := fun t h => (hok6 t h).2.1
        refine ⟨rfl, tx (due L m ts2), rfl, L, m, ts2, rfl, okS, fun a2 H11 S11 hs11 => ⟨.ref x, rfl, ne_same h40 hs11 (hx8.same ((Sg.trans S10).trans S11)) ⟨_, rfl, ?_⟩⟩⟩
        refine ⟨rfl, tx (due L m ts2), rfl, L, m, ts2, rfl, okS, fun a3 H12 S12 hs12 => ?_⟩
        obtain ⟨dx3, b3, n3, h3, d3⟩ := hs12
        have Sb := ((Sg.trans S10).trans S11).trans S12
        refine ⟨a3, C, dx3, _, .ref b3, rfl, h3, T.cl, T.nS, sfS L m b3 n3, .ref b, rfl, us2, .inl ⟨SqL.of (Sb _ _ hb8), fun e5 he5 => ?_⟩⟩
        have S5 := Same.new (o := .tup us2) he5
        refine ⟨.tuple (tds ts2), .tuple (tds ts2), dq_dp (dq_same S5 d3), dq_dp (.tup (SqT.of upd_same) (dqa_same (Sb.trans S5) hA8)), by have := tup_depth h40; omega, ?_⟩
        rw [eqv_self _ (tup_noB ts2)]
        refine ⟨_, rfl, ?_⟩
        have S6 := Sb.trans S5
        refine ⟨rfl, .ref x, rfl, x, dx, _, rfl, S6 _ _ h8, sf_none _ _ _ _ (by decide) (by decide) (by decide) (by decide), x, L, m, ts2, rfl, hx8.same S6, okS, fun H13 S13 => ⟨L, m, ts2, rfl, okS, fun a4 H14 S14 hs14 => ?_⟩⟩
        obtain ⟨dx4, b4, n4, h4, d4⟩ := hs14
        refine ⟨a4, dx4, _, rfl, h4, sf_none _ _ _ _ (by decide) (by decide) (by decide) (by decide), a4, L, m, ts2, rfl, ⟨dx4, b4, n4, h4, d4⟩, okS, fun H15 S15 => ⟨tx (due L m ts2), rfl, rfl, _, rfl, iteN (fun h => absurd rfl h) (fun _ => ?_)⟩⟩
        have S15' := ((S6.trans S13).trans S14).trans S15
        refine ⟨.ref x, rfl, x, dx, _, rfl, S15' _ _ h8, sf_none _ _ _ _ (by decide) (by decide) (by decide) (by decide), x, L, m, ts2, rfl, hx8.same S15', okS, fun H16 S16 => ⟨tx (due L m ts2), rfl, rfl, _, rfl, iteN (fun h => absurd rfl h) (fun _ => ?_)⟩⟩
        refine ⟨⟨_, _, _, _, _, _, _, _, rfl⟩, (P8.then (S15'.trans S16)).mono ?_⟩
        omega
  · rintro σ H1 ⟨_, P1⟩
    exact q H1
/-! ## how many arguments -/
theorem len_num (K : PySem.W.Frag) : ∀ vs H Q E, spNum K vs H Q E → vs.length = 3 := by
  rintro _ _ _ _ ⟨_, _, _, rfl, _⟩; rfl
theorem len_head (K : PySem.W.Frag) : ∀ vs H Q E, spHead K vs H Q E → vs.length = 4 := by
  rintro _ _ _ _ ⟨_, _, _, _, _, rfl, _⟩; rfl
theorem len_within (K : PySem.W.Frag) : ∀ vs H Q E, spWithin K vs H Q E → vs.length = 1 := by
  rintro _ _ _ _ ⟨_, _, rfl, _⟩; rfl
theorem len_checked (K : PySem.W.Frag) (d : Nat) : ∀ vs H Q E, spChecked K d vs H Q E → vs.length = 6 := by
  rintro _ _ _ _ ⟨_, _, _, _, _, _, _, rfl, _⟩; rfl
theorem len_kept (K : PySem.W.Frag) (d : Nat) : ∀ vs H Q E, spKept K d vs H Q E → vs.length = 1 := by
  rintro _ _ _ _ ⟨_, _, _, _, _, rfl, _⟩; rfl
theorem len_init (K : PySem.W.Frag) (C : Addr) (d : Nat) : ∀ vs H Q E, spInit K C d vs H Q E → vs.length = 4 := by
  rintro _ _ _ _ ⟨_, _, _, _, _, _, _, rfl, _⟩; rfl
theorem len_eq (K : PySem.W.Frag) (C : Addr) : ∀ vs H Q E, spEq K C vs H Q E → vs.length = 2 := by
  rintro _ _ _ _ ⟨_, _, _, _, _, _, _, rfl, _⟩; rfl
theorem len_tree (K : PySem.W.Frag) (d : Nat) : ∀ vs H Q E, spTree K d vs H Q E → vs.length = 5 := by
  rintro _ _ _ _ ⟨_, _, _, _, _, _, _, rfl, _⟩; rfl
theorem len_trees (K : PySem.W.Frag) : ∀ vs H Q E, spTrees K vs H Q E → vs.length = 5 := by
  rintro _ _ _ _ ⟨_, _, _, _, _, _, rfl, _⟩; rfl
end Wk07

namespace Wk07
open PySem PySem.Spec PyProof.Rows L2 Wk WkS WkA WkP WkSr
open TL (tl len_tl ext_tl tl_append mk_tl)
def top (i : Nat) : Stmt := PySem.Challenge.pw_wordskips_k07_whole_texts_of_searchers.main.body.getD i (.Pass ⟨0, 0, 0, 0⟩)
abbrev x_check_letters : Stmt := top 10
theorem sc_check_letters : FnScope n_check_letters ["letters"] (defScope x_check_letters) := ⟨rfl, rfl, rfl, by decide +kernel, rfl, by decide +kernel, by decide +kernel⟩
abbrev x_Signs__init : Stmt := inClass (top 14) 0
theorem sc_Signs__init : FnScope n_Signs__init ["self", "line"] (defScope x_Signs__init) := ⟨rfl, rfl, rfl, by decide +kernel, rfl, by decide +kernel, by decide +kernel⟩
abbrev x_Signs__takes : Stmt := inClass (top 14) 1
theorem sc_Signs__takes : FnScope n_Signs__takes ["self", "part"] (defScope x_Signs__takes) := ⟨rfl, rfl, rfl, by decide +kernel, rfl, by decide +kernel, by decide +kernel⟩
abbrev x_Signs__numeral : Stmt := inClass (top 14) 2
theorem sc_Signs__numeral : FnScope n_Signs__numeral ["self"] (defScope x_Signs__numeral) := ⟨rfl, rfl, rfl, by decide +kernel, rfl, by decide +kernel, by decide +kernel⟩
abbrev x_Signs__two_numbers : Stmt := inClass (top 14) 3
theorem sc_Signs__two_numbers : FnScope n_Signs__two_numbers ["self"] (defScope x_Signs__two_numbers) := ⟨rfl, rfl, rfl, by decide +kernel, rfl, by decide +kernel, by decide +kernel⟩
abbrev x_Signs__whole : Stmt := inClass (top 14) 4
theorem sc_Signs__whole : FnScope n_Signs__whole ["self", "letters", "level"] (defScope x_Signs__whole) := ⟨rfl, rfl, rfl, by decide +kernel, rfl, by decide +kernel, by decide +kernel⟩
abbrev x_Signs__branches : Stmt := inClass (top 14) 5
theorem sc_Signs__branches : FnScope n_Signs__branches ["self", "letters", "level"] (defScope x_Signs__branches) := ⟨rfl, rfl, rfl, by decide +kernel, rfl, by decide +kernel, by decide +kernel⟩
abbrev x_read_head : Stmt := top 15
theorem sc_read_head : FnScope n_read_head ["line"] (defScope x_read_head) := ⟨rfl, rfl, rfl, by decide +kernel, rfl, by decide +kernel, by decide +kernel⟩
abbrev x_read_tree : Stmt := top 16
theorem sc_read_tree : FnScope n_read_tree ["letters", "line"] (defScope x_read_tree) := ⟨rfl, rfl, rfl, by decide +kernel, rfl, by decide +kernel, by decide +kernel⟩
abbrev x_is_number : Stmt := top 22
theorem sc_is_number : FnScope n_is_number ["value", "least", "most"] (defScope x_is_number) := ⟨rfl, rfl, rfl, by decide +kernel, rfl, by decide +kernel, by decide +kernel⟩
abbrev x_is_head : Stmt := top 23
theorem sc_is_head : FnScope n_is_head ["tree", "letters", "width", "states"] (defScope x_is_head) := ⟨rfl, rfl, rfl, by decide +kernel, rfl, by decide +kernel, by decide +kernel⟩
abbrev x_within : Stmt := top 24
theorem sc_within : FnScope n_within ["tree"] (defScope x_within) := ⟨rfl, rfl, rfl, by decide +kernel, rfl, by decide +kernel, by decide +kernel⟩
abbrev x_checked : Stmt := top 25
theorem sc_checked : FnScope n_checked ["tree", "letters", "width", "states", "level", "number"] (defScope x_checked) := ⟨rfl, rfl, rfl, by decide +kernel, rfl, by decide +kernel, by decide +kernel⟩
abbrev x_kept : Stmt := top 26
theorem sc_kept : FnScope n_kept ["tree"] (defScope x_kept) := ⟨rfl, rfl, rfl, by decide +kernel, rfl, by decide +kernel, by decide +kernel⟩
abbrev x_tree_text : Stmt := top 31
theorem sc_tree_text : FnScope n_tree_text ["tree", "letters"] (defScope x_tree_text) := ⟨rfl, rfl, rfl, by decide +kernel, rfl, by decide +kernel, by decide +kernel⟩
abbrev x_Searcher__init : Stmt := inClass (top 32) 0
theorem sc_Searcher__init : FnScope n_Searcher__init ["self", "letters", "width", "states"] (defScope x_Searcher__init) := ⟨rfl, rfl, rfl, by decide +kernel, rfl, by decide +kernel, by decide +kernel⟩
abbrev x_Searcher__eq : Stmt := inClass (top 32) 1
theorem sc_Searcher__eq : FnScope n_Searcher__eq ["self", "other"] (defScope x_Searcher__eq) := ⟨rfl, rfl, rfl, by decide +kernel, rfl, by decide +kernel, by decide +kernel⟩
abbrev x_Searcher__written : Stmt := inClass (top 32) 3
theorem sc_Searcher__written : FnScope n_Searcher__written ["self"] (defScope x_Searcher__written) := ⟨rfl, rfl, rfl, by decide +kernel, rfl, by decide +kernel, by decide +kernel⟩
abbrev x_Searcher__read : Stmt := inClass (top 32) 4
theorem sc_Searcher__read : FnScope n_Searcher__read ["cls", "text"] (defScope x_Searcher__read) := ⟨rfl, rfl, rfl, by decide +kernel, rfl, by decide +kernel, by decide +kernel⟩
abbrev x__law_pen : Stmt := top 34
theorem sc__law_pen : FnScope n__law_pen ["_law_script"] (defScope x__law_pen) := ⟨rfl, rfl, rfl, by decide +kernel, rfl, by decide +kernel, by decide +kernel⟩
abbrev x__law_draw : Stmt := top 35
theorem sc__law_draw : FnScope n__law_draw ["_law_pen_here", "_law_many"] (defScope x__law_draw) := ⟨rfl, rfl, rfl, by decide +kernel, rfl, by decide +kernel, by decide +kernel⟩
abbrev x__law_pick : Stmt := top 36
theorem sc__law_pick : FnScope n__law_pick ["_law_pen_here", "_law_some"] (defScope x__law_pick) := ⟨rfl, rfl, rfl, by decide +kernel, rfl, by decide +kernel, by decide +kernel⟩
abbrev x__law_letters : Stmt := top 37
theorem sc__law_letters : FnScope n__law_letters ["_law_pen_here"] (defScope x__law_letters) := ⟨rfl, rfl, rfl, by decide +kernel, rfl, by decide +kernel, by decide +kernel⟩
abbrev x__law_tree : Stmt := top 38
theorem sc__law_tree : FnScope n__law_tree ["_law_pen_here", "_law_letters_here", "_law_width", "_law_states", "_law_depth"] (defScope x__law_tree) := ⟨rfl, rfl, rfl, by decide +kernel, rfl, by decide +kernel, by decide +kernel⟩
abbrev x__law_trees : Stmt := top 39
theorem sc__law_trees : FnScope n__law_trees ["_law_pen_here", "_law_letters_here", "_law_width", "_law_many", "_law_depth"] (defScope x__law_trees) := ⟨rfl, rfl, rfl, by decide +kernel, rfl, by decide +kernel, by decide +kernel⟩
abbrev x__law_line : Stmt := top 40
theorem sc__law_line : FnScope n__law_line ["_law_tree_here", "_law_letters_here"] (defScope x__law_line) := ⟨rfl, rfl, rfl, by decide +kernel, rfl, by decide +kernel, by decide +kernel⟩
abbrev x__law_deep_tree : Stmt := top 41
theorem sc__law_deep_tree : FnScope n__law_deep_tree ["_law_pen_here", "_law_letters_here", "_law_width", "_law_states"] (defScope x__law_deep_tree) := ⟨rfl, rfl, rfl, by decide +kernel, rfl, by decide +kernel, by decide +kernel⟩
abbrev x_law : Stmt := top 42
theorem sc_law : FnScope n_law ["_law_script"] (defScope x_law) := ⟨rfl, rfl, rfl, by decide +kernel, rfl, by decide +kernel, by decide +kernel⟩
structure Txt (K : PySem.W.Frag) (mg : Str → Option Value) (C : Addr) (D : Addr) : Prop where
  c_Searcher : ClsF K mg "Searcher" C
  ne_Searcher : PySem.W.findIn K (.ref C) "__ne__" = some (some (.builtin "object.__ne__")) ∧ PySem.W.mroIn K C (.type "object") = some true
  k_Searcher : Cls K C
  c_Signs : ClsF K mg "Signs" D
  k_Signs : Cls K D
  cf : CF K C
  sf : SF K D
  z_abs : mg "abs" = none
  z_all : mg "all" = none
  z_bool : mg "bool" = none
  z_enumerate : mg "enumerate" = none
  z_int : mg "int" = none
  z_isinstance : mg "isinstance" = none
  z_len : mg "len" = none
  z_list : mg "list" = none
  z_min : mg "min" = none
  z_range : mg "range" = none
  z_set : mg "set" = none
  z_str : mg "str" = none
  z_tuple : mg "tuple" = none
  z_zip : mg "zip" = none
  g_DIGITS : GV mg "DIGITS" (tx [48, 49, 50, 51, 52, 53, 54, 55, 56, 57])
  g_MOST_DEEP : GV mg "MOST_DEEP" (.int 41)
  g_MOST_LEVELS : GV mg "MOST_LEVELS" (.int 40)
  g_MOST_NODES : GV mg "MOST_NODES" (.int 3000)
  g_MOST_STATES : GV mg "MOST_STATES" (.int 64)
  g_MOST_TOLD : GV mg "MOST_TOLD" (.int 3)
  g_MOST_WIDTH : GV mg "MOST_WIDTH" (.int 8)
  g_SMALL : GV mg "SMALL" (tx [97, 98, 99, 100, 101, 102, 103, 104, 105, 106, 107, 108, 109, 110, 111, 112, 113, 114, 115, 116, 117, 118, 119, 120, 121, 122])
  f_check_letters : Df K mg "check_letters" x_check_letters ["letters"]
  f_Signs__init : MthF K D "__init__" "Signs.__init__" x_Signs__init ["self", "line"]
  f_Signs__takes : MthF K D "takes" "Signs.takes" x_Signs__takes ["self", "part"]
  f_Signs__numeral : MthF K D "numeral" "Signs.numeral" x_Signs__numeral ["self"]
  f_Signs__two_numbers : MthF K D "two_numbers" "Signs.two_numbers" x_Signs__two_numbers ["self"]
  f_Signs__whole : MthF K D "whole" "Signs.whole" x_Signs__whole ["self", "letters", "level"]
  f_Signs__branches : MthF K D "branches" "Signs.branches" x_Signs__branches ["self", "letters", "level"]
  f_read_head : Df K mg "read_head" x_read_head ["line"]
  f_read_tree : Df K mg "read_tree" x_read_tree ["letters", "line"]
  f_is_number : Df K mg "is_number" x_is_number ["value", "least", "most"]
  f_is_head : Df K mg "is_head" x_is_head ["tree", "letters", "width", "states"]
  f_within : Df K mg "within" x_within ["tree"]
  f_checked : Df K mg "checked" x_checked ["tree", "letters", "width", "states", "level", "number"]
  f_kept : Df K mg "kept" x_kept ["tree"]
  f_tree_text : Df K mg "tree_text" x_tree_text ["tree", "letters"]
  f_Searcher__init : MthF K C "__init__" "Searcher.__init__" x_Searcher__init ["self", "letters", "width", "states"]
  f_Searcher__eq : MthF K C "__eq__" "Searcher.__eq__" x_Searcher__eq ["self", "other"]
  f_Searcher__written : MthF K C "written" "Searcher.written" x_Searcher__written ["self"]
  f_Searcher__read : CmtF K C "read" "Searcher.read" x_Searcher__read ["cls", "text"]
  f__law_pen : Df K mg "_law_pen" x__law_pen ["_law_script"]
  f__law_draw : Df K mg "_law_draw" x__law_draw ["_law_pen_here", "_law_many"]
  f__law_pick : Df K mg "_law_pick" x__law_pick ["_law_pen_here", "_law_some"]
  f__law_letters : Df K mg "_law_letters" x__law_letters ["_law_pen_here"]
  f__law_tree : Df K mg "_law_tree" x__law_tree ["_law_pen_here", "_law_letters_here", "_law_width", "_law_states", "_law_depth"]
  f__law_trees : Df K mg "_law_trees" x__law_trees ["_law_pen_here", "_law_letters_here", "_law_width", "_law_many", "_law_depth"]
  f__law_line : Df K mg "_law_line" x__law_line ["_law_tree_here", "_law_letters_here"]
  f__law_deep_tree : Df K mg "_law_deep_tree" x__law_deep_tree ["_law_pen_here", "_law_letters_here", "_law_width", "_law_states"]
  f_law : Df K mg "law" x_law ["_law_script"]
section
variable {P : Program} {w : World} {K : PySem.W.Frag} {mg : Str → Option Value} {base : Heap} {C : Addr} {D : Addr}
theorem w_check_letters (T : Txt K mg C D) {sp : Sp} (len : ∀ vs H Q E, sp vs H Q E → vs.length = 1)
    (rd : ∀ vs H Q E, sp vs H Q E → t_check_letters K { nx := fun _ H' => Q .non H', rt := Q } (start n_check_letters vs) H) : Cal P w K mg base "check_letters" ["letters"] 1 sp := by
  refine T.f_check_letters.cal sc_check_letters len fun f cdv A outer s H vs Q E hr h => ⟨t_check_letters K, ?_, rd vs H Q E h⟩
  exact (pss_cons (ps_if (PW.pt (pw_or (pt_not (pt_tru (pe_callB (call_isi1) (by rfl) T.z_isinstance (by decide +kernel) (pa_cons (pv 0) (pa_cons (pe_bltn (v := .ty "str") (by rfl) T.z_str (by decide +kernel) rfl) pa_nil))) (by intro _; rfl))) (pw_or (pt_not (pt_chain (op_leq) (op_leq) pe_int (pe_callB (call_len1) (by rfl) T.z_len (by decide +kernel) (pa_cons (pv 0) pa_nil)) pe_int)) (pw_or1 (pt_cmpR (op_less) (WkS.pe_signs rfl (by rfl) T.z_len (by rfl) T.z_set (pv 0)) (pe_callB (call_len1) (by rfl) T.z_len (by decide +kernel) (pa_cons (pv 0) pa_nil)) (nomark _)))))) (pss_one ps_never) pss_nil)
      (pss_one (ps_if (pt_not (pt_tru (pe_callB (cr_all rfl) (by rfl) T.z_all (by decide +kernel) (pa_cons (pe_lc (own := [("letter", 1)]) (g := (gName 1)) (tt := tYes) rfl sc_check_letters.nd (pi_any (pv 0)) (blkOk_by (own := [("letter", 1)]) (N := n_check_letters) (sc := defScope x_check_letters) (by decide +kernel)) (fun _ _ _ _ _ => (pg_name (i := 1) sc_check_letters.nd rfl (Or.inl rfl))) (fun _ _ _ _ _ => pts_nil) (fun _ _ _ _ _ => (pe_cmpR (op_inn) (pv 1) (pe_gv rfl T.g_SMALL (by decide)) rfl))) pa_nil)) (by intro _; rfl))) (pss_one ps_never) pss_nil)))
theorem w_Signs__init (T : Txt K mg C D) {sp : Sp} (len : ∀ vs H Q E, sp vs H Q E → vs.length = 2)
    (rd : ∀ vs H Q E, sp vs H Q E → t_Signs__init K { nx := fun _ H' => Q .non H', rt := Q } (start n_Signs__init vs) H) : CalN P w K mg base "Signs" D ["self", "line"] 1 sp := by
  refine T.f_Signs__init.init T.c_Signs sc_Signs__init len fun f cdv A outer s H vs Q E hr h => ⟨t_Signs__init K, ?_, rd vs H Q E h⟩
  exact (pss_cons (ps_fld (pv 0) (pv 1) rfl)
      (pss_one (ps_fld (pv 0) pe_int rfl)))
theorem w_Signs__takes (T : Txt K mg C D) {sp : Sp} (len : ∀ vs H Q E, sp vs H Q E → vs.length = 2)
    (rd : ∀ vs H Q E, sp vs H Q E → t_Signs__takes K { nx := fun _ H' => Q .non H', rt := Q } (start n_Signs__takes vs) H) : CalM P w K mg base D "takes" ["self", "part"] 1 sp := by
  refine T.f_Signs__takes.met T.k_Signs sc_Signs__takes len fun f cdv A outer s H vs Q E hr h => ⟨t_Signs__takes K, ?_, rd vs H Q E h⟩
  exact (pss_cons (ps_if (pt_cmpR (op_neq (un160 hr)) (pe_slice sl_cut (pe_fld (pv 0) rfl) (po_some (pe_fld (pv 0) rfl)) (po_some (pe_op op_plus (pe_fld (pv 0) rfl) (pe_callB (call_len1) (by rfl) T.z_len (by decide +kernel) (pa_cons (pv 1) pa_nil))))) (pv 1) (nomark _)) (pss_one (ps_ret pe_bl)) pss_nil)
      (pss_cons (ps_fld (pv 0) (pe_op op_plus (pe_fld (pv 0) rfl) (pe_callB (call_len1) (by rfl) T.z_len (by decide +kernel) (pa_cons (pv 1) pa_nil))) rfl)
      (pss_one (ps_ret pe_bl))))
theorem w_Signs__numeral (T : Txt K mg C D) {sp : Sp} (len : ∀ vs H Q E, sp vs H Q E → vs.length = 1)
    (rd : ∀ vs H Q E, sp vs H Q E → t_Signs__numeral K { nx := fun _ H' => Q .non H', rt := Q } (start n_Signs__numeral vs) H) : CalM P w K mg base D "numeral" ["self"] 1 sp := by
  refine T.f_Signs__numeral.met T.k_Signs sc_Signs__numeral len fun f cdv A outer s H vs Q E hr h => ⟨t_Signs__numeral K, ?_, rd vs H Q E h⟩
  exact (pss_cons (ps_set (i := 1) sc_Signs__numeral.nd rfl (Or.inl rfl) (pe_fld (pv 0) rfl))
      (pss_cons (ps_while PassesOwn.never (PW.pt (pw_and (pt_cmpR (op_less) (pe_fld (pv 0) rfl) (pe_callB (call_len1) (by rfl) T.z_len (by decide +kernel) (pa_cons (pe_fld (pv 0) rfl) pa_nil)) (nomark _)) (pw_and (pt_cmpR (op_inn) (pe_ix ix_item (pe_fld (pv 0) rfl) (pe_fld (pv 0) rfl) (fun _ _ => rfl)) (pe_gv rfl T.g_DIGITS (by decide)) rfl) (pw_and1 (pt_cmpR (op_less) (pe_fld (pv 0) rfl) (pe_op op_plus (pv 1) pe_int) (nomark _)))))) (pss_one (ps_fld (pv 0) (pe_op op_plus (pe_fld (pv 0) rfl) pe_int) rfl)))
      (pss_one (ps_ret (pe_ifExp (pt_cmpR (op_more) (pe_fld (pv 0) rfl) (pv 1) (nomark _)) (pe_callTy (call_intT) (by rfl) T.z_int (by decide +kernel) (pa_cons (pe_slice sl_cut (pe_fld (pv 0) rfl) (po_some (pv 1)) (po_some (pe_fld (pv 0) rfl))) pa_nil)) pe_non)))))
theorem w_Signs__two_numbers (T : Txt K mg C D) {s_Signs__takes : Sp} (c_Signs__takes : CalM P w K mg base D "takes" ["self", "part"] 1 s_Signs__takes) {s_Signs__numeral : Sp} (c_Signs__numeral : CalM P w K mg base D "numeral" ["self"] 1 s_Signs__numeral) {sp : Sp} (len : ∀ vs H Q E, sp vs H Q E → vs.length = 1)
    (rd : ∀ vs H Q E, sp vs H Q E → t_Signs__two_numbers K D s_Signs__takes s_Signs__numeral { nx := fun _ H' => Q .non H', rt := Q } (start n_Signs__two_numbers vs) H) : CalM P w K mg base D "two_numbers" ["self"] 2 sp := by
  refine T.f_Signs__two_numbers.met T.k_Signs sc_Signs__two_numbers len fun f cdv A outer s H vs Q E hr h => ⟨t_Signs__two_numbers K D s_Signs__takes s_Signs__numeral, ?_, rd vs H Q E h⟩
  exact (pss_cons (ps_set (i := 1) sc_Signs__two_numbers.nd rfl (Or.inl rfl) (CalM.call0 c_Signs__numeral (hr.mono (by decide)) (pv 0)))
      (pss_cons (ps_if (PW.pt (pw_or (pt_cmpR (op_isN) (pv 1) pe_non (nomark _)) (pw_or1 (pt_not (pt_tru (CalM.call c_Signs__takes (hr.mono (by decide)) (pv 0) (pa_cons (pe_txt (l := [32]) (by decide +kernel)) pa_nil)) (by intro _; rfl)))))) (pss_one (ps_ret pe_non)) pss_nil)
      (pss_cons (ps_set (i := 2) sc_Signs__two_numbers.nd rfl (Or.inl rfl) (CalM.call0 c_Signs__numeral (hr.mono (by decide)) (pv 0)))
      (pss_one (ps_ret (pe_ifExp (pt_cmpR (op_isN) (pv 2) pe_non (nomark _)) pe_non (pe_tup (pa_cons (pv 1) (pa_cons (pv 2) pa_nil)))))))))
theorem w_Signs__whole (T : Txt K mg C D) (j : Nat) {s_Signs__takes : Sp} (c_Signs__takes : CalM P w K mg base D "takes" ["self", "part"] 1 s_Signs__takes) {s_Signs__numeral : Sp} (c_Signs__numeral : CalM P w K mg base D "numeral" ["self"] 1 s_Signs__numeral) {s_Signs__two_numbers : Sp} (c_Signs__two_numbers : CalM P w K mg base D "two_numbers" ["self"] 2 s_Signs__two_numbers) {s_Signs__whole : Sp} (c_Signs__whole : CalM P w K mg base D "whole" ["self", "letters", "level"] (3 + 2 * j) s_Signs__whole) {s_Signs__branches : Sp} (c_Signs__branches : CalM P w K mg base D "branches" ["self", "letters", "level"] (3 + 2 * j + 1) s_Signs__branches) {sp : Sp} (len : ∀ vs H Q E, sp vs H Q E → vs.length = 3)
    (rd : ∀ vs H Q E, sp vs H Q E → t_Signs__whole K D s_Signs__takes s_Signs__numeral s_Signs__two_numbers s_Signs__whole s_Signs__branches { nx := fun _ H' => Q .non H', rt := Q } (start n_Signs__whole vs) H) : CalM P w K mg base D "whole" ["self", "letters", "level"] (3 + 2 * j + 1 + 1) sp := by
  refine T.f_Signs__whole.met T.k_Signs sc_Signs__whole len fun f cdv A outer s H vs Q E hr h => ⟨t_Signs__whole K D s_Signs__takes s_Signs__numeral s_Signs__two_numbers s_Signs__whole s_Signs__branches, ?_, rd vs H Q E h⟩
  exact (pss_cons (ps_if (pt_cmpR (op_more) (pv 2) (pe_gv rfl T.g_MOST_DEEP (by decide)) (nomark _)) (pss_one (ps_ret pe_non)) pss_nil)
      (pss_cons (ps_if (pt_tru (CalM.call c_Signs__takes (hr.mono (by omega)) (pv 0) (pa_cons (pe_txt (l := [103, 111, 32]) (by decide +kernel)) pa_nil)) (by intro _; rfl)) (pss_cons (ps_set (i := 3) sc_Signs__whole.nd rfl (Or.inl rfl) (CalM.call0 c_Signs__two_numbers (hr.mono (by omega)) (pv 0)))
      (pss_one (ps_ret (pe_ifExp (pt_cmpR (op_isN) (pv 3) pe_non (nomark _)) pe_non (pe_tup (pa_cons (pe_txt (l := [103, 111]) (by decide +kernel)) (pa_cons (pe_ix ix_item (pv 3) pe_int (fun _ _ => rfl)) (pa_cons (pe_ix ix_item (pv 3) pe_int (fun _ _ => rfl)) pa_nil)))))))) pss_nil)
      (pss_cons (ps_if (pt_tru (CalM.call c_Signs__takes (hr.mono (by omega)) (pv 0) (pa_cons (pe_txt (l := [116, 101, 108, 108, 32]) (by decide +kernel)) pa_nil)) (by intro _; rfl)) (pss_cons (ps_set (i := 4) sc_Signs__whole.nd rfl (Or.inl rfl) (CalM.call0 c_Signs__numeral (hr.mono (by omega)) (pv 0)))
      (pss_cons (ps_if (PW.pt (pw_or (pt_cmpR (op_isN) (pv 4) pe_non (nomark _)) (pw_or1 (pt_not (pt_tru (CalM.call c_Signs__takes (hr.mono (by omega)) (pv 0) (pa_cons (pe_txt (l := [32]) (by decide +kernel)) pa_nil)) (by intro _; rfl)))))) (pss_one (ps_ret pe_non)) pss_nil)
      (pss_cons (ps_set (i := 5) sc_Signs__whole.nd rfl (Or.inl rfl) (CalM.call c_Signs__whole (hr.mono (by omega)) (pv 0) (pa_cons (pv 1) (pa_cons (pe_op op_plus (pv 2) pe_int) pa_nil))))
      (pss_one (ps_ret (pe_ifExp (pt_cmpR (op_isN) (pv 5) pe_non (nomark _)) pe_non (pe_tup (pa_cons (pe_txt (l := [116, 101, 108, 108]) (by decide +kernel)) (pa_cons (pv 4) (pa_cons (pv 5) pa_nil)))))))))) pss_nil)
      (pss_one (ps_ret (pe_ifExp (pt_tru (CalM.call c_Signs__takes (hr.mono (by omega)) (pv 0) (pa_cons (pe_txt (l := [114, 101, 97, 100, 32]) (by decide +kernel)) pa_nil)) (by intro _; rfl)) (CalM.call c_Signs__branches (hr.mono (by omega)) (pv 0) (pa_cons (pv 1) (pa_cons (pv 2) pa_nil))) pe_non))))))
theorem w_Signs__branches (T : Txt K mg C D) (j : Nat) {s_Signs__takes : Sp} (c_Signs__takes : CalM P w K mg base D "takes" ["self", "part"] 1 s_Signs__takes) {s_Signs__numeral : Sp} (c_Signs__numeral : CalM P w K mg base D "numeral" ["self"] 1 s_Signs__numeral) {s_Signs__whole : Sp} (c_Signs__whole : CalM P w K mg base D "whole" ["self", "letters", "level"] (3 + 2 * j) s_Signs__whole) {sp : Sp} (len : ∀ vs H Q E, sp vs H Q E → vs.length = 3)
    (rd : ∀ vs H Q E, sp vs H Q E → t_Signs__branches K D s_Signs__takes s_Signs__numeral s_Signs__whole { nx := fun _ H' => Q .non H', rt := Q } (start n_Signs__branches vs) H) : CalM P w K mg base D "branches" ["self", "letters", "level"] (3 + 2 * j + 1) sp := by
  refine T.f_Signs__branches.met T.k_Signs sc_Signs__branches len fun f cdv A outer s H vs Q E hr h => ⟨t_Signs__branches K D s_Signs__takes s_Signs__numeral s_Signs__whole, ?_, rd vs H Q E h⟩
  exact (pss_cons (ps_par (i := 3) (j := 4) (by rfl) sc_Signs__branches.nd rfl rfl (by decide) rfl rfl (pa_cons (CalM.call0 c_Signs__numeral (hr.mono (by omega)) (pv 0)) (pa_cons (pe_lst pa_nil) pa_nil)) (by rfl))
      (pss_cons (ps_if (PW.pt (pw_or (pt_cmpR (op_isN) (pv 3) pe_non (nomark _)) (pw_or1 (pt_not (pt_tru (CalM.call c_Signs__takes (hr.mono (by omega)) (pv 0) (pa_cons (pe_txt (l := [32, 91]) (by decide +kernel)) pa_nil)) (by intro _; rfl)))))) (pss_one (ps_ret pe_non)) pss_nil)
      (pss_cons (ps_for PassesOwn.never rfl (pi_any (pv 1)) (pg_name (i := 5) sc_Signs__branches.nd rfl (Or.inl rfl)) (pss_cons (ps_if (pt_not (pt_tru (CalM.call c_Signs__takes (hr.mono (by omega)) (pv 0) (pa_cons (pe_op op_plus (pe_op op_plus (pe_ifExp (pt_tru (pv 4) (by intro _; rfl)) (pe_txt (l := [44, 32]) (by decide +kernel)) (pe_txt (l := []) (by decide +kernel))) (pv 5)) (pe_txt (l := [58, 32]) (by decide +kernel))) pa_nil)) (by intro _; rfl))) (pss_one (ps_ret pe_non)) pss_nil)
      (pss_cons (ps_set (i := 6) sc_Signs__branches.nd rfl (Or.inl rfl) (CalM.call c_Signs__whole (hr.mono (by omega)) (pv 0) (pa_cons (pv 1) (pa_cons (pe_op op_plus (pv 2) pe_int) pa_nil))))
      (pss_cons (ps_if (pt_cmpR (op_isN) (pv 6) pe_non (nomark _)) (pss_one (ps_ret pe_non)) pss_nil)
      (pss_one (ps_expr (pe_bm PySem.F.plainAttrs_list PySem.F.slot_list_append PySem.F.type_list_append mt_append (pv 4) (pa_cons (pv 6) pa_nil))))))))
      (pss_one (ps_ret (pe_ifExp (pt_tru (CalM.call c_Signs__takes (hr.mono (by omega)) (pv 0) (pa_cons (pe_txt (l := [93]) (by decide +kernel)) pa_nil)) (by intro _; rfl)) (pe_tup (pa_cons (pe_txt (l := [114, 101, 97, 100]) (by decide +kernel)) (pa_cons (pv 3) (pa_cons (pe_callTy (call_tup1) (by rfl) T.z_tuple (by decide +kernel) (pa_cons (pv 4) pa_nil)) pa_nil)))) pe_non))))))
theorem w_read_head (T : Txt K mg C D) {s_check_letters : Sp} (c_check_letters : Cal P w K mg base "check_letters" ["letters"] 1 s_check_letters) {sp : Sp} (len : ∀ vs H Q E, sp vs H Q E → vs.length = 1)
    (rd : ∀ vs H Q E, sp vs H Q E → t_read_head K s_check_letters { nx := fun _ H' => Q .non H', rt := Q } (start n_read_head vs) H) : Cal P w K mg base "read_head" ["line"] 2 sp := by
  refine T.f_read_head.cal sc_read_head len fun f cdv A outer s H vs Q E hr h => ⟨t_read_head K s_check_letters, ?_, rd vs H Q E h⟩
  exact (pss_cons (ps_par (i := 1) (j := 2) (by rfl) sc_read_head.nd rfl rfl (by decide) rfl rfl (pa_cons (pe_slice sl_cut (pv 0) po_none (po_some (pe_un un_minus pe_int))) (pa_cons (pe_slice sl_cut (pv 0) (po_some (pe_un un_minus pe_int)) po_none) pa_nil)) (by rfl))
      (pss_cons (ps_try_thru0 (pss_one (ps_expr (Cal.call c_check_letters (hr.mono (by decide)) rfl (pa_cons (pv 1) pa_nil)))))
      (pss_cons (ps_if (PW.pt (pw_or (pt_cmpR (op_neq (un160 hr)) (pe_slice sl_cut (pv 0) (po_some (pe_un un_minus pe_int)) (po_some (pe_un un_minus pe_int))) (pe_txt (l := [32]) (by decide +kernel)) (nomark _)) (pw_or (pt_cmpR (op_nin) (pv 2) (pe_gv rfl T.g_DIGITS (by decide)) rfl) (pw_or1 (pt_not (pt_chain (op_leq) (op_leq) pe_int (pe_callTy (call_intT) (by rfl) T.z_int (by decide +kernel) (pa_cons (pv 2) pa_nil)) (pe_gv rfl T.g_MOST_WIDTH (by decide)))))))) (pss_one ps_never) pss_nil)
      (pss_one (ps_ret (pe_tup (pa_cons (pv 1) (pa_cons (pe_callTy (call_intT) (by rfl) T.z_int (by decide +kernel) (pa_cons (pv 2) pa_nil)) pa_nil))))))))
theorem w_read_tree (T : Txt K mg C D) {s_Signs__init : Sp} (c_Signs__init : CalN P w K mg base "Signs" D ["self", "line"] 1 s_Signs__init) {s_Signs__whole : Sp} (c_Signs__whole : CalM P w K mg base D "whole" ["self", "letters", "level"] 87 s_Signs__whole) {sp : Sp} (len : ∀ vs H Q E, sp vs H Q E → vs.length = 2)
    (rd : ∀ vs H Q E, sp vs H Q E → t_read_tree K D s_Signs__init s_Signs__whole { nx := fun _ H' => Q .non H', rt := Q } (start n_read_tree vs) H) : Cal P w K mg base "read_tree" ["letters", "line"] 88 sp := by
  refine T.f_read_tree.cal sc_read_tree len fun f cdv A outer s H vs Q E hr h => ⟨t_read_tree K D s_Signs__init s_Signs__whole, ?_, rd vs H Q E h⟩
  exact (pss_cons (ps_set (i := 2) sc_read_tree.nd rfl (Or.inl rfl) (CalN.call c_Signs__init (hr.mono (by decide)) rfl (pa_cons (pv 1) pa_nil)))
      (pss_cons (ps_set (i := 3) sc_read_tree.nd rfl (Or.inl rfl) (CalM.call c_Signs__whole (hr.mono (by decide)) (pv 2) (pa_cons (pv 0) (pa_cons pe_int pa_nil))))
      (pss_one (ps_ret (pe_ifExp (pt_cmpR (op_eqq (un160 hr)) (pe_fld (pv 2) rfl) (pe_callB (call_len1) (by rfl) T.z_len (by decide +kernel) (pa_cons (pv 1) pa_nil)) (nomark _)) (pv 3) pe_non)))))
theorem w_is_number (T : Txt K mg C D) {sp : Sp} (len : ∀ vs H Q E, sp vs H Q E → vs.length = 3)
    (rd : ∀ vs H Q E, sp vs H Q E → t_is_number K { nx := fun _ H' => Q .non H', rt := Q } (start n_is_number vs) H) : Cal P w K mg base "is_number" ["value", "least", "most"] 1 sp := by
  refine T.f_is_number.cal sc_is_number len fun f cdv A outer s H vs Q E hr h => ⟨t_is_number K, ?_, rd vs H Q E h⟩
  exact (pss_one (ps_ret (pe_and (pe_callB (call_isi1) (by rfl) T.z_isinstance (by decide +kernel) (pa_cons (pv 0) (pa_cons (pe_bltn (v := .ty "int") (by rfl) T.z_int (by decide +kernel) rfl) pa_nil))) (pe_and (pe_not (pe_callB (call_isi1) (by rfl) T.z_isinstance (by decide +kernel) (pa_cons (pv 0) (pa_cons (pe_bltn (v := .ty "bool") (by rfl) T.z_bool (by decide +kernel) rfl) pa_nil)))) (pe_one (pe_chain (op_leq) (op_leq) (pv 1) (pv 0) (pv 2)))))))
theorem w_is_head (T : Txt K mg C D) {s_is_number : Sp} (c_is_number : Cal P w K mg base "is_number" ["value", "least", "most"] 1 s_is_number) {sp : Sp} (len : ∀ vs H Q E, sp vs H Q E → vs.length = 4)
    (rd : ∀ vs H Q E, sp vs H Q E → t_is_head K s_is_number { nx := fun _ H' => Q .non H', rt := Q } (start n_is_head vs) H) : Cal P w K mg base "is_head" ["tree", "letters", "width", "states"] 2 sp := by
  refine T.f_is_head.cal sc_is_head len fun f cdv A outer s H vs Q E hr h => ⟨t_is_head K s_is_number, ?_, rd vs H Q E h⟩
  exact (pss_cons (ps_if (PW.pt (pw_or (pt_not (pt_tru (pe_callB (call_isi1) (by rfl) T.z_isinstance (by decide +kernel) (pa_cons (pv 0) (pa_cons (pe_tup (pa_cons (pe_bltn (v := .ty "tuple") (by rfl) T.z_tuple (by decide +kernel) rfl) (pa_cons (pe_bltn (v := .ty "list") (by rfl) T.z_list (by decide +kernel) rfl) pa_nil))) pa_nil))) (by intro _; rfl))) (pw_or (pt_cmpR (op_neq (un160 hr)) (pe_callB (call_len1) (by rfl) T.z_len (by decide +kernel) (pa_cons (pv 0) pa_nil)) pe_int (nomark _)) (pw_or1 (pt_not (pt_tru (pe_callB (call_isi1) (by rfl) T.z_isinstance (by decide +kernel) (pa_cons (pe_ix ix_item (pv 0) pe_int (fun _ _ => rfl)) (pa_cons (pe_bltn (v := .ty "str") (by rfl) T.z_str (by decide +kernel) rfl) pa_nil))) (by intro _; rfl))))))) (pss_one (ps_ret pe_bl)) pss_nil)
      (pss_cons (ps_if (pt_cmpR (op_eqq (un160 hr)) (pe_ix ix_item (pv 0) pe_int (fun _ _ => rfl)) (pe_txt (l := [103, 111]) (by decide +kernel)) (nomark _)) (pss_one (ps_ret (pe_and (Cal.call c_is_number (hr.mono (by decide)) rfl (pa_cons (pe_ix ix_item (pv 0) pe_int (fun _ _ => rfl)) (pa_cons pe_int (pa_cons (pe_op op_plus (pv 2) pe_int) pa_nil)))) (pe_one (Cal.call c_is_number (hr.mono (by decide)) rfl (pa_cons (pe_ix ix_item (pv 0) pe_int (fun _ _ => rfl)) (pa_cons pe_int (pa_cons (pe_op op_minus (pv 3) pe_int) pa_nil)))))))) pss_nil)
      (pss_cons (ps_if (pt_cmpR (op_eqq (un160 hr)) (pe_ix ix_item (pv 0) pe_int (fun _ _ => rfl)) (pe_txt (l := [116, 101, 108, 108]) (by decide +kernel)) (nomark _)) (pss_one (ps_ret (Cal.call c_is_number (hr.mono (by decide)) rfl (pa_cons (pe_ix ix_item (pv 0) pe_int (fun _ _ => rfl)) (pa_cons pe_int (pa_cons (pe_op op_minus (pe_gv rfl T.g_MOST_TOLD (by decide)) pe_int) pa_nil)))))) pss_nil)
      (pss_cons (ps_if (PW.pt (pw_or (pt_cmpR (op_neq (un160 hr)) (pe_ix ix_item (pv 0) pe_int (fun _ _ => rfl)) (pe_txt (l := [114, 101, 97, 100]) (by decide +kernel)) (nomark _)) (pw_or1 (pt_not (pt_tru (Cal.call c_is_number (hr.mono (by decide)) rfl (pa_cons (pe_ix ix_item (pv 0) pe_int (fun _ _ => rfl)) (pa_cons pe_int (pa_cons (pv 2) pa_nil)))) (by intro _; rfl)))))) (pss_one (ps_ret pe_bl)) pss_nil)
      (pss_one (ps_ret (pe_and (pe_callB (call_isi1) (by rfl) T.z_isinstance (by decide +kernel) (pa_cons (pe_ix ix_item (pv 0) pe_int (fun _ _ => rfl)) (pa_cons (pe_tup (pa_cons (pe_bltn (v := .ty "tuple") (by rfl) T.z_tuple (by decide +kernel) rfl) (pa_cons (pe_bltn (v := .ty "list") (by rfl) T.z_list (by decide +kernel) rfl) pa_nil))) pa_nil))) (pe_one (pe_cmpR (op_eqq (un160 hr)) (pe_callB (call_len1) (by rfl) T.z_len (by decide +kernel) (pa_cons (pe_ix ix_item (pv 0) pe_int (fun _ _ => rfl)) pa_nil)) (pv 1) (nomark _))))))))))
theorem w_within (T : Txt K mg C D) {sp : Sp} (len : ∀ vs H Q E, sp vs H Q E → vs.length = 1)
    (rd : ∀ vs H Q E, sp vs H Q E → t_within K { nx := fun _ H' => Q .non H', rt := Q } (start n_within vs) H) : Cal P w K mg base "within" ["tree"] 1 sp := by
  refine T.f_within.cal sc_within len fun f cdv A outer s H vs Q E hr h => ⟨t_within K, ?_, rd vs H Q E h⟩
  exact (pss_cons (ps_if (pt_cmpR (op_eqq (un160 hr)) (pe_ix ix_item (pv 0) pe_int (fun _ _ => rfl)) (pe_txt (l := [103, 111]) (by decide +kernel)) (nomark _)) (pss_one (ps_ret (pe_lst pa_nil))) pss_nil)
      (pss_one (ps_ret (pe_ifExp (pt_cmpR (op_eqq (un160 hr)) (pe_ix ix_item (pv 0) pe_int (fun _ _ => rfl)) (pe_txt (l := [116, 101, 108, 108]) (by decide +kernel)) (nomark _)) (pe_lst (pa_cons (pe_ix ix_item (pv 0) pe_int (fun _ _ => rfl)) pa_nil)) (pe_callTy (call_list1) (by rfl) T.z_list (by decide +kernel) (pa_cons (pe_ix ix_item (pv 0) pe_int (fun _ _ => rfl)) pa_nil))))))
theorem w_checked (T : Txt K mg C D) (j : Nat) {s_is_head : Sp} (c_is_head : Cal P w K mg base "is_head" ["tree", "letters", "width", "states"] 2 s_is_head) {s_within : Sp} (c_within : Cal P w K mg base "within" ["tree"] 1 s_within) {s_checked : Sp} (c_checked : Cal P w K mg base "checked" ["tree", "letters", "width", "states", "level", "number"] (3 + j) s_checked) {sp : Sp} (len : ∀ vs H Q E, sp vs H Q E → vs.length = 6)
    (rd : ∀ vs H Q E, sp vs H Q E → t_checked K s_is_head s_within s_checked { nx := fun _ H' => Q .non H', rt := Q } (start n_checked vs) H) : Cal P w K mg base "checked" ["tree", "letters", "width", "states", "level", "number"] (3 + j + 1) sp := by
  refine T.f_checked.cal sc_checked len fun f cdv A outer s H vs Q E hr h => ⟨t_checked K s_is_head s_within s_checked, ?_, rd vs H Q E h⟩
  exact (pss_cons (ps_if (PW.pt (pw_or (pt_cmpR (op_more) (pv 4) (pe_gv rfl T.g_MOST_LEVELS (by decide)) (nomark _)) (pw_or1 (pt_not (pt_tru (Cal.call c_is_head (hr.mono (by omega)) rfl (pa_cons (pv 0) (pa_cons (pv 1) (pa_cons (pv 2) (pa_cons (pv 3) pa_nil))))) (by intro _; rfl)))))) (pss_one (ps_ret (pe_tup (pa_cons pe_bl (pa_cons (pv 5) pa_nil))))) pss_nil)
      (pss_cons (ps_set (i := 5) sc_checked.nd rfl (Or.inl rfl) (pe_op op_plus (pv 5) pe_int))
      (pss_cons (ps_for PassesOwn.never rfl (pi_any (Cal.call c_within (hr.mono (by omega)) rfl (pa_cons (pv 0) pa_nil))) (pg_name (i := 6) sc_checked.nd rfl (Or.inl rfl)) (pss_cons (ps_asg (Cal.call c_checked (hr.mono (by omega)) rfl (pa_cons (pv 6) (pa_cons (pv 1) (pa_cons (pv 2) (pa_cons (pv 3) (pa_cons (pe_op op_plus (pv 4) pe_int) (pa_cons (pv 5) pa_nil))))))) (pg_tup rfl (pgs_cons (pg_name (i := 7) sc_checked.nd rfl (Or.inl rfl)) (pgs_cons (pg_name (i := 5) sc_checked.nd rfl (Or.inl rfl)) pgs_nil))))
      (pss_one (ps_if (pt_tru (pv 7) (by intro _; rfl)) (pss_one (ps_ret (pe_tup (pa_cons pe_bl (pa_cons (pv 5) pa_nil))))) pss_nil))))
      (pss_one (ps_ret (pe_tup (pa_cons pe_bl (pa_cons (pv 5) pa_nil))))))))
theorem w_kept (T : Txt K mg C D) (j : Nat) {s_kept : Sp} (c_kept : Cal P w K mg base "kept" ["tree"] (1 + j) s_kept) {sp : Sp} (len : ∀ vs H Q E, sp vs H Q E → vs.length = 1)
    (rd : ∀ vs H Q E, sp vs H Q E → t_kept K s_kept { nx := fun _ H' => Q .non H', rt := Q } (start n_kept vs) H) : Cal P w K mg base "kept" ["tree"] (1 + j + 1) sp := by
  refine T.f_kept.cal sc_kept len fun f cdv A outer s H vs Q E hr h => ⟨t_kept K s_kept, ?_, rd vs H Q E h⟩
  exact (pss_cons (ps_if (pt_cmpR (op_eqq (un160 hr)) (pe_ix ix_item (pv 0) pe_int (fun _ _ => rfl)) (pe_txt (l := [103, 111]) (by decide +kernel)) (nomark _)) (pss_one (ps_ret (pe_callTy (call_tup1) (by rfl) T.z_tuple (by decide +kernel) (pa_cons (pv 0) pa_nil)))) pss_nil)
      (pss_cons (ps_if (pt_cmpR (op_eqq (un160 hr)) (pe_ix ix_item (pv 0) pe_int (fun _ _ => rfl)) (pe_txt (l := [116, 101, 108, 108]) (by decide +kernel)) (nomark _)) (pss_one (ps_ret (pe_tup (pa_cons (pe_ix ix_item (pv 0) pe_int (fun _ _ => rfl)) (pa_cons (pe_ix ix_item (pv 0) pe_int (fun _ _ => rfl)) (pa_cons (Cal.call c_kept (hr.mono (by omega)) rfl (pa_cons (pe_ix ix_item (pv 0) pe_int (fun _ _ => rfl)) pa_nil)) pa_nil)))))) pss_nil)
      (pss_one (ps_ret (pe_tup (pa_cons (pe_ix ix_item (pv 0) pe_int (fun _ _ => rfl)) (pa_cons (pe_ix ix_item (pv 0) pe_int (fun _ _ => rfl)) (pa_cons (pe_callTy (call_tup1) (by rfl) T.z_tuple (by decide +kernel) (pa_cons (pe_lc (own := [("inner", 1)]) (g := (gName 1)) (tt := tYes) rfl sc_kept.nd (pi_any (pe_ix ix_item (pv 0) pe_int (fun _ _ => rfl))) (blkOk_by (own := [("inner", 1)]) (N := n_kept) (sc := defScope x_kept) (by decide +kernel)) (fun _ _ _ _ _ => (pg_name (i := 1) sc_kept.nd rfl (Or.inl rfl))) (fun _ _ _ _ _ => pts_nil) (fun _ _ _ _ _ => (Cal.call c_kept (hr.mono (by omega)) rfl (pa_cons (pv 1) pa_nil)))) pa_nil)) pa_nil))))))))
theorem w_tree_text (T : Txt K mg C D) (j : Nat) {s_tree_text : Sp} (c_tree_text : Cal P w K mg base "tree_text" ["tree", "letters"] (1 + j) s_tree_text) {sp : Sp} (len : ∀ vs H Q E, sp vs H Q E → vs.length = 2)
    (rd : ∀ vs H Q E, sp vs H Q E → t_tree_text K s_tree_text { nx := fun _ H' => Q .non H', rt := Q } (start n_tree_text vs) H) : Cal P w K mg base "tree_text" ["tree", "letters"] (1 + j + 1) sp := by
  refine T.f_tree_text.cal sc_tree_text len fun f cdv A outer s H vs Q E hr h => ⟨t_tree_text K s_tree_text, ?_, rd vs H Q E h⟩
  exact (pss_cons (ps_if (pt_cmpR (op_eqq (un160 hr)) (pe_ix ix_item (pv 0) pe_int (fun _ _ => rfl)) (pe_txt (l := [103, 111]) (by decide +kernel)) (nomark _)) (pss_one (ps_ret (pe_op op_plus (pe_op op_plus (pe_op op_plus (pe_txt (l := [103, 111, 32]) (by decide +kernel)) (pe_callTy (call_strI) (by rfl) T.z_str (by decide +kernel) (pa_cons (pe_ix ix_item (pv 0) pe_int (fun _ _ => rfl)) pa_nil))) (pe_txt (l := [32]) (by decide +kernel))) (pe_callTy (call_strI) (by rfl) T.z_str (by decide +kernel) (pa_cons (pe_ix ix_item (pv 0) pe_int (fun _ _ => rfl)) pa_nil))))) pss_nil)
      (pss_cons (ps_if (pt_cmpR (op_eqq (un160 hr)) (pe_ix ix_item (pv 0) pe_int (fun _ _ => rfl)) (pe_txt (l := [116, 101, 108, 108]) (by decide +kernel)) (nomark _)) (pss_one (ps_ret (pe_op op_plus (pe_op op_plus (pe_op op_plus (pe_txt (l := [116, 101, 108, 108, 32]) (by decide +kernel)) (pe_callTy (call_strI) (by rfl) T.z_str (by decide +kernel) (pa_cons (pe_ix ix_item (pv 0) pe_int (fun _ _ => rfl)) pa_nil))) (pe_txt (l := [32]) (by decide +kernel))) (Cal.call c_tree_text (hr.mono (by omega)) rfl (pa_cons (pe_ix ix_item (pv 0) pe_int (fun _ _ => rfl)) (pa_cons (pv 1) pa_nil)))))) pss_nil)
      (pss_cons (ps_setLc (i := 2) (own := [("letter", 3), ("inner", 4)]) (g := (gTup K 2 (gCons (gName 3) (gCons (gName 4) gNil)))) (tt := tYes) rfl sc_tree_text.nd rfl rfl (sw_true rfl rfl rfl (by decide +kernel)) (pi_zipG (by rfl) T.z_zip (pa_cons (pv 1) (pa_cons (pe_ix ix_item (pv 0) pe_int (fun _ _ => rfl)) pa_nil))) (blkOk_by (own := [("letter", 3), ("inner", 4)]) (N := n_tree_text) (sc := defScope x_tree_text) (by decide +kernel)) (fun _ _ _ _ _ => (pg_tup rfl (pgs_cons (pg_name (i := 3) sc_tree_text.nd rfl (Or.inl rfl)) (pgs_cons (pg_name (i := 4) sc_tree_text.nd rfl (Or.inl rfl)) pgs_nil)))) (fun _ _ _ _ _ => pts_nil) (fun _ _ _ _ _ => (pe_op op_plus (pe_op op_plus (pv 3) (pe_txt (l := [58, 32]) (by decide +kernel))) (Cal.call c_tree_text (hr.mono (by omega)) rfl (pa_cons (pv 4) (pa_cons (pv 1) pa_nil))))))
      (pss_one (ps_ret (pe_op op_plus (pe_op op_plus (pe_op op_plus (pe_op op_plus (pe_txt (l := [114, 101, 97, 100, 32]) (by decide +kernel)) (pe_callTy (call_strI) (by rfl) T.z_str (by decide +kernel) (pa_cons (pe_ix ix_item (pv 0) pe_int (fun _ _ => rfl)) pa_nil))) (pe_txt (l := [32, 91]) (by decide +kernel))) (pe_joinT (pe_txt (l := [44, 32]) (by decide +kernel)) (pv 2))) (pe_txt (l := [93]) (by decide +kernel))))))))
theorem w_Searcher__init (T : Txt K mg C D) {s_check_letters : Sp} (c_check_letters : Cal P w K mg base "check_letters" ["letters"] 1 s_check_letters) {s_is_number : Sp} (c_is_number : Cal P w K mg base "is_number" ["value", "least", "most"] 1 s_is_number) {s_checked : Sp} (c_checked : Cal P w K mg base "checked" ["tree", "letters", "width", "states", "level", "number"] 43 s_checked) {s_kept : Sp} (c_kept : Cal P w K mg base "kept" ["tree"] 41 s_kept) {sp : Sp} (len : ∀ vs H Q E, sp vs H Q E → vs.length = 4)
    (rd : ∀ vs H Q E, sp vs H Q E → t_Searcher__init K s_check_letters s_is_number s_checked s_kept { nx := fun _ H' => Q .non H', rt := Q } (start n_Searcher__init vs) H) : CalN P w K mg base "Searcher" C ["self", "letters", "width", "states"] 44 sp := by
  refine T.f_Searcher__init.init T.c_Searcher sc_Searcher__init len fun f cdv A outer s H vs Q E hr h => ⟨t_Searcher__init K s_check_letters s_is_number s_checked s_kept, ?_, rd vs H Q E h⟩
  exact (pss_cons (ps_expr (Cal.call c_check_letters (hr.mono (by decide)) rfl (pa_cons (pv 1) pa_nil)))
      (pss_cons (ps_if (pt_not (pt_tru (Cal.call c_is_number (hr.mono (by decide)) rfl (pa_cons (pv 2) (pa_cons pe_int (pa_cons (pe_gv rfl T.g_MOST_WIDTH (by decide)) pa_nil)))) (by intro _; rfl))) (pss_one ps_never) pss_nil)
      (pss_cons (ps_if (pt_not (pt_chain (op_leq) (op_leq) pe_int (pe_callB (call_len1) (by rfl) T.z_len (by decide +kernel) (pa_cons (pv 3) pa_nil)) (pe_gv rfl T.g_MOST_STATES (by decide)))) (pss_one ps_never) pss_nil)
      (pss_cons (ps_set (i := 4) sc_Searcher__init.nd rfl (Or.inl rfl) pe_int)
      (pss_cons (ps_for PassesOwn.never rfl (pi_enumG (by rfl) T.z_enumerate (pa_cons (pv 3) pa_nil)) (pg_tup rfl (pgs_cons (pg_name (i := 5) sc_Searcher__init.nd rfl (Or.inl rfl)) (pgs_cons (pg_name (i := 6) sc_Searcher__init.nd rfl (Or.inl rfl)) pgs_nil))) (pss_cons (ps_asg (Cal.call c_checked (hr.mono (by decide)) rfl (pa_cons (pv 6) (pa_cons (pe_callB (call_len1) (by rfl) T.z_len (by decide +kernel) (pa_cons (pv 1) pa_nil)) (pa_cons (pv 2) (pa_cons (pe_callB (call_len1) (by rfl) T.z_len (by decide +kernel) (pa_cons (pv 3) pa_nil)) (pa_cons pe_int (pa_cons pe_int pa_nil))))))) (pg_tup rfl (pgs_cons (pg_name (i := 7) sc_Searcher__init.nd rfl (Or.inl rfl)) (pgs_cons (pg_name (i := 8) sc_Searcher__init.nd rfl (Or.inl rfl)) pgs_nil))))
      (pss_cons (ps_if (pt_tru (pv 7) (by intro _; rfl)) (pss_one ps_never) pss_nil)
      (pss_one (ps_set (i := 4) sc_Searcher__init.nd rfl (Or.inl rfl) (pe_op op_plus (pv 4) (pv 8)))))))
      (pss_cons (ps_if (pt_cmpR (op_more) (pv 4) (pe_gv rfl T.g_MOST_NODES (by decide)) (nomark _)) (pss_one ps_never) pss_nil)
      (pss_cons (ps_fld (pv 0) (pv 1) rfl)
      (pss_cons (ps_fld (pv 0) (pv 2) rfl)
      (pss_cons (ps_fld (pv 0) (pe_callTy (call_tup1) (by rfl) T.z_tuple (by decide +kernel) (pa_cons (pe_lc (own := [("tree", 6)]) (g := (gName 6)) (tt := tYes) rfl sc_Searcher__init.nd (pi_any (pv 3)) (blkOk_by (own := [("tree", 6)]) (N := n_Searcher__init) (sc := defScope x_Searcher__init) (by decide +kernel)) (fun _ _ _ _ _ => (pg_name (i := 6) sc_Searcher__init.nd rfl (Or.inl rfl))) (fun _ _ _ _ _ => pts_nil) (fun _ _ _ _ _ => (Cal.call c_kept (hr.mono (by decide)) rfl (pa_cons (pv 6) pa_nil)))) pa_nil)) rfl)
      (pss_one (ps_fld (pv 0) (pv 4) rfl)))))))))))
theorem w_Searcher__eq (T : Txt K mg C D) {sp : Sp} (len : ∀ vs H Q E, sp vs H Q E → vs.length = 2)
    (rd : ∀ vs H Q E, sp vs H Q E → t_Searcher__eq K C { nx := fun _ H' => Q .non H', rt := Q } (start n_Searcher__eq vs) H) : CalO P w K mg base C ["self", "other"] 1 sp := by
  refine T.f_Searcher__eq.own sc_Searcher__eq len fun f cdv A outer s H vs Q E hr h => ⟨t_Searcher__eq K C, ?_, rd vs H Q E h⟩
  exact (pss_cons (ps_if (PW.pt (pw_or (pt_not (pt_tru (pe_callB (call_isi1) (by rfl) T.z_isinstance (by decide +kernel) (pa_cons (pv 1) (pa_cons (pe_cls rfl T.c_Searcher.mgC (by decide)) pa_nil))) (by intro _; rfl))) (pw_or1 (pt_cmpR (op_neq (un160 hr)) (pe_fld (pv 0) rfl) (pe_fld (pv 1) rfl) (nomark _))))) (pss_one (ps_ret pe_bl)) pss_nil)
      (pss_one (ps_ret (pe_and (pe_cmpR (op_eqq (un160 hr)) (pe_fld (pv 0) rfl) (pe_fld (pv 1) rfl) (nomark _)) (pe_one (pe_cmpR (op_eqq (un160 hr)) (pe_fld (pv 0) rfl) (pe_fld (pv 1) rfl) (nomark _)))))))
theorem w_Searcher__written (T : Txt K mg C D) {s_tree_text : Sp} (c_tree_text : Cal P w K mg base "tree_text" ["tree", "letters"] 42 s_tree_text) {sp : Sp} (len : ∀ vs H Q E, sp vs H Q E → vs.length = 1)
    (rd : ∀ vs H Q E, sp vs H Q E → t_Searcher__written K s_tree_text { nx := fun _ H' => Q .non H', rt := Q } (start n_Searcher__written vs) H) : CalM P w K mg base C "written" ["self"] 43 sp := by
  refine T.f_Searcher__written.met T.k_Searcher sc_Searcher__written len fun f cdv A outer s H vs Q E hr h => ⟨t_Searcher__written K s_tree_text, ?_, rd vs H Q E h⟩
  exact (pss_cons (ps_set (i := 1) sc_Searcher__written.nd rfl (Or.inl rfl) (pe_lst (pa_cons (pe_op op_plus (pe_op op_plus (pe_fld (pv 0) rfl) (pe_txt (l := [32]) (by decide +kernel))) (pe_callTy (call_strI) (by rfl) T.z_str (by decide +kernel) (pa_cons (pe_fld (pv 0) rfl) pa_nil))) pa_nil)))
      (pss_one (ps_ret (pe_joinT (pe_txt (l := [10]) (by decide +kernel)) (pe_op op_plus (pv 1) (pe_lc (own := [("tree", 2)]) (g := (gName 2)) (tt := tYes) rfl sc_Searcher__written.nd (pi_any (pe_fld (pv 0) rfl)) (blkOk_by (own := [("tree", 2)]) (N := n_Searcher__written) (sc := defScope x_Searcher__written) (by decide +kernel)) (fun _ _ _ _ _ => (pg_name (i := 2) sc_Searcher__written.nd rfl (Or.inl rfl))) (fun _ _ _ _ _ => pts_nil) (fun _ _ _ _ _ => (Cal.call c_tree_text (hr.mono (by decide)) rfl (pa_cons (pv 2) (pa_cons (pe_fld (pv 0) rfl) pa_nil))))))))))
theorem w_Searcher__read (T : Txt K mg C D) {s_read_head : Sp} (c_read_head : Cal P w K mg base "read_head" ["line"] 2 s_read_head) {s_read_tree : Sp} (c_read_tree : Cal P w K mg base "read_tree" ["letters", "line"] 88 s_read_tree) {s_checked : Sp} (c_checked : Cal P w K mg base "checked" ["tree", "letters", "width", "states", "level", "number"] 43 s_checked) {s_tree_text : Sp} (c_tree_text : Cal P w K mg base "tree_text" ["tree", "letters"] 42 s_tree_text) {s_Searcher__init : Sp} (c_Searcher__init : CalN P w K mg base "Searcher" C ["self", "letters", "width", "states"] 44 s_Searcher__init) {sp : Sp} (len : ∀ vs H Q E, sp vs H Q E → vs.length = 2)
    (rd : ∀ vs H Q E, sp vs H Q E → t_Searcher__read K C s_read_head s_read_tree s_checked s_tree_text s_Searcher__init { nx := fun _ H' => Q .non H', rt := Q } (start n_Searcher__read vs) H) : CalC P w K mg base C "read" ["cls", "text"] 89 sp := by
  refine T.f_Searcher__read.met sc_Searcher__read len fun f cdv A outer s H vs Q E hr h => ⟨t_Searcher__read K C s_read_head s_read_tree s_checked s_tree_text s_Searcher__init, ?_, rd vs H Q E h⟩
  exact (pss_cons (ps_if (pt_not (pt_tru (pe_callB (call_isi1) (by rfl) T.z_isinstance (by decide +kernel) (pa_cons (pv 1) (pa_cons (pe_bltn (v := .ty "str") (by rfl) T.z_str (by decide +kernel) rfl) pa_nil))) (by intro _; rfl))) (pss_one ps_never) pss_nil)
      (pss_cons (ps_set (i := 2) sc_Searcher__read.nd rfl (Or.inl rfl) (pe_splitT (pv 1) (pe_txt (l := [10]) (by decide +kernel))))
      (pss_cons (ps_asg (Cal.call c_read_head (hr.mono (by decide)) rfl (pa_cons (pe_ix ix_item (pv 2) pe_int (fun _ _ => rfl)) pa_nil)) (pg_tup rfl (pgs_cons (pg_name (i := 3) sc_Searcher__read.nd rfl (Or.inl rfl)) (pgs_cons (pg_name (i := 4) sc_Searcher__read.nd rfl (Or.inl rfl)) pgs_nil))))
      (pss_cons (ps_par (i := 5) (j := 6) (by rfl) sc_Searcher__read.nd rfl rfl (by decide) rfl rfl (pa_cons (pe_op op_minus (pe_callB (call_len1) (by rfl) T.z_len (by decide +kernel) (pa_cons (pv 2) pa_nil)) pe_int) (pa_cons (pe_lst pa_nil) pa_nil)) (by rfl))
      (pss_cons (ps_if (pt_cmpR (op_more) (pv 5) (pe_gv rfl T.g_MOST_STATES (by decide)) (nomark _)) (pss_one ps_never) pss_nil)
      (pss_cons (ps_for PassesOwn.never rfl (pi_enumG (by rfl) T.z_enumerate (pa_cons (pe_slice sl_cut (pv 2) (po_some pe_int) po_none) pa_nil)) (pg_tup rfl (pgs_cons (pg_name (i := 7) sc_Searcher__read.nd rfl (Or.inl rfl)) (pgs_cons (pg_name (i := 8) sc_Searcher__read.nd rfl (Or.inl rfl)) pgs_nil))) (pss_cons (ps_set (i := 9) sc_Searcher__read.nd rfl (Or.inl rfl) (Cal.call c_read_tree (hr.mono (by decide)) rfl (pa_cons (pv 3) (pa_cons (pv 8) pa_nil))))
      (pss_cons (ps_if (PW.pt (pw_or (pt_cmpR (op_isN) (pv 9) pe_non (nomark _)) (pw_or (pt_tru (pe_ix ix_item (Cal.call c_checked (hr.mono (by decide)) rfl (pa_cons (pv 9) (pa_cons (pe_callB (call_len1) (by rfl) T.z_len (by decide +kernel) (pa_cons (pv 3) pa_nil)) (pa_cons (pv 4) (pa_cons (pv 5) (pa_cons pe_int (pa_cons pe_int pa_nil))))))) pe_int (fun _ _ => rfl)) (by intro _; rfl)) (pw_or1 (pt_cmpR (op_neq (un160 hr)) (Cal.call c_tree_text (hr.mono (by decide)) rfl (pa_cons (pv 9) (pa_cons (pv 3) pa_nil))) (pv 8) (nomark _)))))) (pss_one ps_never) pss_nil)
      (pss_one (ps_expr (pe_bm PySem.F.plainAttrs_list PySem.F.slot_list_append PySem.F.type_list_append mt_append (pv 6) (pa_cons (pv 9) pa_nil)))))))
      (pss_cons (ps_if (pt_cmpR (op_eqq (un160 hr)) (pv 5) pe_int (nomark _)) (pss_one ps_never) pss_nil)
      (pss_one (ps_ret (CalN.callL c_Searcher__init (hr.mono (by decide)) (by rfl) (Or.inl rfl) (pa_cons (pv 3) (pa_cons (pv 4) (pa_cons (pv 6) pa_nil)))))))))))))
theorem w__law_pen (T : Txt K mg C D) {sp : Sp} (len : ∀ vs H Q E, sp vs H Q E → vs.length = 1)
    (rd : ∀ vs H Q E, sp vs H Q E → t__law_pen K { nx := fun _ H' => Q .non H', rt := Q } (start n__law_pen vs) H) : Cal P w K mg base "_law_pen" ["_law_script"] 1 sp := by
  refine T.f__law_pen.cal sc__law_pen len fun f cdv A outer s H vs Q E hr h => ⟨t__law_pen K, ?_, rd vs H Q E h⟩
  exact (pss_one (ps_ret (pe_disp (pps_cons (pe_txt (l := [99, 101, 108, 108, 115]) (by decide +kernel)) (pe_callTy (call_list1) (by rfl) T.z_list (by decide +kernel) (pa_cons (pe_slice sl_cut (pv 0) po_none (po_some pe_int)) pa_nil)) (pps_cons (pe_txt (l := [111, 112, 101, 110, 101, 100]) (by decide +kernel)) pe_int (pps_cons (pe_txt (l := [108, 101, 102, 116]) (by decide +kernel)) pe_int pps_nil))) (by rfl) (by rfl) (fun z => by cases z) (by decide))))
theorem w__law_draw (T : Txt K mg C D) {sp : Sp} (len : ∀ vs H Q E, sp vs H Q E → vs.length = 2)
    (rd : ∀ vs H Q E, sp vs H Q E → t__law_draw K { nx := fun _ H' => Q .non H', rt := Q } (start n__law_draw vs) H) : Cal P w K mg base "_law_draw" ["_law_pen_here", "_law_many"] 1 sp := by
  refine T.f__law_draw.cal sc__law_draw len fun f cdv A outer s H vs Q E hr h => ⟨t__law_draw K, ?_, rd vs H Q E h⟩
  exact (pss_cons (ps_if (pt_cmpR (op_more) (pe_dget (hu_of hr) (pv 0) (pe_txt (l := [108, 101, 102, 116]) (by decide +kernel)) (fun _ _ => rfl)) pe_int (nomark _)) (pss_cons (ps_set (i := 2) sc__law_draw.nd rfl (Or.inl rfl) (pe_op op_rest (pe_callTy (call_intM) (by rfl) T.z_int (by decide +kernel) (pa_cons (pe_dget (hu_of hr) (pv 0) (pe_txt (l := [108, 101, 102, 116]) (by decide +kernel)) (fun _ _ => rfl)) pa_nil)) (pv 1)))
      (pss_cons (ps_dput (hu_of hr) (pv 0) (pe_txt (l := [108, 101, 102, 116]) (by decide +kernel)) (pe_op op_over (pe_dget (hu_of hr) (pv 0) (pe_txt (l := [108, 101, 102, 116]) (by decide +kernel)) (fun _ _ => rfl)) (pv 1)) rfl)
      (pss_one (ps_ret (pv 2))))) pss_nil)
      (pss_cons (ps_par (i := 3) (j := 4) (by rfl) sc__law_draw.nd rfl rfl (by decide) rfl rfl (pa_cons (pe_dget (hu_of hr) (pv 0) (pe_txt (l := [111, 112, 101, 110, 101, 100]) (by decide +kernel)) (fun _ _ => rfl)) (pa_cons (pe_dget (hu_of hr) (pv 0) (pe_txt (l := [99, 101, 108, 108, 115]) (by decide +kernel)) (fun _ _ => rfl)) pa_nil)) (by rfl))
      (pss_cons (ps_dput (hu_of hr) (pv 0) (pe_txt (l := [111, 112, 101, 110, 101, 100]) (by decide +kernel)) (pe_op op_plus (pv 3) pe_int) rfl)
      (pss_cons (ps_if (pt_cmpR (op_eqq (un160 hr)) (pv 4) (pe_lst pa_nil) (nomark _)) (pss_one (ps_ret (pe_op op_rest (pe_callTy (call_intM) (by rfl) T.z_int (by decide +kernel) (pa_cons (pe_op op_plus (pe_op op_times pe_int (pv 3)) pe_int) pa_nil)) (pv 1)))) pss_nil)
      (pss_cons (ps_set (i := 5) sc__law_draw.nd rfl (Or.inl rfl) (pe_ix ix_item (pv 4) (pe_op op_rest (pe_callTy (call_intM) (by rfl) T.z_int (by decide +kernel) (pa_cons (pv 3) pa_nil)) (pe_callB (call_len1) (by rfl) T.z_len (by decide +kernel) (pa_cons (pv 4) pa_nil))) (fun _ _ => rfl)))
      (pss_cons (ps_if (PW.pt (pw_and (pt_cmpR (op_less) (pv 3) (pe_callB (call_len1) (by rfl) T.z_len (by decide +kernel) (pa_cons (pv 4) pa_nil)) (nomark _)) (pw_and1 (pt_cmpR (op_meq) (pe_callB (call_abs1) (by rfl) T.z_abs (by decide +kernel) (pa_cons (pv 5) pa_nil)) (pe_op op_power pe_int pe_int) (nomark _))))) (pss_cons (ps_dput (hu_of hr) (pv 0) (pe_txt (l := [108, 101, 102, 116]) (by decide +kernel)) (pe_op op_over (pe_op op_minus (pe_callB (call_abs1) (by rfl) T.z_abs (by decide +kernel) (pa_cons (pv 5) pa_nil)) (pe_op op_power pe_int pe_int)) (pv 1)) rfl)
      (pss_one (ps_ret (pe_op op_rest (pe_callTy (call_intM) (by rfl) T.z_int (by decide +kernel) (pa_cons (pe_op op_minus (pe_callB (call_abs1) (by rfl) T.z_abs (by decide +kernel) (pa_cons (pv 5) pa_nil)) (pe_op op_power pe_int pe_int)) pa_nil)) (pv 1))))) pss_nil)
      (pss_cons (ps_set (i := 6) sc__law_draw.nd rfl (Or.inl rfl) (pe_op op_rest (pe_callTy (call_intM) (by rfl) T.z_int (by decide +kernel) (pa_cons (pe_op op_plus (pe_op op_plus (pe_op op_plus (pe_op op_times (pe_op op_rest (pe_callTy (call_intM) (by rfl) T.z_int (by decide +kernel) (pa_cons (pv 5) pa_nil)) pe_int) pe_int) (pe_op op_times (pe_op op_times pe_int (pv 3)) (pv 3))) (pe_op op_times pe_int (pv 3))) pe_int) pa_nil)) pe_int))
      (pss_cons (ps_set (i := 6) sc__law_draw.nd rfl (Or.inl rfl) (pe_op op_rest (pe_callTy (call_intM) (by rfl) T.z_int (by decide +kernel) (pa_cons (pe_op op_plus (pe_op op_plus (pe_op op_times (pv 6) (pv 6)) (pe_op op_times pe_int (pv 6))) (pe_op op_times pe_int (pv 3))) pa_nil)) pe_int))
      (pss_one (ps_ret (pe_op op_rest (pe_callTy (call_intM) (by rfl) T.z_int (by decide +kernel) (pa_cons (pe_op op_over (pe_op op_rest (pe_callTy (call_intM) (by rfl) T.z_int (by decide +kernel) (pa_cons (pe_op op_times (pv 6) (pe_op op_plus (pv 6) pe_int)) pa_nil)) pe_int) pe_int) pa_nil)) (pv 1))))))))))))
theorem w__law_pick (T : Txt K mg C D) {s__law_draw : Sp} (c__law_draw : Cal P w K mg base "_law_draw" ["_law_pen_here", "_law_many"] 1 s__law_draw) {sp : Sp} (len : ∀ vs H Q E, sp vs H Q E → vs.length = 2)
    (rd : ∀ vs H Q E, sp vs H Q E → t__law_pick K s__law_draw { nx := fun _ H' => Q .non H', rt := Q } (start n__law_pick vs) H) : Cal P w K mg base "_law_pick" ["_law_pen_here", "_law_some"] 2 sp := by
  refine T.f__law_pick.cal sc__law_pick len fun f cdv A outer s H vs Q E hr h => ⟨t__law_pick K s__law_draw, ?_, rd vs H Q E h⟩
  exact (pss_one (ps_ret (pe_ix ix_item (pv 1) (Cal.call c__law_draw (hr.mono (by decide)) rfl (pa_cons (pv 0) (pa_cons (pe_callB (call_len1) (by rfl) T.z_len (by decide +kernel) (pa_cons (pv 1) pa_nil)) pa_nil))) (fun _ _ => rfl))))
theorem w__law_letters (T : Txt K mg C D) {s__law_draw : Sp} (c__law_draw : Cal P w K mg base "_law_draw" ["_law_pen_here", "_law_many"] 1 s__law_draw) {s__law_pick : Sp} (c__law_pick : Cal P w K mg base "_law_pick" ["_law_pen_here", "_law_some"] 2 s__law_pick) {sp : Sp} (len : ∀ vs H Q E, sp vs H Q E → vs.length = 1)
    (rd : ∀ vs H Q E, sp vs H Q E → t__law_letters K s__law_draw s__law_pick { nx := fun _ H' => Q .non H', rt := Q } (start n__law_letters vs) H) : Cal P w K mg base "_law_letters" ["_law_pen_here"] 3 sp := by
  refine T.f__law_letters.cal sc__law_letters len fun f cdv A outer s H vs Q E hr h => ⟨t__law_letters K s__law_draw s__law_pick, ?_, rd vs H Q E h⟩
  exact (pss_cons (ps_asg (pe_tup (pa_cons (pe_txt (l := [97, 98, 99, 100, 101, 102, 103, 104, 105, 106, 107, 108, 109, 110, 111, 112, 113, 114, 115, 116, 117, 118, 119, 120, 121, 122]) (by decide +kernel)) (pa_cons (Cal.call c__law_draw (hr.mono (by decide)) rfl (pa_cons (pv 0) (pa_cons pe_int pa_nil))) pa_nil))) (pg_tup rfl (pgs_cons (pg_name (i := 1) sc__law_letters.nd rfl (Or.inr rfl)) (pgs_cons (pg_name (i := 2) sc__law_letters.nd rfl (Or.inr rfl)) pgs_nil))))
      (pss_cons (ps_set (i := 3) sc__law_letters.nd rfl (Or.inr rfl) (Cal.call c__law_pick (hr.mono (by decide)) rfl (pa_cons (pv 0) (pa_cons (pe_lst (pa_cons pe_int (pa_cons pe_int (pa_cons pe_int (pa_cons pe_int (pa_cons pe_int (pa_cons pe_int (pa_cons pe_int (pa_cons pe_int (pa_cons pe_int (pa_cons pe_int (pa_cons pe_int (pa_cons pe_int pa_nil))))))))))))) pa_nil))))
      (pss_one (ps_ret (pe_joinT (pe_txt (l := []) (by decide +kernel)) (pe_lc (own := [("_law_k", 4)]) (g := (gName 4)) (tt := tYes) rfl sc__law_letters.nd (pi_range1 rfl T.z_range (pa_cons (pe_op op_plus pe_int (Cal.call c__law_draw (hr.mono (by decide)) rfl (pa_cons (pv 0) (pa_cons pe_int pa_nil)))) pa_nil)) (blkOk_by (own := [("_law_k", 4)]) (N := n__law_letters) (sc := defScope x__law_letters) (by decide +kernel)) (fun _ _ _ _ _ => (pg_name (i := 4) sc__law_letters.nd rfl (Or.inl rfl))) (fun _ _ _ _ _ => pts_nil) (fun _ _ _ _ _ => (pe_ix ix_item (pv 1) (pe_op op_rest (pe_callTy (call_intM) (by rfl) T.z_int (by decide +kernel) (pa_cons (pe_op op_plus (pv 2) (pe_op op_times (pv 3) (pv 4))) pa_nil)) pe_int) (fun _ _ => rfl)))))))))
theorem w__law_tree (T : Txt K mg C D) (j : Nat) {s__law_draw : Sp} (c__law_draw : Cal P w K mg base "_law_draw" ["_law_pen_here", "_law_many"] 1 s__law_draw) {s__law_tree : Sp} (c__law_tree : Cal P w K mg base "_law_tree" ["_law_pen_here", "_law_letters_here", "_law_width", "_law_states", "_law_depth"] (2 + j) s__law_tree) {sp : Sp} (len : ∀ vs H Q E, sp vs H Q E → vs.length = 5)
    (rd : ∀ vs H Q E, sp vs H Q E → t__law_tree K s__law_draw s__law_tree { nx := fun _ H' => Q .non H', rt := Q } (start n__law_tree vs) H) : Cal P w K mg base "_law_tree" ["_law_pen_here", "_law_letters_here", "_law_width", "_law_states", "_law_depth"] (2 + j + 1) sp := by
  refine T.f__law_tree.cal sc__law_tree len fun f cdv A outer s H vs Q E hr h => ⟨t__law_tree K s__law_draw s__law_tree, ?_, rd vs H Q E h⟩
  exact (pss_cons (ps_set (i := 5) sc__law_tree.nd rfl (Or.inl rfl) (pe_ifExp (pt_cmpR (op_more) (pv 4) pe_int (nomark _)) (Cal.call c__law_draw (hr.mono (by omega)) rfl (pa_cons (pv 0) (pa_cons pe_int pa_nil))) pe_int))
      (pss_cons (ps_if (pt_cmpR (op_less) (pv 5) pe_int (nomark _)) (pss_cons (ps_set (i := 6) sc__law_tree.nd rfl (Or.inl rfl) (Cal.call c__law_draw (hr.mono (by omega)) rfl (pa_cons (pv 0) (pa_cons (pe_op op_plus (pv 2) pe_int) pa_nil))))
      (pss_one (ps_ret (pe_tup (pa_cons (pe_txt (l := [114, 101, 97, 100]) (by decide +kernel)) (pa_cons (pv 6) (pa_cons (pe_callTy (call_tup1) (by rfl) T.z_tuple (by decide +kernel) (pa_cons (pe_lc (own := [("_law_letter", 7)]) (g := (gName 7)) (tt := tYes) rfl sc__law_tree.nd (pi_any (pv 1)) (blkOk_by (own := [("_law_letter", 7)]) (N := n__law_tree) (sc := defScope x__law_tree) (by decide +kernel)) (fun _ _ _ _ _ => (pg_name (i := 7) sc__law_tree.nd rfl (Or.inl rfl))) (fun _ _ _ _ _ => pts_nil) (fun _ _ _ _ _ => (Cal.call c__law_tree (hr.mono (by omega)) rfl (pa_cons (pv 0) (pa_cons (pv 1) (pa_cons (pv 2) (pa_cons (pv 3) (pa_cons (pe_op op_minus (pv 4) pe_int) pa_nil)))))))) pa_nil)) pa_nil))))))) pss_nil)
      (pss_cons (ps_if (pt_cmpR (op_eqq (un160 hr)) (pv 5) pe_int (nomark _)) (pss_one (ps_ret (pe_tup (pa_cons (pe_txt (l := [116, 101, 108, 108]) (by decide +kernel)) (pa_cons (Cal.call c__law_draw (hr.mono (by omega)) rfl (pa_cons (pv 0) (pa_cons pe_int pa_nil))) (pa_cons (Cal.call c__law_tree (hr.mono (by omega)) rfl (pa_cons (pv 0) (pa_cons (pv 1) (pa_cons (pv 2) (pa_cons (pv 3) (pa_cons (pe_op op_minus (pv 4) pe_int) pa_nil)))))) pa_nil)))))) pss_nil)
      (pss_one (ps_ret (pe_tup (pa_cons (pe_txt (l := [103, 111]) (by decide +kernel)) (pa_cons (pe_op op_plus pe_int (Cal.call c__law_draw (hr.mono (by omega)) rfl (pa_cons (pv 0) (pa_cons (pe_op op_plus (pv 2) pe_int) pa_nil)))) (pa_cons (Cal.call c__law_draw (hr.mono (by omega)) rfl (pa_cons (pv 0) (pa_cons (pv 3) pa_nil))) pa_nil)))))))))
theorem w__law_trees (T : Txt K mg C D) {s__law_tree : Sp} (c__law_tree : Cal P w K mg base "_law_tree" ["_law_pen_here", "_law_letters_here", "_law_width", "_law_states", "_law_depth"] 7 s__law_tree) {sp : Sp} (len : ∀ vs H Q E, sp vs H Q E → vs.length = 5)
    (rd : ∀ vs H Q E, sp vs H Q E → t__law_trees K s__law_tree { nx := fun _ H' => Q .non H', rt := Q } (start n__law_trees vs) H) : Cal P w K mg base "_law_trees" ["_law_pen_here", "_law_letters_here", "_law_width", "_law_many", "_law_depth"] 8 sp := by
  refine T.f__law_trees.cal sc__law_trees len fun f cdv A outer s H vs Q E hr h => ⟨t__law_trees K s__law_tree, ?_, rd vs H Q E h⟩
  exact (pss_one (ps_ret (pe_lc (own := [("_law_k", 5)]) (g := (gName 5)) (tt := tYes) rfl sc__law_trees.nd (pi_range1 rfl T.z_range (pa_cons (pv 3) pa_nil)) (blkOk_by (own := [("_law_k", 5)]) (N := n__law_trees) (sc := defScope x__law_trees) (by decide +kernel)) (fun _ _ _ _ _ => (pg_name (i := 5) sc__law_trees.nd rfl (Or.inl rfl))) (fun _ _ _ _ _ => pts_nil) (fun _ _ _ _ _ => (Cal.call c__law_tree (hr.mono (by decide)) rfl (pa_cons (pv 0) (pa_cons (pv 1) (pa_cons (pv 2) (pa_cons (pv 3) (pa_cons (pv 4) pa_nil))))))))))
theorem w__law_line (T : Txt K mg C D) (j : Nat) {s__law_line : Sp} (c__law_line : Cal P w K mg base "_law_line" ["_law_tree_here", "_law_letters_here"] (1 + j) s__law_line) {sp : Sp} (len : ∀ vs H Q E, sp vs H Q E → vs.length = 2)
    (rd : ∀ vs H Q E, sp vs H Q E → t__law_line K s__law_line { nx := fun _ H' => Q .non H', rt := Q } (start n__law_line vs) H) : Cal P w K mg base "_law_line" ["_law_tree_here", "_law_letters_here"] (1 + j + 1) sp := by
  refine T.f__law_line.cal sc__law_line len fun f cdv A outer s H vs Q E hr h => ⟨t__law_line K s__law_line, ?_, rd vs H Q E h⟩
  exact (pss_cons (ps_if (pt_cmpR (op_eqq (un160 hr)) (pe_ix ix_item (pv 0) pe_int (fun _ _ => rfl)) (pe_txt (l := [103, 111]) (by decide +kernel)) (nomark _)) (pss_one (ps_ret (pe_op op_plus (pe_op op_plus (pe_op op_plus (pe_txt (l := [103, 111, 32]) (by decide +kernel)) (pe_callTy (call_strI) (by rfl) T.z_str (by decide +kernel) (pa_cons (pe_ix ix_item (pv 0) pe_int (fun _ _ => rfl)) pa_nil))) (pe_txt (l := [32]) (by decide +kernel))) (pe_callTy (call_strI) (by rfl) T.z_str (by decide +kernel) (pa_cons (pe_ix ix_item (pv 0) pe_int (fun _ _ => rfl)) pa_nil))))) pss_nil)
      (pss_cons (ps_if (pt_cmpR (op_eqq (un160 hr)) (pe_ix ix_item (pv 0) pe_int (fun _ _ => rfl)) (pe_txt (l := [116, 101, 108, 108]) (by decide +kernel)) (nomark _)) (pss_one (ps_ret (pe_op op_plus (pe_op op_plus (pe_op op_plus (pe_txt (l := [116, 101, 108, 108, 32]) (by decide +kernel)) (pe_callTy (call_strI) (by rfl) T.z_str (by decide +kernel) (pa_cons (pe_ix ix_item (pv 0) pe_int (fun _ _ => rfl)) pa_nil))) (pe_txt (l := [32]) (by decide +kernel))) (Cal.call c__law_line (hr.mono (by omega)) rfl (pa_cons (pe_ix ix_item (pv 0) pe_int (fun _ _ => rfl)) (pa_cons (pv 1) pa_nil)))))) pss_nil)
      (pss_cons (ps_setLc (i := 2) (own := [("_law_k", 3)]) (g := (gName 3)) (tt := tYes) rfl sc__law_line.nd rfl rfl (sw_true rfl rfl rfl (by decide +kernel)) (pi_range1 rfl T.z_range (pa_cons (pe_callB (call_len1) (by rfl) T.z_len (by decide +kernel) (pa_cons (pv 1) pa_nil)) pa_nil)) (blkOk_by (own := [("_law_k", 3)]) (N := n__law_line) (sc := defScope x__law_line) (by decide +kernel)) (fun _ _ _ _ _ => (pg_name (i := 3) sc__law_line.nd rfl (Or.inl rfl))) (fun _ _ _ _ _ => pts_nil) (fun _ _ _ _ _ => (pe_op op_plus (pe_op op_plus (pe_ix ix_item (pv 1) (pv 3) (fun _ _ => rfl)) (pe_txt (l := [58, 32]) (by decide +kernel))) (Cal.call c__law_line (hr.mono (by omega)) rfl (pa_cons (pe_ix ix_item (pe_ix ix_item (pv 0) pe_int (fun _ _ => rfl)) (pv 3) (fun _ _ => rfl)) (pa_cons (pv 1) pa_nil))))))
      (pss_one (ps_ret (pe_op op_plus (pe_op op_plus (pe_op op_plus (pe_op op_plus (pe_txt (l := [114, 101, 97, 100, 32]) (by decide +kernel)) (pe_callTy (call_strI) (by rfl) T.z_str (by decide +kernel) (pa_cons (pe_ix ix_item (pv 0) pe_int (fun _ _ => rfl)) pa_nil))) (pe_txt (l := [32, 91]) (by decide +kernel))) (pe_joinT (pe_txt (l := [44, 32]) (by decide +kernel)) (pv 2))) (pe_txt (l := [93]) (by decide +kernel))))))))
theorem w__law_deep_tree (T : Txt K mg C D) {s__law_draw : Sp} (c__law_draw : Cal P w K mg base "_law_draw" ["_law_pen_here", "_law_many"] 1 s__law_draw) {sp : Sp} (len : ∀ vs H Q E, sp vs H Q E → vs.length = 4)
    (rd : ∀ vs H Q E, sp vs H Q E → t__law_deep_tree K s__law_draw { nx := fun _ H' => Q .non H', rt := Q } (start n__law_deep_tree vs) H) : Cal P w K mg base "_law_deep_tree" ["_law_pen_here", "_law_letters_here", "_law_width", "_law_states"] 2 sp := by
  refine T.f__law_deep_tree.cal sc__law_deep_tree len fun f cdv A outer s H vs Q E hr h => ⟨t__law_deep_tree K s__law_draw, ?_, rd vs H Q E h⟩
  exact (pss_cons (ps_set (i := 4) sc__law_deep_tree.nd rfl (Or.inl rfl) (pe_tup (pa_cons (pe_txt (l := [103, 111]) (by decide +kernel)) (pa_cons (pe_op op_plus (pv 2) pe_int) (pa_cons (pe_op op_minus (pv 3) pe_int) pa_nil)))))
      (pss_cons (ps_for PassesOwn.never rfl (pi_range1 rfl T.z_range (pa_cons pe_int pa_nil)) (pg_name (i := 5) sc__law_deep_tree.nd rfl (Or.inl rfl)) (pss_one (ps_if (pt_cmpR (op_more) (Cal.call c__law_draw (hr.mono (by decide)) rfl (pa_cons (pv 0) (pa_cons pe_int pa_nil))) pe_int (nomark _)) (pss_one (ps_set (i := 4) sc__law_deep_tree.nd rfl (Or.inl rfl) (pe_tup (pa_cons (pe_txt (l := [116, 101, 108, 108]) (by decide +kernel)) (pa_cons (Cal.call c__law_draw (hr.mono (by decide)) rfl (pa_cons (pv 0) (pa_cons pe_int pa_nil))) (pa_cons (pv 4) pa_nil)))))) (pss_one (ps_set (i := 4) sc__law_deep_tree.nd rfl (Or.inl rfl) (pe_tup (pa_cons (pe_txt (l := [114, 101, 97, 100]) (by decide +kernel)) (pa_cons (pv 2) (pa_cons (pe_op op_plus (pe_tup (pa_cons (pv 4) pa_nil)) (pe_callTy (call_tup1) (by rfl) T.z_tuple (by decide +kernel) (pa_cons (pe_lc (own := [("_law_letter", 6)]) (g := (gName 6)) (tt := tYes) rfl sc__law_deep_tree.nd (pi_any (pe_slice sl_cut (pv 1) (po_some pe_int) po_none)) (blkOk_by (own := [("_law_letter", 6)]) (N := n__law_deep_tree) (sc := defScope x__law_deep_tree) (by decide +kernel)) (fun _ _ _ _ _ => (pg_name (i := 6) sc__law_deep_tree.nd rfl (Or.inl rfl))) (fun _ _ _ _ _ => pts_nil) (fun _ _ _ _ _ => (pe_tup (pa_cons (pe_txt (l := [103, 111]) (by decide +kernel)) (pa_cons pe_int (pa_cons pe_int pa_nil)))))) pa_nil))) pa_nil)))))))))
      (pss_one (ps_ret (pv 4)))))
theorem w_law (T : Txt K mg C D) {s_Searcher__init : Sp} (c_Searcher__init : ∀ base : Heap, CalN P w K mg base "Searcher" C ["self", "letters", "width", "states"] 44 s_Searcher__init) {s_Searcher__eq : Sp} (c_Searcher__eq : ∀ base : Heap, CalO P w K mg base C ["self", "other"] 1 s_Searcher__eq) {s_Searcher__written : Sp} (c_Searcher__written : ∀ base : Heap, CalM P w K mg base C "written" ["self"] 43 s_Searcher__written) {s_Searcher__read : Sp} (c_Searcher__read : ∀ base : Heap, CalC P w K mg base C "read" ["cls", "text"] 89 s_Searcher__read) {s__law_pen : Sp} (c__law_pen : ∀ base : Heap, Cal P w K mg base "_law_pen" ["_law_script"] 1 s__law_pen) {s__law_draw : Sp} (c__law_draw : ∀ base : Heap, Cal P w K mg base "_law_draw" ["_law_pen_here", "_law_many"] 1 s__law_draw) {s__law_letters : Sp} (c__law_letters : ∀ base : Heap, Cal P w K mg base "_law_letters" ["_law_pen_here"] 3 s__law_letters) {s__law_trees : Sp} (c__law_trees : ∀ base : Heap, Cal P w K mg base "_law_trees" ["_law_pen_here", "_law_letters_here", "_law_width", "_law_many", "_law_depth"] 8 s__law_trees) {s__law_line : Sp} (c__law_line : ∀ base : Heap, Cal P w K mg base "_law_line" ["_law_tree_here", "_law_letters_here"] 42 s__law_line) {s__law_deep_tree : Sp} (c__law_deep_tree : ∀ base : Heap, Cal P w K mg base "_law_deep_tree" ["_law_pen_here", "_law_letters_here", "_law_width", "_law_states"] 2 s__law_deep_tree) {sp : Sp} (len : ∀ vs H Q E, sp vs H Q E → vs.length = 1)
    (rd : ∀ vs H Q E, sp vs H Q E → t_law K C s_Searcher__init s_Searcher__eq s_Searcher__written s_Searcher__read s__law_pen s__law_draw s__law_letters s__law_trees s__law_line s__law_deep_tree { nx := fun _ H' => Q .non H', rt := Q } (start n_law vs) H) {fa : Addr} (hfa : mg "law" = some (.ref fa)) : ∃ fd : FuncData, (∀ (s : Shared) (u : Value), BindsTo s fd ⟨[u], []⟩ [("_law_script", u)]) ∧ ∀ base : Heap, K.In base → base.Ns mainGlobals mg → FnOk P w K mg base CX0 90 fa fd ["_law_script"] sp := by
  have key := T.f_law.law (P := P) (w := w) (sp := sp) (k := 89) hfa sc_law len (fun base f cdv A outer s H vs Q E hr h => by
    have c_Searcher__init := c_Searcher__init base
    have c_Searcher__eq := c_Searcher__eq base
    have c_Searcher__written := c_Searcher__written base
    have c_Searcher__read := c_Searcher__read base
    have c__law_pen := c__law_pen base
    have c__law_draw := c__law_draw base
    have c__law_letters := c__law_letters base
    have c__law_trees := c__law_trees base
    have c__law_line := c__law_line base
    have c__law_deep_tree := c__law_deep_tree base
    refine ⟨t_law K C s_Searcher__init s_Searcher__eq s_Searcher__written s_Searcher__read s__law_pen s__law_draw s__law_letters s__law_trees s__law_line s__law_deep_tree, ?_, rd vs H Q E h⟩
    exact (pss_cons (ps_set (i := 1) sc_law.nd rfl (Or.inl rfl) (Cal.call c__law_pen (hr.mono (by decide)) rfl (pa_cons (pv 0) pa_nil)))
      (pss_cons (ps_for PassesOwn.never rfl (pi_range1 rfl T.z_range (pa_cons (pe_op op_plus pe_int (pe_callB (call_min1 rfl) (by rfl) T.z_min (by decide +kernel) (pa_cons pe_int (pa_cons (pe_callB (call_len1) (by rfl) T.z_len (by decide +kernel) (pa_cons (pv 0) pa_nil)) pa_nil)))) pa_nil)) (pg_name (i := 2) sc_law.nd rfl (Or.inl rfl)) (pss_cons (ps_asg (pe_tup (pa_cons (Cal.call c__law_letters (hr.mono (by decide)) rfl (pa_cons (pv 1) pa_nil)) (pa_cons (pe_op op_plus pe_int (Cal.call c__law_draw (hr.mono (by decide)) rfl (pa_cons (pv 1) (pa_cons pe_int pa_nil)))) (pa_cons (pe_op op_plus pe_int (Cal.call c__law_draw (hr.mono (by decide)) rfl (pa_cons (pv 1) (pa_cons pe_int pa_nil)))) pa_nil)))) (pg_tup rfl (pgs_cons (pg_name (i := 3) sc_law.nd rfl (Or.inr rfl)) (pgs_cons (pg_name (i := 4) sc_law.nd rfl (Or.inl rfl)) (pgs_cons (pg_name (i := 5) sc_law.nd rfl (Or.inl rfl)) pgs_nil)))))
      (pss_cons (ps_set (i := 6) sc_law.nd rfl (Or.inl rfl) (Cal.call c__law_trees (hr.mono (by decide)) rfl (pa_cons (pv 1) (pa_cons (pv 3) (pa_cons (pv 4) (pa_cons (pv 5) (pa_cons pe_int pa_nil)))))))
      (pss_cons (ps_if (pt_cmpR (op_eqq (un160 hr)) (Cal.call c__law_draw (hr.mono (by decide)) rfl (pa_cons (pv 1) (pa_cons pe_int pa_nil))) pe_int (nomark _)) (pss_one (ps_asg (Cal.call c__law_deep_tree (hr.mono (by decide)) rfl (pa_cons (pv 1) (pa_cons (pv 3) (pa_cons (pv 4) (pa_cons (pv 5) pa_nil))))) (pg_sub (pv 6) (pe_op op_minus (pv 5) pe_int) set_list))) pss_nil)
      (pss_cons (ps_set (i := 7) sc_law.nd rfl (Or.inl rfl) (CalN.call c_Searcher__init (hr.mono (by decide)) rfl (pa_cons (pv 3) (pa_cons (pv 4) (pa_cons (pv 6) pa_nil)))))
      (pss_cons (ps_set (i := 8) sc_law.nd rfl (Or.inl rfl) (pe_joinT (pe_txt (l := [10]) (by decide +kernel)) (pe_op op_plus (pe_lst (pa_cons (pe_op op_plus (pe_op op_plus (pv 3) (pe_txt (l := [32]) (by decide +kernel))) (pe_callTy (call_strI) (by rfl) T.z_str (by decide +kernel) (pa_cons (pv 4) pa_nil))) pa_nil)) (pe_lc (own := [("_law_tree_here", 9)]) (g := (gName 9)) (tt := tYes) rfl sc_law.nd (pi_any (pv 6)) (blkOk_by (own := [("_law_tree_here", 9)]) (N := n_law) (sc := defScope x_law) (by decide +kernel)) (fun _ _ _ _ _ => (pg_name (i := 9) sc_law.nd rfl (Or.inl rfl))) (fun _ _ _ _ _ => pts_nil) (fun _ _ _ _ _ => (Cal.call c__law_line (hr.mono (by decide)) rfl (pa_cons (pv 9) (pa_cons (pv 3) pa_nil))))))))
      (pss_cons (ps_if (PW.pt (pw_or (pt_cmpR (op_neq (un160 hr)) (CalM.call0 c_Searcher__written (hr.mono (by decide)) (pv 7)) (pv 8) (nomark _)) (pw_or (pt_cmpR (CalO.ne c_Searcher__eq T.ne_Searcher (hr.mono (by decide))) (CalC.call c_Searcher__read (hr.mono (by decide)) (pe_cls rfl T.c_Searcher.mgC (by decide)) (pa_cons (pv 8) pa_nil)) (pv 7) (nomark _)) (pw_or1 (pt_cmpR (op_neq (un160 hr)) (pe_fld (CalC.call c_Searcher__read (hr.mono (by decide)) (pe_cls rfl T.c_Searcher.mgC (by decide)) (pa_cons (pv 8) pa_nil)) rfl) (pe_callTy (call_tup1) (by rfl) T.z_tuple (by decide +kernel) (pa_cons (pv 6) pa_nil)) (nomark _)))))) (pss_one (ps_ret pe_bl)) pss_nil)
      (pss_one (ps_if (PW.pt (pw_or (pt_cmpR (op_neq (un160 hr)) (CalM.call0 c_Searcher__written (hr.mono (by decide)) (CalC.call c_Searcher__read (hr.mono (by decide)) (pe_cls rfl T.c_Searcher.mgC (by decide)) (pa_cons (CalM.call0 c_Searcher__written (hr.mono (by decide)) (pv 7)) pa_nil))) (pv 8) (nomark _)) (pw_or1 (pt_cmpR (op_neq (un160 hr)) (CalM.call0 c_Searcher__written (hr.mono (by decide)) (pv 7)) (pv 8) (nomark _))))) (pss_one (ps_ret pe_bl)) pss_nil)))))))))
      (pss_one (ps_ret pe_bl)))))
  obtain ⟨fd, hb, hF⟩ := key
  exact ⟨fd, fun s u => hb s [u] rfl, fun base _ _ => hF base⟩
theorem fin {fa : Addr} (hfa : mg "law" = some (.ref fa)) (T : Txt K mg C D) : ∃ fd : FuncData, (∀ (s : Shared) (u : Value), BindsTo s fd ⟨[u], []⟩ [("_law_script", u)]) ∧ ∀ base : Heap, K.In base → base.Ns mainGlobals mg → FnOk P w K mg base CX0 90 fa fd ["_law_script"] (spLaw K) := by
  have c_check_letters : ∀ base : Heap, Cal P w K mg base "check_letters" ["letters"] 1 (spCl) := fun base => w_check_letters T (len_cl) (rd_check_letters K)
  have c_Signs__init : ∀ base : Heap, CalN P w K mg base "Signs" D ["self", "line"] 1 (spSi K D) := fun base => w_Signs__init T (len_si K D) (rd_si K D T.sf)
  have c_Signs__takes : ∀ base : Heap, CalM P w K mg base D "takes" ["self", "part"] 1 (spTk K D) := fun base => w_Signs__takes T (len_tk K D) (rd_tk K D T.sf)
  have c_Signs__numeral : ∀ base : Heap, CalM P w K mg base D "numeral" ["self"] 1 (spNu K D) := fun base => w_Signs__numeral T (len_nu K D) (rd_nu K D T.sf)
  have c_Signs__two_numbers : ∀ base : Heap, CalM P w K mg base D "two_numbers" ["self"] 2 (spTw K D) := fun base => w_Signs__two_numbers T (c_Signs__takes base) (c_Signs__numeral base) (len_tw K D) (rd_tw K D)
  have r_Signs__whole : ∀ (base : Heap) (j : Nat), CalM P w K mg base D "whole" ["self", "letters", "level"] (3 + 2 * j) (spWh K D j) := by
    intro base j
    induction j with
    | zero => exact T.f_Signs__whole.met (k := 2) T.k_Signs sc_Signs__whole (len_wh K D 0) (fun _ _ _ _ _ _ _ _ _ _ h => (no_wh K D _ _ _ _ h).elim)
    | succ j ih =>
      have b2 := w_Signs__branches T j (c_Signs__takes base) (c_Signs__numeral base) ih (len_br K D j) (rd_br K D j)
      exact w_Signs__whole T j (c_Signs__takes base) (c_Signs__numeral base) (c_Signs__two_numbers base) ih b2 (len_wh K D (j + 1)) (rd_wh K D j)
  have c_Signs__whole : ∀ base : Heap, CalM P w K mg base D "whole" ["self", "letters", "level"] 87 (spWh K D 42) := fun base => r_Signs__whole base 42
  have c_read_head : ∀ base : Heap, Cal P w K mg base "read_head" ["line"] 2 (spRh K) := fun base => w_read_head T (c_check_letters base) (len_rh K) (rd_rh K)
  have c_read_tree : ∀ base : Heap, Cal P w K mg base "read_tree" ["letters", "line"] 88 (spRt K) := fun base => w_read_tree T (c_Signs__init base) (c_Signs__whole base) (len_rt K) (rd_rt K D T.sf)
  have c_is_number : ∀ base : Heap, Cal P w K mg base "is_number" ["value", "least", "most"] 1 (spNum K) := fun base => w_is_number T (len_num K) (rd_num K)
  have c_is_head : ∀ base : Heap, Cal P w K mg base "is_head" ["tree", "letters", "width", "states"] 2 (spHead K) := fun base => w_is_head T (c_is_number base) (len_head K) (rd_head K)
  have c_within : ∀ base : Heap, Cal P w K mg base "within" ["tree"] 1 (spWithin K) := fun base => w_within T (len_within K) (rd_within K)
  have r_checked : ∀ (base : Heap) (j : Nat), Cal P w K mg base "checked" ["tree", "letters", "width", "states", "level", "number"] (3 + j) (spChecked K j) := by
    intro base j
    induction j with
    | zero => exact T.f_checked.cal (k := 2) sc_checked (len_checked K 0) (fun _ _ _ _ _ _ _ _ _ _ h => (no_checked K _ _ _ _ h).elim)
    | succ j ih => exact w_checked T j (c_is_head base) (c_within base) ih (len_checked K (j + 1)) (rd_checked K j)
  have c_checked : ∀ base : Heap, Cal P w K mg base "checked" ["tree", "letters", "width", "states", "level", "number"] 43 (spChecked K 40) := fun base => r_checked base 40
  have r_kept : ∀ (base : Heap) (j : Nat), Cal P w K mg base "kept" ["tree"] (1 + j) (spKept K j) := by
    intro base j
    induction j with
    | zero => exact T.f_kept.cal (k := 0) sc_kept (len_kept K 0) (fun _ _ _ _ _ _ _ _ _ _ h => (no_kept K _ _ _ _ h).elim)
    | succ j ih => exact w_kept T j ih (len_kept K (j + 1)) (rd_kept K j)
  have c_kept : ∀ base : Heap, Cal P w K mg base "kept" ["tree"] 41 (spKept K 40) := fun base => r_kept base 40
  have r_tree_text : ∀ (base : Heap) (j : Nat), Cal P w K mg base "tree_text" ["tree", "letters"] (1 + j) (spTt K j) := by
    intro base j
    induction j with
    | zero => exact T.f_tree_text.cal (k := 0) sc_tree_text (len_tt K 0) (fun _ _ _ _ _ _ _ _ _ _ h => (no_tt K _ _ _ _ h).elim)
    | succ j ih => exact w_tree_text T j ih (len_tt K (j + 1)) (rd_tt K j)
  have c_tree_text : ∀ base : Heap, Cal P w K mg base "tree_text" ["tree", "letters"] 42 (spTt K 41) := fun base => r_tree_text base 41
  have c_Searcher__init : ∀ base : Heap, CalN P w K mg base "Searcher" C ["self", "letters", "width", "states"] 44 (spInit K C 40) := fun base => w_Searcher__init T (c_check_letters base) (c_is_number base) (c_checked base) (c_kept base) (len_init K C 40) (fun vs H Q E h => rd_init K C T.cf vs H Q E 40 (by decide) h)
  have c_Searcher__eq : ∀ base : Heap, CalO P w K mg base C ["self", "other"] 1 (spEq K C) := fun base => w_Searcher__eq T (len_eq K C) (rd_eq K C T.cf)
  have c_Searcher__written : ∀ base : Heap, CalM P w K mg base C "written" ["self"] 43 (spWr K C) := fun base => w_Searcher__written T (c_tree_text base) (len_wr K C) (rd_wr K C T.cf)
  have c_Searcher__read : ∀ base : Heap, CalC P w K mg base C "read" ["cls", "text"] 89 (spRd K C) := fun base => w_Searcher__read T (c_read_head base) (c_read_tree base) (c_checked base) (c_tree_text base) (c_Searcher__init base) (len_rd K C) (rd_rd K C)
  have c__law_pen : ∀ base : Heap, Cal P w K mg base "_law_pen" ["_law_script"] 1 (spPen K) := fun base => w__law_pen T (len_pen K) (rd_pen K)
  have c__law_draw : ∀ base : Heap, Cal P w K mg base "_law_draw" ["_law_pen_here", "_law_many"] 1 (spDraw) := fun base => w__law_draw T (len_draw) (rd_draw K)
  have c__law_pick : ∀ base : Heap, Cal P w K mg base "_law_pick" ["_law_pen_here", "_law_some"] 2 (spPick K) := fun base => w__law_pick T (c__law_draw base) (len_pick K) (rd_pick K)
  have c__law_letters : ∀ base : Heap, Cal P w K mg base "_law_letters" ["_law_pen_here"] 3 (spLetters) := fun base => w__law_letters T (c__law_draw base) (c__law_pick base) (len_letters) (rd_letters K)
  have r__law_tree : ∀ (base : Heap) (j : Nat), Cal P w K mg base "_law_tree" ["_law_pen_here", "_law_letters_here", "_law_width", "_law_states", "_law_depth"] (2 + j) (spTree K j) := by
    intro base j
    induction j with
    | zero => exact T.f__law_tree.cal (k := 1) sc__law_tree (len_tree K 0) (fun _ _ _ _ _ _ _ _ _ _ h => (no_tree K _ _ _ _ h).elim)
    | succ j ih => exact w__law_tree T j (c__law_draw base) ih (len_tree K (j + 1)) (rd_tree K j)
  have c__law_tree : ∀ base : Heap, Cal P w K mg base "_law_tree" ["_law_pen_here", "_law_letters_here", "_law_width", "_law_states", "_law_depth"] 7 (spTree K 5) := fun base => r__law_tree base 5
  have c__law_trees : ∀ base : Heap, Cal P w K mg base "_law_trees" ["_law_pen_here", "_law_letters_here", "_law_width", "_law_many", "_law_depth"] 8 (spTrees K) := fun base => w__law_trees T (c__law_tree base) (len_trees K) (rd_trees K)
  have r__law_line : ∀ (base : Heap) (j : Nat), Cal P w K mg base "_law_line" ["_law_tree_here", "_law_letters_here"] (1 + j) (spLn K j) := by
    intro base j
    induction j with
    | zero => exact T.f__law_line.cal (k := 0) sc__law_line (len_tt K 0) (fun _ _ _ _ _ _ _ _ _ _ h => (no_tt K _ _ _ _ h).elim)
    | succ j ih => exact w__law_line T j ih (len_tt K (j + 1)) (rd_ln K j)
  have c__law_line : ∀ base : Heap, Cal P w K mg base "_law_line" ["_law_tree_here", "_law_letters_here"] 42 (spLn K 41) := fun base => r__law_line base 41
  have c__law_deep_tree : ∀ base : Heap, Cal P w K mg base "_law_deep_tree" ["_law_pen_here", "_law_letters_here", "_law_width", "_law_states"] 2 (spDp K) := fun base => w__law_deep_tree T (c__law_draw base) (len_dp K) (rd_dp K)
  exact w_law T c_Searcher__init c_Searcher__eq c_Searcher__written c_Searcher__read c__law_pen c__law_draw c__law_letters c__law_trees c__law_line c__law_deep_tree (len_law K) (rd_law K C T.cf) hfa
end
end Wk07

namespace Wk07
end Wk07
open PySem PySem.W PyProof.Rows in
set_option maxRecDepth 100000 in
set_option maxHeartbeats 0 in
theorem PySem.Challenge.cw_wordskips_k07_whole_texts_of_searchers_holds : PySem.Challenge.rw_wordskips_k07_whole_texts_of_searchers.Holds := by
  w_on; o_law; k_head; (case hw => w_witness2)
  k_fill
  refine L2.walk_of (l := PySem.Challenge.rw_wordskips_k07_whole_texts_of_searchers) (n := 63) (k := 90) (x := "_law_script") (CX := fun _ => L2.CX0) (sp := fun w => Wk07.spLaw _) rfl (by decide) rfl ⟨rfl, by decide, by decide⟩ (fun w h Y => PySem.W.kIn_of Y) ?F (fun _ _ a ns hl _ hS => ⟨a, ns, rfl, hS, hl, fun _ => rfl⟩) (fun _ _ _ _ _ h => h)
  case F =>
    intro w mg fa h KX G hmg
    refine' Wk07.fin hmg ⟨?c_Searcher, ?ne_Searcher, ?k_Searcher, ?c_Signs, ?k_Signs, ?cf, ?sf, ?z_abs, ?z_all, ?z_bool, ?z_enumerate, ?z_int, ?z_isinstance, ?z_len, ?z_list, ?z_min, ?z_range, ?z_set, ?z_str, ?z_tuple, ?z_zip, ?g_DIGITS, ?g_MOST_DEEP, ?g_MOST_LEVELS, ?g_MOST_NODES, ?g_MOST_STATES, ?g_MOST_TOLD, ?g_MOST_WIDTH, ?g_SMALL, ?f_check_letters, ?f_Signs__init, ?f_Signs__takes, ?f_Signs__numeral, ?f_Signs__two_numbers, ?f_Signs__whole, ?f_Signs__branches, ?f_read_head, ?f_read_tree, ?f_is_number, ?f_is_head, ?f_within, ?f_checked, ?f_kept, ?f_tree_text, ?f_Searcher__init, ?f_Searcher__eq, ?f_Searcher__written, ?f_Searcher__read, ?f__law_pen, ?f__law_draw, ?f__law_pick, ?f__law_letters, ?f__law_tree, ?f__law_trees, ?f__law_line, ?f__law_deep_tree, ?f_law⟩
    (case c_Searcher => refine' ⟨PySem.W.mg_of KX G ?a, ?b, ?c⟩; (case a => k_is); (case b => k_is); (case c => k_is))
    (case ne_Searcher => refine' ⟨?a, ?b⟩; (case a => k_is); (case b => k_is))
    (case k_Searcher => refine' ⟨?a, ?b, ?c, ?d⟩; (case a => k_is); (case b => k_is); (case c => k_is); (case d => k_is))
    (case c_Signs => refine' ⟨PySem.W.mg_of KX G ?a, ?b, ?c⟩; (case a => k_is); (case b => k_is); (case c => k_is))
    (case k_Signs => refine' ⟨?a, ?b, ?c, ?d⟩; (case a => k_is); (case b => k_is); (case c => k_is); (case d => k_is))
    (case cf => refine' ⟨⟨?pg, ?hd, ?po, ?sa⟩, ?nL, ?nW, ?nS, ?nN, ?ha, ?hn, ?htk, ?hm, ?kT⟩; (case pg => k_is); (case hd => k_is); (case po => k_is); (case sa => k_is); (case nL => show PySem.W.findIn _ _ _ = _; k_is); (case nW => show PySem.W.findIn _ _ _ = _; k_is); (case nS => show PySem.W.findIn _ _ _ = _; k_is); (case nN => show PySem.W.findIn _ _ _ = _; k_is); (case ha => k_is); (case hn => k_is); (case htk => k_is); (case hm => k_is); (case kT => refine' WkSr.kT_of ?u ?v; (case u => k_is); (case v => k_is)))
    (case sf => refine' ⟨⟨?pg, ?hd, ?po, ?sa⟩, ?nL, ?nA⟩; (case pg => k_is); (case hd => k_is); (case po => k_is); (case sa => k_is); (case nL => show PySem.W.findIn _ _ _ = _; k_is); (case nA => show PySem.W.findIn _ _ _ = _; k_is))
    (case z_abs => refine PySem.W.mg_none_of KX G ?_; k_is)
    (case z_all => refine PySem.W.mg_none_of KX G ?_; k_is)
    (case z_bool => refine PySem.W.mg_none_of KX G ?_; k_is)
    (case z_enumerate => refine PySem.W.mg_none_of KX G ?_; k_is)
    (case z_int => refine PySem.W.mg_none_of KX G ?_; k_is)
    (case z_isinstance => refine PySem.W.mg_none_of KX G ?_; k_is)
    (case z_len => refine PySem.W.mg_none_of KX G ?_; k_is)
    (case z_list => refine PySem.W.mg_none_of KX G ?_; k_is)
    (case z_min => refine PySem.W.mg_none_of KX G ?_; k_is)
    (case z_range => refine PySem.W.mg_none_of KX G ?_; k_is)
    (case z_set => refine PySem.W.mg_none_of KX G ?_; k_is)
    (case z_str => refine PySem.W.mg_none_of KX G ?_; k_is)
    (case z_tuple => refine PySem.W.mg_none_of KX G ?_; k_is)
    (case z_zip => refine PySem.W.mg_none_of KX G ?_; k_is)
    (case g_DIGITS => refine' ⟨_, PySem.W.mg_of KX G ?a, ?b⟩; (case a => k_is); (case b => exact ⟨_, rfl⟩))
    (case g_MOST_DEEP => refine' ⟨_, PySem.W.mg_of KX G ?a, ?b⟩; (case a => k_is); (case b => exact ⟨_, rfl⟩))
    (case g_MOST_LEVELS => refine' ⟨_, PySem.W.mg_of KX G ?a, ?b⟩; (case a => k_is); (case b => exact ⟨_, rfl⟩))
    (case g_MOST_NODES => refine' ⟨_, PySem.W.mg_of KX G ?a, ?b⟩; (case a => k_is); (case b => exact ⟨_, rfl⟩))
    (case g_MOST_STATES => refine' ⟨_, PySem.W.mg_of KX G ?a, ?b⟩; (case a => k_is); (case b => exact ⟨_, rfl⟩))
    (case g_MOST_TOLD => refine' ⟨_, PySem.W.mg_of KX G ?a, ?b⟩; (case a => k_is); (case b => exact ⟨_, rfl⟩))
    (case g_MOST_WIDTH => refine' ⟨_, PySem.W.mg_of KX G ?a, ?b⟩; (case a => k_is); (case b => exact ⟨_, rfl⟩))
    (case g_SMALL => refine' ⟨_, PySem.W.mg_of KX G ?a, ?b⟩; (case a => k_is); (case b => exact ⟨_, rfl⟩))
    (case f_check_letters => refine' Wk.df_mk KX G ?a ?l ?c ?k (fun _ _ _ _ _ _ us hl => match us, hl with | [_], _ => rfl); (case a => k_is); (case l => k_is); (case c => k_is); (case k => k_is))
    (case f_Signs__init => refine' Wk.mth_mk ?a ?i ?l ?c ?k (fun _ _ _ _ _ _ us hl => match us, hl with | [_, _], _ => rfl); (case a => k_is); (case i => k_is); (case l => k_is); (case c => k_is); (case k => k_is))
    (case f_Signs__takes => refine' Wk.mth_mk ?a ?i ?l ?c ?k (fun _ _ _ _ _ _ us hl => match us, hl with | [_, _], _ => rfl); (case a => k_is); (case i => k_is); (case l => k_is); (case c => k_is); (case k => k_is))
    (case f_Signs__numeral => refine' Wk.mth_mk ?a ?i ?l ?c ?k (fun _ _ _ _ _ _ us hl => match us, hl with | [_], _ => rfl); (case a => k_is); (case i => k_is); (case l => k_is); (case c => k_is); (case k => k_is))
    (case f_Signs__two_numbers => refine' Wk.mth_mk ?a ?i ?l ?c ?k (fun _ _ _ _ _ _ us hl => match us, hl with | [_], _ => rfl); (case a => k_is); (case i => k_is); (case l => k_is); (case c => k_is); (case k => k_is))
    (case f_Signs__whole => refine' Wk.mth_mk ?a ?i ?l ?c ?k (fun _ _ _ _ _ _ us hl => match us, hl with | [_, _, _], _ => rfl); (case a => k_is); (case i => k_is); (case l => k_is); (case c => k_is); (case k => k_is))
    (case f_Signs__branches => refine' Wk.mth_mk ?a ?i ?l ?c ?k (fun _ _ _ _ _ _ us hl => match us, hl with | [_, _, _], _ => rfl); (case a => k_is); (case i => k_is); (case l => k_is); (case c => k_is); (case k => k_is))
    (case f_read_head => refine' Wk.df_mk KX G ?a ?l ?c ?k (fun _ _ _ _ _ _ us hl => match us, hl with | [_], _ => rfl); (case a => k_is); (case l => k_is); (case c => k_is); (case k => k_is))
    (case f_read_tree => refine' Wk.df_mk KX G ?a ?l ?c ?k (fun _ _ _ _ _ _ us hl => match us, hl with | [_, _], _ => rfl); (case a => k_is); (case l => k_is); (case c => k_is); (case k => k_is))
    (case f_is_number => refine' Wk.df_mk KX G ?a ?l ?c ?k (fun _ _ _ _ _ _ us hl => match us, hl with | [_, _, _], _ => rfl); (case a => k_is); (case l => k_is); (case c => k_is); (case k => k_is))
    (case f_is_head => refine' Wk.df_mk KX G ?a ?l ?c ?k (fun _ _ _ _ _ _ us hl => match us, hl with | [_, _, _, _], _ => rfl); (case a => k_is); (case l => k_is); (case c => k_is); (case k => k_is))
    (case f_within => refine' Wk.df_mk KX G ?a ?l ?c ?k (fun _ _ _ _ _ _ us hl => match us, hl with | [_], _ => rfl); (case a => k_is); (case l => k_is); (case c => k_is); (case k => k_is))
    (case f_checked => refine' Wk.df_mk KX G ?a ?l ?c ?k (fun _ _ _ _ _ _ us hl => match us, hl with | [_, _, _, _, _, _], _ => rfl); (case a => k_is); (case l => k_is); (case c => k_is); (case k => k_is))
    (case f_kept => refine' Wk.df_mk KX G ?a ?l ?c ?k (fun _ _ _ _ _ _ us hl => match us, hl with | [_], _ => rfl); (case a => k_is); (case l => k_is); (case c => k_is); (case k => k_is))
    (case f_tree_text => refine' Wk.df_mk KX G ?a ?l ?c ?k (fun _ _ _ _ _ _ us hl => match us, hl with | [_, _], _ => rfl); (case a => k_is); (case l => k_is); (case c => k_is); (case k => k_is))
    (case f_Searcher__init => refine' Wk.mth_mk ?a ?i ?l ?c ?k (fun _ _ _ _ _ _ us hl => match us, hl with | [_, _, _, _], _ => rfl); (case a => k_is); (case i => k_is); (case l => k_is); (case c => k_is); (case k => k_is))
    (case f_Searcher__eq => refine' Wk.mth_mk ?a ?i ?l ?c ?k (fun _ _ _ _ _ _ us hl => match us, hl with | [_, _], _ => rfl); (case a => k_is); (case i => k_is); (case l => k_is); (case c => k_is); (case k => k_is))
    (case f_Searcher__written => refine' Wk.mth_mk ?a ?i ?l ?c ?k (fun _ _ _ _ _ _ us hl => match us, hl with | [_], _ => rfl); (case a => k_is); (case i => k_is); (case l => k_is); (case c => k_is); (case k => k_is))
    (case f_Searcher__read => refine' Wk.cmt_mk ?r1 ?r2 ?m1 ?m2 ?m3 ?l ?c ?k (fun _ _ _ _ _ _ us hl => match us, hl with | [_, _], _ => rfl); (case r1 => k_is); (case r2 => k_is); (case m1 => k_is); (case m2 => k_is); (case m3 => k_is); (case l => k_is); (case c => k_is); (case k => k_is))
    (case f__law_pen => refine' Wk.df_mk KX G ?a ?l ?c ?k (fun _ _ _ _ _ _ us hl => match us, hl with | [_], _ => rfl); (case a => k_is); (case l => k_is); (case c => k_is); (case k => k_is))
    (case f__law_draw => refine' Wk.df_mk KX G ?a ?l ?c ?k (fun _ _ _ _ _ _ us hl => match us, hl with | [_, _], _ => rfl); (case a => k_is); (case l => k_is); (case c => k_is); (case k => k_is))
    (case f__law_pick => refine' Wk.df_mk KX G ?a ?l ?c ?k (fun _ _ _ _ _ _ us hl => match us, hl with | [_, _], _ => rfl); (case a => k_is); (case l => k_is); (case c => k_is); (case k => k_is))
    (case f__law_letters => refine' Wk.df_mk KX G ?a ?l ?c ?k (fun _ _ _ _ _ _ us hl => match us, hl with | [_], _ => rfl); (case a => k_is); (case l => k_is); (case c => k_is); (case k => k_is))
    (case f__law_tree => refine' Wk.df_mk KX G ?a ?l ?c ?k (fun _ _ _ _ _ _ us hl => match us, hl with | [_, _, _, _, _], _ => rfl); (case a => k_is); (case l => k_is); (case c => k_is); (case k => k_is))
    (case f__law_trees => refine' Wk.df_mk KX G ?a ?l ?c ?k (fun _ _ _ _ _ _ us hl => match us, hl with | [_, _, _, _, _], _ => rfl); (case a => k_is); (case l => k_is); (case c => k_is); (case k => k_is))
    (case f__law_line => refine' Wk.df_mk KX G ?a ?l ?c ?k (fun _ _ _ _ _ _ us hl => match us, hl with | [_, _], _ => rfl); (case a => k_is); (case l => k_is); (case c => k_is); (case k => k_is))
    (case f__law_deep_tree => refine' Wk.df_mk KX G ?a ?l ?c ?k (fun _ _ _ _ _ _ us hl => match us, hl with | [_, _, _, _], _ => rfl); (case a => k_is); (case l => k_is); (case c => k_is); (case k => k_is))
    (case f_law => refine' Wk.df_mk KX G ?a ?l ?c ?k (fun _ _ _ _ _ _ us hl => match us, hl with | [_], _ => rfl); (case a => k_is); (case l => k_is); (case c => k_is); (case k => k_is))
