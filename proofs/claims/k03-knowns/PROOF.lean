import PyProof.Rows.All
import Wide.All
import OpenK.AllK
import Wide.FinOn
import HandS.ForMost
import HandS.Wide
import HandS.Walk
import HandS.IsInst
import HandS.Zip
import KE.GoesZip
import KE.DataEq
import KE.GoesMore
import PySem.Challenge.RW_wordskips_k03_knowns
set_option Elab.async false
set_option linter.all false
set_option maxRecDepth 100000
set_option maxHeartbeats 4000000
namespace Wk
open PySem PySem.Spec PyProof.Rows L2
open TL (tl len_tl ext_tl tl_append mk_tl)

/-! ## texts as lists of signs -/
abbrev sx (l : List Nat) : Str := ⟨l.toArray⟩
abbrev tx (l : List Nat) : V := .str (sx l)
theorem sx_tl (z : Str) : sx (tl z) = z := mk_tl z
theorem tl_sx (l : List Nat) : tl (sx l) = l := rfl
theorem len_sx (l : List Nat) : (sx l).length = l.length := by simp [Str.length]
theorem len_str (z : Str) : z.length = (tl z).length := len_tl z
theorem str_inj {a b : List Nat} : (sx a = sx b) ↔ a = b := ⟨fun h => by
  have := congrArg tl h
  exact this, fun h => by rw [h]⟩
theorem tx_inj {a b : List Nat} : (tx a = tx b) ↔ a = b := ⟨fun h => str_inj.mp (V.str.inj h), fun h => by rw [h]⟩
theorem dec_tx {a b : List Nat} : decide (tx a = tx b) = decide (a = b) := by
  by_cases h : a = b
  · subst h; simp
  · rw [decide_eq_false h, decide_eq_false fun q => h (tx_inj.mp q)]
theorem app_sx (a b : List Nat) : sx a ++ sx b = sx (a ++ b) := ext_tl (by rw [tl_append])
theorem sz_le {n : Nat} (h : n ≤ 100000) : n ≤ sizeLine := Nat.le_trans h (by decide)
theorem sz_lt {n : Nat} (h : n < 100000) : n < sizeLine := Nat.lt_of_lt_of_le h (by decide)

/-! ## operators on values of several kinds -/
section
variable {X : Cx}
/-- + : ints, texts, lists, tuples -/
def rPlus (K : PySem.W.Frag) : R2 := fun x y H Q => match x, y with
  | .int i, .int j => Q (.int (i + j)) H
  | .str a, .str b => (tl a).length + (tl b).length ≤ 100000 ∧ Q (tx (tl a ++ tl b)) H
  | .ref a, .ref b => (∃ xs ys, H a = some (.lst xs) ∧ H b = some (.lst ys) ∧ xs.length + ys.length ≤ 100000 ∧ ∀ p, H p = none → Q (.ref p) (upd H p (.lst (xs ++ ys)))) ∨ rCatT K x y H Q
  | _, _ => False
theorem op_plus : OpR X (binaryOp .Add) (rPlus X.K) := by
  intro pins s σ H x y v u Q I rx ry h
  cases x with
  | int i =>
    cases y with
    | int j => exact op_add pins s σ H _ _ v u Q I rx ry ⟨i, j, rfl, rfl, h⟩
    | _ => exact False.elim h
  | str a =>
    cases y with
    | str b =>
      refine op_add_str pins s σ H _ _ v u Q I rx ry ⟨a, b, rfl, rfl, ?_, ?_⟩
      · rw [len_str, len_str]; exact sz_le h.1
      · have e : a ++ b = sx (tl a ++ tl b) := ext_tl (by rw [tl_append])
        rw [e]; exact h.2
    | _ => exact False.elim h
  | ref a =>
    cases y with
    | ref b =>
      rcases h with ⟨xs, ys, h1, h2, h3, h4⟩ | h
      · exact op_cat pins s σ H _ _ v u Q I rx ry ⟨a, b, xs, ys, rfl, rfl, h1, h2, sz_le h3, h4⟩
      · exact op_catT pins s σ H _ _ v u Q I rx ry h
    | _ => exact False.elim h
  | _ => exact False.elim h
/-- a text so often -/
def repS (l : List Nat) (n : Int) : List Nat := (List.replicate n.toNat l).flatten
theorem foldl_cat : ∀ (k : Nat) (c acc : Array Nat), ((List.replicate k c).foldl (· ++ ·) acc).toList = acc.toList ++ (List.replicate k c.toList).flatten
  | 0, c, acc => by simp
  | k + 1, c, acc => by
    rw [List.replicate_succ, List.foldl_cons, foldl_cat k c (acc ++ c), List.replicate_succ, List.flatten_cons, Array.toList_append, List.append_assoc]
theorem mul_tl (a : Str) (n : Int) : Txt.mul a n = sx (repS (tl a) n) := by
  refine ext_tl ?_
  unfold Txt.mul repS
  by_cases h : n < 1
  · rw [if_pos h]
    have e : n.toNat = 0 := by omega
    rw [e]; rfl
  · rw [if_neg h]
    split
    · rename_i hc
      rw [Bool.or_eq_true, beq_iff_eq, beq_iff_eq] at hc
      rcases hc with e | e
      · subst e
        show tl a = (List.replicate (Int.toNat 1) (tl a)).flatten
        simp
      · have e2 : tl a = [] := List.eq_nil_of_length_eq_zero (by rw [← len_tl]; exact e)
        show tl a = (List.replicate n.toNat (tl a)).flatten
        rw [e2]; simp
    · show ((List.replicate n.toNat a.cps).foldl (· ++ ·) #[]).toList = _
      rw [foldl_cat]; rfl
/-- * : ints, a text and an int -/
def rTimes (K : PySem.W.Frag) : R2 := fun x y H Q => match x, y with
  | .int i, .int j => CMulW i j ∧ Q (.int (i * j)) H
  | .str a, .int n => (-1000 ≤ n ∧ n ≤ 1000 ∧ (tl a).length ≤ 1000) ∧ Q (tx (repS (tl a) n)) H
  | .ref _, .int _ => rRep x y H Q
  | _, _ => False
theorem op_times : OpR X (binaryOp .Mult) (rTimes X.K) := by
  intro pins s σ H x y v u Q I rx ry h
  cases x with
  | int i =>
    cases y with
    | int j => exact op_mulW pins s σ H _ _ v u Q I rx ry ⟨i, j, rfl, rfl, h.1, h.2⟩
    | _ => exact False.elim h
  | str a =>
    cases y with
    | int n =>
      obtain ⟨t, rfl⟩ := rx
      obtain ⟨t', rfl⟩ := ry
      obtain ⟨⟨h1, h2, h3⟩, q⟩ := h
      refine SB.mul (mulOk_of 1000 1000 (by rw [len_str]; exact h3) h2 (by omega) (by decide) (by decide)) fun t2 k => ⟨.str (Txt.mul a n), H, I.tok k, ⟨t2, rfl⟩, ?_⟩
      rw [mul_tl]; exact q
    | _ => exact False.elim h
  | ref a =>
    cases y with
    | int n => exact op_rep pins s σ H _ _ v u Q I rx ry h
    | _ => exact False.elim h
  | _ => exact False.elim h

/-- data bear no dicts -/
theorem dp_plain {K : PySem.W.Frag} {H : Hp} : ∀ (d : PyData) (v : V), Dp K H v d → d.plain = true
  | .none, _, _ => rfl
  | .bool _, _, _ => rfl
  | .int _, _, _ => rfl
  | .str _, _, _ => rfl
  | .list ds, _, h => by
    cases h with
    | lst _ ha => exact all ds _ ha
  | .tuple ds, _, h => by
    cases h with
    | tup _ ha => exact all ds _ ha
  | .dict _, _, h => by cases h
where all {K : PySem.W.Frag} {H : Hp} : ∀ (ds : List PyData) (vs : List V), DpAll K H vs ds → PyData.plainAll ds = true
  | [], _, _ => rfl
  | d :: ds, _, h => by
    cases h with
    | cons h1 h2 =>
      show (d.plain && PyData.plainAll ds) = true
      rw [dp_plain d _ h1, all ds _ h2]; rfl
/-- ==, != : what is told apart at once, or data of any depth -/
def rEqP (K : PySem.W.Frag) : R2 := fun x y H Q => ∃ d e, Dp K H x d ∧ Dp K H y e ∧ min d.depth e.depth < 64 ∧ Q (.bl (PyData.eqv d e)) H
def rNeP (K : PySem.W.Frag) : R2 := fun x y H Q => ∃ d e, Dp K H x d ∧ Dp K H y e ∧ min d.depth e.depth < 64 ∧ Q (.bl (!PyData.eqv d e)) H
theorem op_eqP (hu : X.A.units + 64 < cLine) : OpR X (compareOp .Eq) (rEqP X.K) := by
  intro pins s σ H x y v u Q I rx ry h
  obtain ⟨d, e, hd, he, sd, q⟩ := h
  obtain ⟨as, r1⟩ := Dp.reads I d x v hd rx
  obtain ⟨bs, r2⟩ := Dp.reads I e y u he ry
  exact SeqAt.eq_plain r1 r2 (dp_plain d x hd) (dp_plain e y he) (by omega) ⟨.bl _, H, I, rfl, q⟩
theorem op_neP (hu : X.A.units + 64 < cLine) : OpR X (compareOp .NotEq) (rNeP X.K) := by
  intro pins s σ H x y v u Q I rx ry h
  obtain ⟨d, e, hd, he, sd, q⟩ := h
  obtain ⟨as, r1⟩ := Dp.reads I d x v hd rx
  obtain ⟨bs, r2⟩ := Dp.reads I e y u he ry
  exact SeqAt.ne_plain r1 r2 (dp_plain d x hd) (dp_plain e y he) (by omega) ⟨.bl _, H, I, rfl, q⟩
def rEqq (K : PySem.W.Frag) : R2 := fun x y H Q => match x, y with
  | .ref _, _ => rEqP K x y H Q
  | _, .ref _ => rEqP K x y H Q
  | _, _ => scal x y = true ∧ Q (.bl (decide (x = y))) H
def rNeq (K : PySem.W.Frag) : R2 := fun x y H Q => match x, y with
  | .ref _, _ => rNeP K x y H Q
  | _, .ref _ => rNeP K x y H Q
  | _, _ => scal x y = true ∧ Q (.bl (!decide (x = y))) H
theorem op_eqq (hu : X.A.units + 64 < cLine) : OpR X (compareOp .Eq) (rEqq X.K) := by
  intro pins s σ H x y v u Q I rx ry h
  unfold rEqq at h
  split at h
  · exact op_eqP hu pins s σ H _ _ v u Q I rx ry h
  · exact op_eqP hu pins s σ H _ _ v u Q I rx ry h
  · exact op_eq pins s σ H _ _ v u Q I rx ry h
theorem op_neq (hu : X.A.units + 64 < cLine) : OpR X (compareOp .NotEq) (rNeq X.K) := by
  intro pins s σ H x y v u Q I rx ry h
  unfold rNeq at h
  split at h
  · exact op_neP hu pins s σ H _ _ v u Q I rx ry h
  · exact op_neP hu pins s σ H _ _ v u Q I rx ry h
  · exact op_ne pins s σ H _ _ v u Q I rx ry h

/-- in, not in: a text in a text (one sign), else in a list or tuple of flat things -/
def rInn (K : PySem.W.Frag) : R2 := fun x y H Q => match x, y with
  | .str a, .str z => (∃ c, tl a = [c] ∧ Q (.bl (decide (c ∈ tl z))) H) ∨ Q (.bl (!(Builtin.Str.occurrences z a 0 z.length 1).isEmpty)) H
  | _, .ref _ => rIn K false x y H Q
  | _, _ => False
def rNin (K : PySem.W.Frag) : R2 := fun x y H Q => match x, y with
  | .str a, .str z => (∃ c, tl a = [c] ∧ Q (.bl (!decide (c ∈ tl z))) H) ∨ Q (.bl (!(!(Builtin.Str.occurrences z a 0 z.length 1).isEmpty))) H
  | _, .ref _ => rIn K true x y H Q
  | _, _ => False
theorem one_sign {a : Str} {c : Nat} (h : tl a = [c]) : a = ⟨#[c]⟩ := ext_tl h
theorem op_inn : OpR X (compareOp .In) (rInn X.K) := by
  intro pins s σ H x y v u Q I rx ry h
  unfold rInn at h
  split at h
  · rcases h with ⟨c, e, q⟩ | q
    · rename_i a z
      have e2 := one_sign e
      subst e2
      exact op_in_sign pins s σ H _ _ v u Q I rx ry ⟨c, z, rfl, rfl, q⟩
    · exact op_in_str pins s σ H _ _ v u Q I rx ry ⟨_, _, rfl, rfl, q⟩
  · exact op_in_seq pins s σ H _ _ v u Q I rx ry h
  · exact False.elim h
theorem op_nin : OpR X (compareOp .NotIn) (rNin X.K) := by
  intro pins s σ H x y v u Q I rx ry h
  unfold rNin at h
  split at h
  · rcases h with ⟨c, e, q⟩ | q
    · rename_i a z
      have e2 := one_sign e
      subst e2
      exact op_notIn_sign pins s σ H _ _ v u Q I rx ry ⟨c, z, rfl, rfl, q⟩
    · exact op_notin_str pins s σ H _ _ v u Q I rx ry ⟨_, _, rfl, rfl, q⟩
  · exact op_notIn_seq pins s σ H _ _ v u Q I rx ry h
  · exact False.elim h

/-- o[i]: a text, a list, a tuple -/
def rItem (K : PySem.W.Frag) : R2 := fun x y H Q => match x, y with
  | .str z, .int i => (tl z).length ≤ 100000 ∧ ∃ c, atI (tl z) i = some c ∧ Q (tx [c]) H
  | .ref p, .int i => ∃ xs v, (SqL K H p xs ∨ SqT K H p xs) ∧ atI xs i = some v ∧ Q v H
  | _, _ => False
theorem ix_item : IxR X (rItem X.K) := by
  intro value slice pins s σ H x y v u Q I rx ry h hs
  refine ix_seq value slice pins s σ H x y v u Q I rx ry ?_ hs
  unfold rItem at h
  split at h
  · obtain ⟨h1, c, h2, h3⟩ := h
    exact .inr (.inr ⟨_, _, c, rfl, rfl, by rw [len_str]; exact sz_le h1, h2, h3⟩)
  · obtain ⟨xs, w, h1 | h1, h2, h3⟩ := h
    · exact .inl ⟨_, xs, _, w, rfl, rfl, h1, h2, h3⟩
    · exact .inr (.inl ⟨_, xs, _, w, rfl, rfl, h1, h2, h3⟩)
  · exact False.elim h

/-- o[i:j] -/
def cutL (l : List Nat) (lo hi : Option Int) : List Nat := (l.drop (HT.sIx l.length 0 lo)).take (HT.sIx l.length l.length hi - HT.sIx l.length 0 lo)
theorem cutS_eq (z : Str) (lo hi : Option Int) : cutS z lo hi = sx (cutL (tl z) lo hi) := by
  unfold cutS cutL
  rw [len_str]
def rCut (K : PySem.W.Frag) : V → Option Int → Option Int → Hp → VK → Prop := fun x lo hi H Q => match x with
  | .str z => (tl z).length ≤ 100000 ∧ Q (tx (cutL (tl z) lo hi)) H
  | .ref _ => rSlL K x lo hi H Q ∨ rSlT K x lo hi H Q
  | _ => False
theorem sl_cut : SlR X (rCut X.K) := by
  have h0 := SlR.or (X := X) sl_list sl_tup
  have h1 := SlR.or (X := X) sl_str h0
  intro pins s σ H x v vl vu lo hi sl Q I rx hsl pl pu h
  refine h1 pins s σ H x v vl vu lo hi sl Q I rx hsl pl pu ?_
  cases x with
  | str z =>
    refine .inl ⟨z, rfl, by rw [len_str]; exact sz_le h.1, ?_⟩
    rw [cutS_eq]; exact h.2
  | ref a => exact .inr h
  | _ => exact False.elim h

/-- len -/
def rLen (K : PySem.W.Frag) : List V → Hp → VK → Prop := fun xs H Q => match xs with
  | [.str z] => (tl z).length ≤ 100000 ∧ Q (.int ((tl z).length : Nat)) H
  | [.ref p] => ∃ ys, (SqL K H p ys ∨ SqT K H p ys) ∧ Q (.int (ys.length : Nat)) H
  | _ => False
theorem call_len1 : CallR X (.builtin "len") (rLen X.K) := by
  intro pins s σ H xs us Q I r h
  refine call_len pins s σ H xs us Q I r ?_
  unfold rLen at h
  split at h
  · rename_i z
    refine ⟨_, (tl z).length, rfl, ⟨by rw [len_str]; exact sz_le h.1, (len_str z).symm⟩, h.2⟩
  · obtain ⟨ys, h1 | h1, h2⟩ := h
    · exact ⟨_, _, rfl, .inl ⟨ys, h1, rfl⟩, h2⟩
    · exact ⟨_, _, rfl, .inr ⟨ys, h1, rfl⟩, h2⟩
  · exact False.elim h
/-- int of an int, a bool -/
def rInt1 : List V → Hp → VK → Prop := fun xs H Q => match xs with
  | [.int i] => Q (.int i) H
  | [.bl k] => Q (.int (if k then 1 else 0)) H
  | _ => False
theorem call_intM : CallR X (.type "int") rInt1 := by
  intro pins s σ H xs us Q I r h
  refine call_int1 pins s σ H xs us Q I r ?_
  unfold rInt1 at h
  split at h
  · exact .inl ⟨_, rfl, h⟩
  · exact .inr ⟨_, rfl, h⟩
  · exact False.elim h

/-! ## one def of the text called by another -/
structure Cal (P : Program) (w : World) (K : PySem.W.Frag) (mg : Str → Option Value) (base : Heap) (x : Str) (ps : List Str) (k : Nat) (sp : Sp) : Prop where
  ex : ∃ f fd, FnOk P w K mg base CX0 k f fd ps sp ∧ mg x = some (.ref f) ∧ PySem.W.keepIn K (.ref f) = true ∧ Binds K fd ps []
theorem Cal.call {x : Str} {ps : List Str} {k : Nat} {sp : Sp} {e : Expr} {es : List Expr} {t : TA} {p pos : Pos} (c : Cal X.prog X.w X.K X.mg X.base x ps k sp) (hr : Room k X.A) (hg : Gl X x) (ha : PA X (e :: es) t)
    (hdb : (x == ("__debug__" : Str)) = false := by decide) (he : starEach (e :: es) X.env = (false, eval e X.env) :: starEach es X.env := by rfl) (hpl : (backTo pos (starEach es X.env)).any (·.1) = false := by rfl) :
    PE X (.Call (.Name x p) (e :: es) [] pos) (tCall sp [] E0 t) := by
  obtain ⟨f, fd, F, hm, hk, hb⟩ := c.ex
  exact pe_call F hr hg hm hk hb .nil pass0 ha hdb he hpl
theorem Cal.mono {P : Program} {w : World} {K : PySem.W.Frag} {mg : Str → Option Value} {base : Heap} {x : Str} {ps : List Str} {j k : Nat} {sp : Sp} (c : Cal P w K mg base x ps j sp) (h : j ≤ k) : Cal P w K mg base x ps k sp := by
  obtain ⟨f, fd, F, r⟩ := c.ex
  exact ⟨f, fd, F.mono h, r⟩
end

/-! ## what stays as it was, all but what stands at p -/
def Kp (p : Addr) (H H' : Hp) : Prop := ∀ b o, b ≠ p → H b = some o → H' b = some o
theorem Kp.refl (p : Addr) (H : Hp) : Kp p H H := fun _ _ _ h => h
theorem Kp.trans {p : Addr} {H H1 H2 : Hp} (a : Kp p H H1) (b : Kp p H1 H2) : Kp p H H2 := fun c o n h => b c o n (a c o n h)
theorem Kp.of {p : Addr} {H H' : Hp} (s : Same H H') : Kp p H H' := fun b o _ h => s b o h
theorem Kp.new {p q : Addr} {H H' : Hp} {o : HO} (a : Kp p H H') (h : H' q = none) : Kp p H (upd H' q o) := fun b u n e => by
  rw [upd_ne (ne_of_none (a b u n e) h)]
  exact a b u n e
/-- a thing that was not there before may change -/
theorem Kp.mut {p q : Addr} {H H' : Hp} {o : HO} (a : Kp p H H') (h : H q = none) : Kp p H (upd H' q o) := fun b u n e => by
  rw [upd_ne (ne_of_none e h)]
  exact a b u n e
theorem Kp.free {p q : Addr} {H H' : Hp} (a : Kp p H H') (hp : ∃ o, H' p = some o) (h : H' q = none) : H q = none := by
  cases e : H q with
  | none => rfl
  | some o =>
    by_cases n : q = p
    · subst n
      obtain ⟨o', e'⟩ := hp
      rw [h] at e'
      cases e'
    · rw [a q o n e] at h
      cases h
theorem Same.new {H : Hp} {q : Addr} {o : HO} (h : H q = none) : Same H (upd H q o) := fun b u e => by
  rw [upd_ne (ne_of_none e h)]
  exact e
theorem Same.new' {H H' : Hp} {q : Addr} {o : HO} (a : Same H H') (h : H' q = none) : Same H (upd H' q o) := a.trans (Same.new h)
theorem Same.mut {H H' : Hp} {q : Addr} {o : HO} (a : Same H H') (h : H q = none) : Same H (upd H' q o) := fun b u e => by
  rw [upd_ne (ne_of_none e h)]
  exact a b u e

/-! ## more rules -/
section
variable {X : Cx}
/-- a written text by its signs -/
theorem pe_txt {x : Str} {l : List Nat} {j : Nat} {pos : Pos} (h : x = sx l) : PE X (.Constant (.str x) j pos) (tC (tx l)) := by
  subst h
  exact pe_str
/-- a walked thing: a text, a list, a tuple -/
def iAny (K : PySem.W.Frag) (te : TE) : TI := fun σ H R => te σ H fun x H1 => match x with
  | .str z => R (Its z) H1
  | .ref a => (∃ xs, SqL K H1 a xs ∧ R (Itl K a) H1) ∨ (∃ xs, SqT K H1 a xs ∧ R (Itt K a) H1)
  | _ => False
theorem pi_any {tg e : Expr} {te : TE} (he : PE X e te) : PI X tg e (iAny X.K te) := by
  refine ⟨fun pins s σ H R I h => ?_⟩
  refine thn (he.run pins s σ H _ I h) fun v s1 ⟨x, H1, I1, r1, q1⟩ => ?_
  cases x with
  | str z =>
    obtain ⟨t, rfl⟩ := r1
    cases ha : z.cps.all (· < 128)
    · exact wpAny_pyIter_wide ha (pi_one (tk := s1.toks) I1 _ (turn_str _ z t "str_iterator" (.inr rfl)) ⟨_, Heap.get?_push_size _ rfl, rfl, rfl⟩ q1)
    · exact wpAny_pyIter_ascii ha (pi_one (tk := s1.toks) I1 _ (turn_str _ z t "str_ascii_iterator" (.inl rfl)) ⟨_, Heap.get?_push_size _ rfl, rfl, rfl⟩ q1)
  | ref a =>
    cases r1
    rcases q1 with ⟨xs, hq, q⟩ | ⟨xs, hq, q⟩
    · obtain ⟨its, rv, p, hz⟩ := I1.list hq
      exact wpAny_pyIter_list p.isList (pi_one (tk := s1.toks) I1 _ (turn_list a _) ⟨_, Heap.get?_push_size _ rfl, rfl, rfl⟩ q)
    · obtain ⟨its, rv, p, hz⟩ := I1.tuple hq
      exact wpAny_pyIter_tuple (show s1.heap.IsTuple a its.toArray from p) (pi_one (tk := s1.toks) I1 _ (turn_tuple a _) ⟨_, Heap.get?_push_size _ rfl, rfl, rfl⟩ q)
  | _ => exact False.elim q1
/-- operators on ints, told by cases -/
def rMinus : R2 := fun x y H Q => match x, y with
  | .int i, .int j => Q (.int (i - j)) H
  | _, _ => False
theorem op_minus : OpR X (binaryOp .Sub) rMinus := by
  intro pins s σ H x y v u Q I rx ry h
  unfold rMinus at h
  split at h
  · exact op_sub pins s σ H _ _ v u Q I rx ry ⟨_, _, rfl, rfl, h⟩
  · exact False.elim h
def rRest : R2 := fun x y H Q => match x, y with
  | .int i, .int j => 0 < j ∧ Q (.int (i % j)) H
  | _, _ => False
theorem op_rest : OpR X (binaryOp .Mod) rRest := by
  intro pins s σ H x y v u Q I rx ry h
  unfold rRest at h
  split at h
  · exact op_mod pins s σ H _ _ v u Q I rx ry ⟨_, _, rfl, rfl, h⟩
  · exact False.elim h
def rOver : R2 := fun x y H Q => match x, y with
  | .int i, .int j => CDivW i j ∧ Q (.int (i / j)) H
  | _, _ => False
theorem op_over : OpR X (binaryOp .FloorDiv) rOver := by
  intro pins s σ H x y v u Q I rx ry h
  unfold rOver at h
  split at h
  · exact op_fdivW pins s σ H _ _ v u Q I rx ry ⟨_, _, rfl, rfl, h⟩
  · exact False.elim h
def rPower : R2 := fun x y H Q => match x, y with
  | .int i, .int j => CPow i j ∧ Q (.int (i ^ j.toNat)) H
  | _, _ => False
theorem op_power : OpR X (binaryOp .Pow) rPower := by
  intro pins s σ H x y v u Q I rx ry h
  unfold rPower at h
  split at h
  · exact op_pow pins s σ H _ _ v u Q I rx ry ⟨_, _, rfl, rfl, h⟩
  · exact False.elim h
def rLess : R2 := fun x y H Q => match x, y with
  | .int i, .int j => Q (.bl (decide (i < j))) H
  | _, _ => False
theorem op_less : OpR X (compareOp .Lt) rLess := by
  intro pins s σ H x y v u Q I rx ry h
  unfold rLess at h
  split at h
  · exact op_lt pins s σ H _ _ v u Q I rx ry ⟨_, _, rfl, rfl, h⟩
  · exact False.elim h
def rLeq : R2 := fun x y H Q => match x, y with
  | .int i, .int j => Q (.bl (decide (i ≤ j))) H
  | _, _ => False
theorem op_leq : OpR X (compareOp .LtE) rLeq := by
  intro pins s σ H x y v u Q I rx ry h
  unfold rLeq at h
  split at h
  · exact op_le pins s σ H _ _ v u Q I rx ry ⟨_, _, rfl, rfl, h⟩
  · exact False.elim h
def rMore : R2 := fun x y H Q => match x, y with
  | .int i, .int j => Q (.bl (decide (j < i))) H
  | _, _ => False
theorem op_more : OpR X (compareOp .Gt) rMore := by
  intro pins s σ H x y v u Q I rx ry h
  unfold rMore at h
  split at h
  · exact op_gt pins s σ H _ _ v u Q I rx ry ⟨_, _, rfl, rfl, h⟩
  · exact False.elim h
def rMeq : R2 := fun x y H Q => match x, y with
  | .int i, .int j => Q (.bl (decide (j ≤ i))) H
  | _, _ => False
theorem op_meq : OpR X (compareOp .GtE) rMeq := by
  intro pins s σ H x y v u Q I rx ry h
  unfold rMeq at h
  split at h
  · exact op_ge pins s σ H _ _ v u Q I rx ry ⟨_, _, rfl, rfl, h⟩
  · exact False.elim h
def rNeg : V → Hp → VK → Prop := fun x H Q => match x with
  | .int i => Q (.int (-i)) H
  | _ => False
theorem un_minus : UnR X (unaryOp .USub) rNeg := by
  intro pins s σ H x v Q I rx h
  unfold rNeg at h
  split at h
  · exact un_neg pins s σ H _ v Q I rx ⟨_, rfl, h⟩
  · exact False.elim h
def rAbs : List V → Hp → VK → Prop := fun xs H Q => match xs with
  | [.int i] => Q (.int (if i < 0 then -i else i)) H
  | _ => False
theorem call_abs1 : CallR X (.builtin "abs") rAbs := by
  intro pins s σ H xs us Q I r h
  unfold rAbs at h
  split at h
  · exact call_abs pins s σ H _ us Q I r ⟨_, rfl, h⟩
  · exact False.elim h
def rMin2 : List V → Hp → VK → Prop := fun xs H Q => match xs with
  | [.int i, .int j] => Q (.int (min i j)) H
  | _ => False
theorem call_min1 (hc : X.calm = true) : CallR X (.builtin "min") rMin2 := by
  intro pins s σ H xs us Q I r h
  unfold rMin2 at h
  split at h
  · rename_i i j
    refine call_min2 hc pins s σ H _ us Q I r ⟨_, _, rfl, ?_⟩
    rw [show (if j < i then j else i) = min i j by split <;> omega]
    exact h
  · exact False.elim h
/-- the truth of a value -/
def tTruth (K : PySem.W.Frag) (te : TE) : TT := fun σ H Q => te σ H fun x H' => match x with
  | .bl b => Q b H'
  | .int i => Q (i != 0) H'
  | _ => ∃ k, TruV K x H' k ∧ Q k H'
theorem pt_tru {e : Expr} {te : TE} (ha : PE X e te) (he : ∀ whole, isTrue e X.env whole = (do let v ← whole; standAt e.pos; holding [v] (truthy v))) : PT X e (tTruth X.K te) := by
  refine ⟨fun pins s σ H Q I h => ?_⟩
  refine isTrue_plain (thn (ha.run pins s σ H _ I h) fun v s1 ⟨x, H1, I1, r1, q1⟩ => tru_ok pins s1 σ H1 x v Q I1 r1 ?_) (he _)
  cases x with
  | bl b => exact ⟨b, rfl, q1⟩
  | int i => exact ⟨_, rfl, q1⟩
  | _ => exact q1
end
/-! ## the defs of the text -/
def Df (K : PySem.W.Frag) (mg : Str → Option Value) (x : Str) (st : Stmt) (ps : List Str) : Prop :=
  ∃ f fd, Fun K x x st f fd ∧ mg x = some (.ref f) ∧ ∀ us : List Value, us.length = ps.length → bindArgs fd ⟨us, []⟩ = pure (ps.zip us)
theorem df_mk {K : PySem.W.Frag} {h : Heap} {mg : Str → Option Value} {x : Str} {st : Stmt} {ps : List Str} {f : Addr} {oc : Value} {od an : Option Addr} {osl : Array (Option Value)} {kV doc pm cdv ct : Value}
    (X : K.In h) (G : h.Ns mainGlobals mg) (a : PySem.W.nsIn K mainGlobals x = some (some (.ref f)))
    (l : K.lookup f = some ⟨oc, od, .func (PySem.W.fnOf x x (defArgs st) (defBody st) (defScope st) .none kV doc pm an cdv ct), osl⟩) (c : PySem.W.codeIn K cdv x = true) (k : PySem.W.keepIn K (.ref f) = true)
    (hb : ∀ (kV doc pm : Value) (an : Option Addr) (cdv ct : Value) (us : List Value), us.length = ps.length → bindArgs (PySem.W.fnOf x x (defArgs st) (defBody st) (defScope st) .none kV doc pm an cdv ct) ⟨us, []⟩ = pure (ps.zip us)) :
    Df K mg x st ps := ⟨f, _, fun_mk (st := st) l c k, PySem.W.mg_of X G a, hb kV doc pm an cdv ct⟩
theorem Df.cal {P : Program} {w : World} {K : PySem.W.Frag} {mg : Str → Option Value} {base : Heap} {x : Str} {st : Stmt} {ps N : List Str} {k : Nat} {sp : Sp} (D : Df K mg x st ps) (S : FnScope N ps (defScope st))
    (len : ∀ vs H Q E, sp vs H Q E → vs.length = ps.length)
    (hbody : ∀ (f : Addr) (cdv : Value) (A : Around) (outer : List Env) (s : Shared) (H : Hp) (vs : List V) (Q : VK) (E : XK), Room k (A.deeper (envOfC x (defScope st) s.heap.objs.size f cdv)) → sp vs H Q E →
      ∃ t, PSs (cxOf CX0 P w K mg base N x (defScope st) f cdv A outer s H E).nox (defBody st) t ∧ t { nx := fun _ H' => Q .non H', rt := Q } (start N vs) H) : Cal P w K mg base x ps (k + 1) sp := by
  obtain ⟨f, fd, F, hm, hb⟩ := D
  exact ⟨f, fd, F.ok S len (hbody f), hm, F.kp, .all hb⟩
/-! ## more of built-ins -/
section
variable {X : Cx}
def rList1 (K : PySem.W.Frag) : List V → Hp → VK → Prop := fun xs H Q => match xs with
  | [.ref p] => ∃ ys, (SqL K H p ys ∨ SqT K H p ys) ∧ ∀ l, H l = none → Q (.ref l) (upd H l (.lst ys))
  | _ => False
theorem call_list1 : CallR X (.type "list") (rList1 X.K) := by
  intro pins s σ H xs us Q I r h
  unfold rList1 at h
  split at h
  · obtain ⟨ys, h1, h2⟩ := h
    exact call_list_of pins s σ H _ us Q I r ⟨_, ys, rfl, h1, h2⟩
  · exact False.elim h
/-- sep.join(texts) -/
def joinL (a : List Nat) : List (List Nat) → List Nat
  | [] => []
  | [x] => x
  | x :: y :: r => x ++ (a ++ joinL a (y :: r))
def rJoin (K : PySem.W.Frag) : V → List V → Hp → VK → Prop := fun x xs H Q => match x, xs with
  | .str a, [.ref p] => ∃ ys : List (List Nat), (SqL K H p (ys.map tx) ∨ SqT K H p (ys.map tx)) ∧ (ys.map List.length).sum + ys.length * (tl a).length ≤ 100000 ∧ Q (tx (joinL (tl a) ys)) H
  | _, _ => False
theorem foldl_join (a : Array Nat) : ∀ (r : List Str) (acc : Array Nat), (r.foldl (fun acc p => acc ++ a ++ p.cps) acc).toList = acc.toList ++ (r.map fun p => a.toList ++ p.cps.toList).flatten
  | [], acc => by simp
  | x :: r, acc => by
    rw [List.foldl_cons, foldl_join a r]
    simp
theorem joinL_cons (a x : List Nat) : ∀ r : List (List Nat), joinL a (x :: r) = x ++ (r.map fun p => a ++ p).flatten
  | [] => by simp [joinL]
  | y :: r => by
    rw [joinL, joinL_cons a y r]
    simp
theorem join_eq (a : Str) (ys : List (List Nat)) : Txt.join a (ys.map sx) = sx (joinL (tl a) ys) := by
  refine ext_tl ?_
  cases ys with
  | nil => rfl
  | cons x r =>
    rw [joinL_cons]
    show ((((x :: r).map sx).drop 1).foldl (fun acc p => acc ++ a.cps ++ p.cps) (((x :: r).map sx).headD Str.empty).cps).toList = _
    rw [foldl_join]
    simp [List.map_map, Function.comp_def]
theorem mt_joinT : MtR X "str.join" (rJoin X.K) := by
  intro pins s σ H x xs v us Q I rx rs h
  unfold rJoin at h
  split at h
  · rename_i a p
    obtain ⟨ys, h1, h2, h3⟩ := h
    refine mt_join pins s σ H _ _ v us Q I rx rs ⟨a, p, ys.map sx, rfl, rfl, ?_, ?_, ?_⟩
    · rw [List.map_map]; exact h1
    · rw [List.map_map, List.length_map, len_str a]
      have e : (fun x : Str => x.length) ∘ sx = List.length := by
        funext l; exact len_sx l
      rw [show ((fun (x : Str) => x.length) ∘ sx) = List.length from e]
      exact Nat.le_trans h2 (by decide)
    · rw [join_eq]; exact h3
  · exact False.elim h
theorem pe_joinT {o e : Expr} {to te : TE} {apos pos : Pos} (ho : PE X o to) (he : PE X e te) (hs : starEach [e] X.env = [(false, eval e X.env)] := by rfl) (hbase : attributeBase o "join" X.env (eval o X.env) = eval o X.env := by rfl) (hline : (apos.endLine == pos.line) = true := by rfl) :
    PE X (.Call (.Attribute o "join" apos) [e] [] pos) (tM1 (rJoin X.K) to te) := pe_m1 PySem.F.slot_str_join PySem.F.type_str_join mt_joinT ho he hs hbase hline
end
/-! ## tests whose answer is open -/
theorem iteB {b : Bool} {A B : Prop} (h1 : b = true → A) (h2 : b = false → B) : if b = true then A else B := by
  cases b with
  | true => rw [if_pos rfl]; exact h1 rfl
  | false => rw [if_neg Bool.false_ne_true]; exact h2 rfl
theorem iteD {c : Prop} [Decidable c] {A B : Prop} (h1 : c → A) (h2 : ¬ c → B) : if decide c = true then A else B := by
  by_cases h : c
  · rw [if_pos (decide_eq_true h)]; exact h1 h
  · rw [if_neg (fun q => h (of_decide_eq_true q))]; exact h2 h
theorem iteN {c : Prop} [Decidable c] {A B : Prop} (h1 : ¬ c → A) (h2 : c → B) : if (!decide c) = true then A else B := by
  by_cases h : c
  · rw [decide_eq_true h]; exact h2 h
  · rw [decide_eq_false h]; exact h1 h
/-! ## equal data -/
/-- no truth values and no dicts within: data are equal where they are the same -/
def noB : PyData → Bool
  | .none => true
  | .bool _ => false
  | .int _ => true
  | .str _ => true
  | .list xs => all xs
  | .tuple xs => all xs
  | .dict _ => false
where all : List PyData → Bool
  | [] => true
  | x :: xs => noB x && all xs
theorem eqv_noB : ∀ (d e : PyData), noB d = true → noB e = true → (PyData.eqv d e = true ↔ d = e)
  | .none, e, _, h => by cases e <;> simp_all [noB, PyData.eqv]
  | .bool _, e, h, _ => by simp [noB] at h
  | .int i, e, _, h => by cases e <;> simp_all [noB, PyData.eqv]
  | .str i, e, _, h => by cases e <;> simp_all [noB, PyData.eqv]
  | .list xs, e, h1, h => by
    cases e with
    | list ys =>
      have := all xs ys h1 h
      rw [PyData.eqv, this]
      exact ⟨fun q => by rw [q], fun q => by injection q⟩
    | _ => simp_all [noB, PyData.eqv]
  | .tuple xs, e, h1, h => by
    cases e with
    | tuple ys =>
      have := all xs ys h1 h
      rw [PyData.eqv, this]
      exact ⟨fun q => by rw [q], fun q => by injection q⟩
    | _ => simp_all [noB, PyData.eqv]
  | .dict _, e, h, _ => by simp [noB] at h
where all : ∀ (ds es : List PyData), noB.all ds = true → noB.all es = true → (PyData.eqvAll ds es = true ↔ ds = es)
  | [], [], _, _ => by simp [PyData.eqvAll]
  | [], _ :: _, _, _ => by simp [PyData.eqvAll]
  | _ :: _, [], _, _ => by simp [PyData.eqvAll]
  | d :: ds, e :: es, h1, h2 => by
    rw [noB.all, Bool.and_eq_true] at h1 h2
    rw [PyData.eqvAll, Bool.and_eq_true, eqv_noB d e h1.1 h2.1, all ds es h1.2 h2.2]
    simp
theorem eqv_self (d : PyData) (h : noB d = true) : PyData.eqv d d = true := (eqv_noB d d h h).mpr rfl
theorem depth_flat : ∀ ds : List PyData, (∀ d ∈ ds, d.depth = 0) → PyData.depthAll ds = 0
  | [], _ => by rw [PyData.depthAll]
  | d :: ds, h => by
    rw [PyData.depthAll, h d List.mem_cons_self, depth_flat ds fun e he => h e (List.mem_cons_of_mem _ he)]; rfl
theorem noB_ints : ∀ ns : List Int, noB.all (ns.map PyData.int) = true
  | [] => rfl
  | n :: r => by
    show (noB (.int n) && noB.all (r.map PyData.int)) = true
    rw [noB_ints r]; rfl
theorem depth_ints (ns : List Int) : PyData.depthAll (ns.map PyData.int) = 0 := depth_flat _ fun d hd => by
  obtain ⟨n, _, rfl⟩ := List.mem_map.mp hd
  simp [PyData.depth]
theorem dp_ints {K : PySem.W.Frag} {H : Hp} : ∀ ns : List Int, DpAll K H (ns.map V.int) (ns.map PyData.int)
  | [] => .nil
  | n :: r => .cons (.int n) (dp_ints r)
/-! ## a comprehension: what is made so far, and a word that does not look at the new list -/
theorem lcW {J : It} {n : Nat} {G : Hp → Prop} {Y : Nat → Hp → V → Hp → Prop} (w : Walk J n G Y) {g : TG} {tt : TT} {te : TE} {vs : List Nat} {σ : L2.St} {H1 : Hp} {D : Addr} {Qd : Hp → Prop}
    (I : Nat → List V → Hp → Prop) (stab : ∀ i acc H o, I i acc H → I i acc (upd H D o)) (hG : ∀ i acc H, i ≤ n → I i acc H → G H) (h0 : I 0 [] H1) (len : ∀ i acc H, I i acc H → acc.length ≤ 90000)
    (hs : ∀ i x acc H H', i < n → I i acc H → H D = some (.lst acc) → Y i H x H' → ∀ (K1 : V → Hp → Prop) (K2 : Hp → Prop), (∀ y H4, H4 D = some (.lst acc) → I (i + 1) (acc ++ [y]) H4 → K1 y H4) → (∀ H3, H3 D = some (.lst acc) → I (i + 1) acc H3 → K2 H3) →
      g x (wipe σ vs) H' fun σ2 H2 => wipe σ2 vs = wipe σ vs ∧ tt σ2 H2 fun b H3 => if b = true then te σ2 H3 K1 else K2 H3)
    (hd : ∀ acc H, H D = some (.lst acc) → I n acc H → Qd H) :
    ∃ W : Nat → Nat → Hp → Prop, (∃ m, W 0 m (upd H1 D (.lst []))) ∧ ∀ i m H, W i m H →
      (J.stop i H ∧ Qd H) ∨ (J.go i H ∧ ∃ Nx : Hp → Prop, (∀ H', Nx H' → ∃ m', m' < m ∧ W (i + 1) m' H') ∧ ∀ x H', J.yld i H x H' → g x (wipe σ vs) H' fun σ2 H2 => wipe σ2 vs = wipe σ vs ∧ tt σ2 H2 fun b H3 =>
        if b = true then te σ2 H3 fun y H4 => ∃ acc, H4 D = some (.lst acc) ∧ acc.length < sizeLine ∧ Nx (upd H4 D (.lst (acc ++ [y]))) else Nx H3) :=
  lc_it w (fun i H => ∃ acc, H D = some (.lst acc) ∧ I i acc H) ⟨[], upd_same, stab _ _ _ _ h0⟩ (fun i H hi ⟨acc, _, h⟩ => hG i acc H hi h)
    (fun i x H H' hi ⟨acc, e, h⟩ y => hs i x acc H H' hi h e y _ _
      (fun y H4 e4 h4 => ⟨acc, e4, sz_lt (by have := len _ _ _ h; omega), acc ++ [y], upd_same, stab _ _ _ _ h4⟩) fun H3 e3 h3 => ⟨acc, e3, h3⟩)
    fun H ⟨acc, e, h⟩ => hd acc H e h
/-! ## what is read stays -/
theorem sqL_kp {K : PySem.W.Frag} {p a : Addr} {H H' : Hp} {xs : List V} (k : Kp p H H') (hp : ∀ o, H p = some o → (∀ ys, o ≠ .lst ys) ∧ ∀ u ys, o ≠ .frz u (.lst ys)) (h : SqL K H a xs) : SqL K H' a xs := by
  rcases h with (h | ⟨o, h⟩) | h
  · exact .inl (.inl (k a _ (fun e => by rw [e] at h; exact (hp _ h).1 _ rfl) h))
  · exact .inl (.inr ⟨o, k a _ (fun e => by rw [e] at h; exact (hp _ h).2 _ _ rfl) h⟩)
  · exact .inr h
theorem sqT_kp {K : PySem.W.Frag} {p a : Addr} {H H' : Hp} {xs : List V} (k : Kp p H H') (hp : ∀ o, H p = some o → (∀ ys, o ≠ .tup ys) ∧ ∀ u ys, o ≠ .frz u (.tup ys)) (h : SqT K H a xs) : SqT K H' a xs := by
  rcases h with (h | ⟨o, h⟩) | h
  · exact .inl (.inl (k a _ (fun e => by rw [e] at h; exact (hp _ h).1 _ rfl) h))
  · exact .inl (.inr ⟨o, k a _ (fun e => by rw [e] at h; exact (hp _ h).2 _ _ rfl) h⟩)
  · exact .inr h
theorem sqT_same {K : PySem.W.Frag} {a : Addr} {H H' : Hp} {xs : List V} (k : Same H H') (h : SqT K H a xs) : SqT K H' a xs := by
  rcases h with (h | ⟨o, h⟩) | h
  · exact .inl (.inl (k _ _ h))
  · exact .inl (.inr ⟨o, k _ _ h⟩)
  · exact .inr h
theorem cutL_take (l : List Nat) (n : Nat) : cutL l none (some (n : Int)) = l.take n := by
  unfold cutL
  rw [HT.sIx_none, HT.sIx_nat]
  simp only [List.drop_zero, Nat.sub_zero]
  by_cases h : n ≤ l.length
  · rw [Nat.min_eq_left h]
  · rw [Nat.min_eq_right (by omega), List.take_of_length_le (Nat.le_refl _), List.take_of_length_le (by omega)]
theorem cutL_drop (l : List Nat) (n : Nat) : cutL l (some (n : Int)) none = l.drop n := by
  unfold cutL
  rw [HT.sIx_none, HT.sIx_nat]
  by_cases h : n ≤ l.length
  · rw [Nat.min_eq_left h, List.take_of_length_le (by simp)]
  · rw [Nat.min_eq_right (by omega), List.drop_of_length_le (Nat.le_refl _), List.drop_of_length_le (by omega)]; simp
theorem cutL_mid (l : List Nat) (m n : Nat) : cutL l (some (m : Int)) (some (n : Int)) = (l.drop m).take (n - m) := by
  unfold cutL
  rw [HT.sIx_nat, HT.sIx_nat]
  by_cases h : m ≤ l.length
  · rw [Nat.min_eq_left h]
    by_cases h2 : n ≤ l.length
    · rw [Nat.min_eq_left h2]
    · have e1 : min n l.length = l.length := by omega
      rw [e1, List.take_of_length_le (by simp), List.take_of_length_le (by simp; omega)]
  · have e1 : min m l.length = l.length := by omega
    rw [e1, List.drop_of_length_le (Nat.le_refl _), List.drop_of_length_le (by omega)]; simp
theorem cutV_take (l : List V) (n : Nat) : cutV l none (some (n : Int)) = l.take n := by
  unfold cutV
  rw [HT.sIx_none, HT.sIx_nat]
  simp only [List.drop_zero, Nat.sub_zero]
  by_cases h : n ≤ l.length
  · rw [Nat.min_eq_left h]
  · rw [Nat.min_eq_right (by omega), List.take_of_length_le (Nat.le_refl _), List.take_of_length_le (by omega)]
theorem cutV_drop (l : List V) (n : Nat) : cutV l (some (n : Int)) none = l.drop n := by
  unfold cutV
  rw [HT.sIx_none, HT.sIx_nat]
  by_cases h : n ≤ l.length
  · rw [Nat.min_eq_left h, List.take_of_length_le (by simp)]
  · rw [Nat.min_eq_right (by omega), List.drop_of_length_le (Nat.le_refl _), List.drop_of_length_le (by omega)]; simp
/-- texts of one sign, joined -/
theorem wjoin1 (l : List Nat) : joinL [] (l.map fun c => [c]) = l := by
  cases l with
  | nil => rfl
  | cons a r =>
    rw [List.map_cons, joinL_cons]
    have : ∀ r : List Nat, ((r.map fun c => [c]).map fun p => [] ++ p).flatten = r := fun r => by
      induction r with
      | nil => rfl
      | cons b r ih => simp at ih ⊢; exact ih
    rw [this]; rfl
theorem sum_one {α : Type} : ∀ l : List α, (l.map fun _ => 1).sum = l.length
  | [] => rfl
  | a :: r => by
    rw [List.map_cons, List.sum_cons, sum_one r, List.length_cons]
    omega
theorem len_ones (l : List Nat) : (((l.map fun s => [s])).map List.length).sum + ((l.map fun s => [s]) : List (List Nat)).length * (tl (sx [])).length = l.length := by
  have e : ((l.map fun s => [s])).map List.length = l.map fun _ => 1 := by simp [List.map_map, Function.comp_def]
  rw [e, sum_one]
  rfl
theorem rep_length (l : List Nat) (n : Int) : (repS l n).length = n.toNat * l.length := by
  unfold repS
  simp
/-- the law's own def: its binding, then what it keeps over any base -/
theorem Df.law {P : Program} {w : World} {K : PySem.W.Frag} {mg : Str → Option Value} {x : Str} {st : Stmt} {ps N : List Str} {k : Nat} {sp : Sp} {fa : Addr} (D : Df K mg x st ps) (hfa : mg x = some (.ref fa)) (S : FnScope N ps (defScope st))
    (len : ∀ vs H Q E, sp vs H Q E → vs.length = ps.length)
    (hbody : ∀ (base : Heap) (f : Addr) (cdv : Value) (A : Around) (outer : List Env) (s : Shared) (H : Hp) (vs : List V) (Q : VK) (E : XK), Room k (A.deeper (envOfC x (defScope st) s.heap.objs.size f cdv)) → sp vs H Q E →
      ∃ t, PSs (cxOf CX0 P w K mg base N x (defScope st) f cdv A outer s H E).nox (defBody st) t ∧ t { nx := fun _ H' => Q .non H', rt := Q } (start N vs) H) :
    ∃ fd : FuncData, (∀ (s : Shared) (us : List Value), us.length = ps.length → BindsTo s fd ⟨us, []⟩ (ps.zip us)) ∧ ∀ base : Heap, FnOk P w K mg base CX0 (k + 1) fa fd ps sp := by
  obtain ⟨f, fd, F, hm, hb⟩ := D
  rw [hfa] at hm
  cases hm
  exact ⟨fd, fun s us hl => .of_eq (hb us hl), fun base => F.ok S len (hbody base fa)⟩
end Wk

namespace Wk
open PySem PySem.Spec PyProof.Rows L2
open TL (tl len_tl ext_tl tl_append mk_tl)

/-! ## what an iterator over a text, a list, a tuple draws -/
structure Drw (P : Program) (w : World) (K : PySem.W.Frag) (it : Addr) (n : Nat) (ys : Nat → Option V) (G : Hp → Prop) (S : Nat → Heap → Prop) : Prop where
  obj : ∀ i h, S i h → ∃ o, h.get? it = some o ∧ ∀ v, o.data ≠ .cell v
  keep : ∀ i h h', S i h → (∀ o, h.get? it = some o → h'.get? it = some o) → S i h'
  drw : ∀ (X : Cx), X.prog = P → X.w = w → X.K = K → ∀ (pins : List (Addr × Obj)) (σ : L2.St) (H : Hp) (s : Shared), Inv X pins σ H s → G H → (∃ i, S i s.heap) → FpOk X pins H it →
    ∃ (fp : List Addr) (PV : Nat → Value → Prop) (St : Nat → Heap → Prop), (∀ A : Around, A.handled = none → Draws P w A it fp n PV St) ∧ it ∈ fp ∧ (∀ b ∈ fp, b = it ∨ ¬ FpOk X pins H b) ∧
      (∀ i, S i s.heap → St i s.heap) ∧ (∀ i h', St i h' → S i h') ∧ ∀ i v, PV i v → ∃ y, ys i = some y ∧ RelV y v
theorem not_fp {X : Cx} {pins : List (Addr × Obj)} {σ : L2.St} {H : Hp} {s : Shared} (I : Inv X pins σ H s) {a : Addr} (h : (∃ u, Rd H a u) ∨ ∃ o, X.K.lookup a = some o) : ¬ FpOk X pins H a := by
  rintro ⟨f0, _, _, f3, _⟩
  rcases h with ⟨u, h | ⟨o, h⟩⟩ | ⟨o, h⟩
  · rw [f0] at h; cases h
  · rw [f0] at h; cases h
  · have hb : X.base.get? a = some o := I.ok.mod.kin a o h
    rcases f3 with f3 | f3
    · exact I.ok.noex a o hb f3
    · exact absurd (Nat.lt_of_lt_of_le (Heap.lt_size (I.ok.bs a o hb).1) f3) (Nat.lt_irrefl _)
theorem drw_text {P : Program} {w : World} {K : PySem.W.Frag} (it : Addr) (z : Str) (t : Tok) : Drw P w K it (tl z).length (fun i => (tl z)[i]?.map fun c => tx [c]) (fun _ => True) (fun i h => h.IsStrIter it (strIterType z) z t i) where
  obj := fun i h ⟨o, e, c, d⟩ => ⟨o, e, fun v q => by rw [d] at q; cases q⟩
  keep := fun i h h' ⟨o, e, r⟩ k => ⟨o, k o e, r⟩
  drw := fun X hP hw hK pins σ H s I hG hS hF => by
    subst hP hw hK
    refine ⟨[it], fun i v => ∃ c u, z.cps[i]? = some c ∧ v = .str ⟨#[c]⟩ u, fun i h => h.IsStrIter it (strIterType z) z t i, fun A hA => ?_, by simp, fun b hb => .inl (by simpa using hb), fun i h => h, fun i h' h => h, fun i v hv => ?_⟩
    · have := Draws.text (prog := X.prog) (w := X.w) hA it z t
      rw [show z.cps.size = (tl z).length by simp] at this
      exact this
    · obtain ⟨c, u, hc, rfl⟩ := hv
      refine ⟨tx [c], ?_, ⟨u, rfl⟩⟩
      rw [show (tl z)[i]? = some c by rw [← hc]; simp]
      rfl
theorem drw_list {P : Program} {w : World} {K : PySem.W.Frag} (it a : Addr) (xs : List V) : Drw P w K it xs.length (fun i => xs[i]?) (fun H => SqL K H a xs) (fun i h => h.IsListIter it a i) where
  obj := fun i h ⟨o, e, c, d⟩ => ⟨o, e, fun v q => by rw [d] at q; cases q⟩
  keep := fun i h h' st k => st.at k
  drw := fun X hP hw hK pins σ H s I hG hS hF => by
    subst hP hw hK
    obtain ⟨its, rv, p, _⟩ := I.list hG
    have na : ¬ FpOk X pins H a := not_fp I (by
      rcases hG with h | ⟨o, _, _, h, _⟩
      · exact .inl ⟨_, h⟩
      · exact .inr ⟨o, h⟩)
    have hne : a ≠ it := fun e => na (by rw [e]; exact hF)
    have hl := rv.length
    refine ⟨[it, a], fun i v => its.toArray[i]? = some v, fun i h => h.IsListIter it a i ∧ h.IsList a its.toArray, fun A hA => ?_, by simp, fun b hb => ?_, fun i h => ⟨h, p.isList⟩, fun i h' h => h.1, fun i v hv => ?_⟩
    · have := Draws.list (prog := X.prog) (w := X.w) hA it a hne its.toArray
      rw [show its.toArray.size = xs.length by simp [hl]] at this
      exact this
    · have e : b = it ∨ b = a := by simpa using hb
      rcases e with e | e
      · exact .inl e
      · exact .inr (by rw [e]; exact na)
    · have hlt : i < xs.length := by
        have := (Array.getElem?_eq_some_iff.mp hv).1
        simp at this
        omega
      obtain ⟨u, hu, ru⟩ := rv.get (List.getElem?_eq_getElem hlt)
      have : u = v := by
        have q : its.toArray[i]? = some u := by simpa using hu
        have hv : its.toArray[i]? = some v := hv
        rw [q] at hv
        exact Option.some.inj hv
      subst this
      exact ⟨_, List.getElem?_eq_getElem hlt, ru⟩
theorem drw_tup {P : Program} {w : World} {K : PySem.W.Frag} (it a : Addr) (xs : List V) : Drw P w K it xs.length (fun i => xs[i]?) (fun H => SqT K H a xs) (fun i h => h.IsTupleIter it a i) where
  obj := fun i h ⟨o, e, c, d⟩ => ⟨o, e, fun v q => by rw [d] at q; cases q⟩
  keep := fun i h h' st k => st.at k
  drw := fun X hP hw hK pins σ H s I hG hS hF => by
    subst hP hw hK
    obtain ⟨its, rv, p, _⟩ := I.tuple hG
    have na : ¬ FpOk X pins H a := not_fp I (by
      rcases hG with h | ⟨o, _, _, h, _⟩
      · exact .inl ⟨_, h⟩
      · exact .inr ⟨o, h⟩)
    have hne : a ≠ it := fun e => na (by rw [e]; exact hF)
    have hl := rv.length
    refine ⟨[it, a], fun i v => its.toArray[i]? = some v, fun i h => h.IsTupleIter it a i ∧ h.IsTuple a its.toArray, fun A hA => ?_, by simp, fun b hb => ?_, fun i h => ⟨h, p⟩, fun i h' h => h.1, fun i v hv => ?_⟩
    · have := Draws.tuple (prog := X.prog) (w := X.w) hA it a hne its.toArray
      rw [show its.toArray.size = xs.length by simp [hl]] at this
      exact this
    · have e : b = it ∨ b = a := by simpa using hb
      rcases e with e | e
      · exact .inl e
      · exact .inr (by rw [e]; exact na)
    · have hlt : i < xs.length := by
        have := (Array.getElem?_eq_some_iff.mp hv).1
        simp at this
        omega
      obtain ⟨u, hu, ru⟩ := rv.get (List.getElem?_eq_getElem hlt)
      have : u = v := by
        have q : its.toArray[i]? = some u := by simpa using hu
        have hv : its.toArray[i]? = some v := hv
        rw [q] at hv
        exact Option.some.inj hv
      subst this
      exact ⟨_, List.getElem?_eq_getElem hlt, ru⟩
/-- pairs of two sources -/
def ItG (n1 n2 : Nat) (ys1 ys2 : Nat → Option V) (G1 G2 : Hp → Prop) : It :=
  ⟨fun i H => i < min n1 n2 ∧ G1 H ∧ G2 H, fun i H v H' => ∃ T x y, v = .ref T ∧ H T = none ∧ H' = upd H T (.tup [x, y]) ∧ ys1 i = some x ∧ ys2 i = some y, fun i H => i = min n1 n2 ∧ G1 H ∧ G2 H⟩
theorem walk_G {n1 n2 : Nat} {ys1 ys2 : Nat → Option V} {G1 G2 : Hp → Prop} : Walk (ItG n1 n2 ys1 ys2 G1 G2) (min n1 n2) (fun H => G1 H ∧ G2 H) (YPair ys1 ys2) :=
  ⟨fun _ _ hi q => ⟨hi, q.1, q.2⟩, fun _ q => ⟨rfl, q.1, q.2⟩, fun _ _ _ _ _ _ y => y⟩
section
variable {P : Program} {w : World} {K : PySem.W.Frag} {elts : List Expr} {kk : Nat} {tpos : Pos} {n1 n2 : Nat} {ys1 ys2 : Nat → Option V} {G1 G2 : Hp → Prop} {S1 S2 : Nat → Heap → Prop}
theorem turn_G {I0 : Nat} (D1 : Drw P w K I0 n1 ys1 G1 S1) (D2 : Drw P w K (I0 + 1) n2 ys2 G2 S2) :
    Turn P w K (.Tuple elts kk tpos) (ItG n1 n2 ys1 ys2 G1 G2) [I0 + 4, I0 + 2, I0 + 3, I0, I0 + 1] (I0 + 4)
      (fun i h => IsZip h (I0 + 4) (I0 + 2) (I0 + 3) .none ∧ IsTupOf2 h (I0 + 2) (.ref I0) (.ref (I0 + 1)) ∧ (∃ a1 a2, IsTupOf2 h (I0 + 3) a1 a2) ∧ S1 i h ∧ S2 i h) := by
  have sub : ∀ b : Nat, b ∉ [I0 + 4, I0 + 2, I0 + 3, I0, I0 + 1] → b ∉ [I0 + 4, I0 + 3, I0, I0 + 1] := fun b hb hm => hb (by simp at hm ⊢; omega)
  have five : ∀ {c : Nat}, c ∈ [I0 + 4, I0 + 2, I0 + 3, I0, I0 + 1] → c = I0 + 4 ∨ c = I0 + 2 ∨ c = I0 + 3 ∨ c = I0 ∨ c = I0 + 1 := fun h => by simpa using h
  -- the cells of one state
  have sepd : ∀ (X : Cx) (pins : List (Addr × Obj)) (H : Hp) (fp1 fp2 : List Addr), (∀ b ∈ [I0 + 4, I0 + 2, I0 + 3, I0, I0 + 1], FpOk X pins H b) → I0 ∈ fp1 → I0 + 1 ∈ fp2 →
      (∀ b ∈ fp1, b = I0 ∨ ¬ FpOk X pins H b) → (∀ b ∈ fp2, b = I0 + 1 ∨ ¬ FpOk X pins H b) → ZipSep2 (I0 + 4) (I0 + 2) (I0 + 3) I0 (I0 + 1) fp1 fp2 := fun X pins H fp1 fp2 hf m1 m2 s1 s2 => by
    have out1 : ∀ b : Nat, b ∈ [I0 + 4, I0 + 2, I0 + 3, I0, I0 + 1] → b ≠ I0 → b ∉ fp1 := fun b hb hn hm => (s1 b hm).elim hn fun z => z (hf b hb)
    have out2 : ∀ b : Nat, b ∈ [I0 + 4, I0 + 2, I0 + 3, I0, I0 + 1] → b ≠ I0 + 1 → b ∉ fp2 := fun b hb hn hm => (s2 b hm).elim hn fun z => z (hf b hb)
    exact
      { TIz := by show (I0 + 2 : Nat) ≠ I0 + 4; omega
        TOz := by show (I0 + 3 : Nat) ≠ I0 + 4; omega
        TITO := by show (I0 + 2 : Nat) ≠ I0 + 3; omega
        TIi1 := by show (I0 + 2 : Nat) ≠ I0; omega
        mem1 := m1
        zf1 := out1 _ (by simp) (by omega)
        Tf1 := out1 _ (by simp) (by omega)
        TIi2 := by show (I0 + 2 : Nat) ≠ I0 + 1; omega
        mem2 := m2
        zf2 := out2 _ (by simp) (by omega)
        Tf2 := out2 _ (by simp) (by omega)
        sep1_2 := out2 _ (by simp) (by omega)
        sep2_1 := out1 _ (by simp) (by omega) }
  exact
  { mem := by simp
    obj := fun i h st c hc => by
      obtain ⟨hz, hTI, ⟨x, y, hTO⟩, h1, h2⟩ := st
      rcases five hc with q | q | q | q | q
      · rw [q]; exact ⟨_, hz, fun v q => nomatch q⟩
      · rw [q]; exact ⟨_, hTI, fun v q => nomatch q⟩
      · rw [q]; exact ⟨_, hTO, fun v q => nomatch q⟩
      · rw [q]; exact D1.obj i h h1
      · rw [q]; exact D2.obj i h h2
    keep := fun i h h' st k => by
      obtain ⟨hz, hTI, ⟨x, y, hTO⟩, h1, h2⟩ := st
      exact ⟨k _ (by simp) _ hz, k _ (by simp) _ hTI, ⟨x, y, k _ (by simp) _ hTO⟩, D1.keep _ _ _ h1 fun o q => k _ (by simp) o q, D2.keep _ _ _ h2 fun o q => k _ (by simp) o q⟩
    item := by
      intro X hP hw hK hc i pins s σ H E I hf st hg
      obtain ⟨hlt, g1, g2⟩ := hg
      obtain ⟨fp1, PV1, St1, dr1, m1, sp1, to1, of1, val1⟩ := D1.drw X hP hw hK pins σ H s I g1 ⟨i, st.2.2.2.1⟩ (hf _ (by simp))
      obtain ⟨fp2, PV2, St2, dr2, m2, sp2, to2, of2, val2⟩ := D2.drw X hP hw hK pins σ H s I g2 ⟨i, st.2.2.2.2⟩ (hf _ (by simp))
      subst hP hw hK
      have Sp := sepd X pins H fp1 fp2 hf m1 m2 sp1 sp2
      have hA : X.A.in1.handled = none := by
        have := I.ok.hd hc
        first | exact this | (show X.A.handled = none; exact this)
      have W := WalksT.zipD2 (prog := X.prog) (w := X.w) (A := X.A) Sp (dr1 _ hA) (dr2 _ hA)
      obtain ⟨hz, hTI, hTO, h1, h2⟩ := st
      refine W.item i s _ _ hlt ⟨hz, hTI, hTO, to1 i h1, to2 i h2⟩ fun T vals h' tk hPt hT hTup hMid hk => ?_
      obtain ⟨x1, x2, p1, p2, rfl⟩ := hPt
      obtain ⟨y1, e1, r1⟩ := val1 i x1 p1
      obtain ⟨y2, e2, r2⟩ := val2 i x2 p2
      have ap := W.apart i T h' hMid
      refine ⟨.ref T, rfl, W.go elts kk tpos i T { s with heap := h', toks := tk } _ _ hMid fun h'' st'' hk'' => ?_⟩
      have hT'' : IsTup h'' T #[x1, x2] := by
        obtain ⟨o, ho, r⟩ := hTup
        exact ⟨o, hk'' T o ap ho, r⟩
      have new : ObjOk X.prog X.w (upd H T (.tup [y1, y2])) h'' T (.tup [y1, y2]) := ⟨by show 2 ≤ sizeLine; decide, [x1, x2], .cons r1 (.cons r2 .nil), hT''⟩
      have I1 : Inv X pins σ (upd H T (.tup [y1, y2])) { s with heap := h'', toks := tk } :=
        I.turnedNew (ch := [I0 + 4, I0 + 2, I0 + 3, I0, I0 + 1]) (fun c o hb q => hk'' c o (sub c hb) (hk c o (sub c hb) q)) hf hT new
      obtain ⟨a, b, c, d1, d2⟩ := st''
      refine ⟨.ref T, _, I1, rfl, ⟨T, y1, y2, rfl, I.hok.fresh hT, rfl, e1, e2⟩, ⟨a, b, c, of1 _ _ d1, of2 _ _ d2⟩, fun c hcm => ?_⟩
      have hlt : c < s.heap.objs.size := by
        rcases five hcm with q | q | q | q | q
        · rw [q]; exact Heap.lt_size hz
        · rw [q]; exact Heap.lt_size hTI
        · rw [q]; obtain ⟨_, _, e⟩ := hTO; exact Heap.lt_size e
        · rw [q]; obtain ⟨_, e, _⟩ := D1.obj _ _ h1; exact Heap.lt_size e
        · rw [q]; obtain ⟨_, e, _⟩ := D2.obj _ _ h2; exact Heap.lt_size e
      rw [upd_ne (Nat.ne_of_lt (Nat.lt_of_lt_of_le hlt hT))]
      exact (hf c hcm).1
    done := by
      intro X hP hw hK hc i pins s σ H E I hf st hg
      obtain ⟨hlt, g1, g2⟩ := hg
      obtain ⟨fp1, PV1, St1, dr1, m1, sp1, to1, of1, val1⟩ := D1.drw X hP hw hK pins σ H s I g1 ⟨i, st.2.2.2.1⟩ (hf _ (by simp))
      obtain ⟨fp2, PV2, St2, dr2, m2, sp2, to2, of2, val2⟩ := D2.drw X hP hw hK pins σ H s I g2 ⟨i, st.2.2.2.2⟩ (hf _ (by simp))
      subst hP hw hK
      have Sp := sepd X pins H fp1 fp2 hf m1 m2 sp1 sp2
      have hA : X.A.in1.handled = none := by
        have := I.ok.hd hc
        first | exact this | (show X.A.handled = none; exact this)
      have W := WalksT.zipD2 (prog := X.prog) (w := X.w) (A := X.A) Sp (dr1 _ hA) (dr2 _ hA)
      obtain ⟨hz, hTI, hTO, h1, h2⟩ := st
      subst hlt
      refine W.done s _ _ ⟨hz, hTI, hTO, to1 _ h1, to2 _ h2⟩ fun h' tk hk => ⟨rfl, I.turnedL (ch := [I0 + 4, I0 + 2, I0 + 3, I0, I0 + 1]) (fun c o hb q => hk c o (sub c hb) q) hf⟩
    self := fun A i s Q E st h => wpAny_pyIter_zip st.1 h }
end
/-- a text, a list, a tuple as a source: how many, what, while what stands -/
inductive SrcV (K : PySem.W.Frag) (H : Hp) : V → Nat → (Nat → Option V) → (Hp → Prop) → Prop
  | text (z : Str) : SrcV K H (.str z) (tl z).length (fun i => (tl z)[i]?.map fun c => tx [c]) (fun _ => True)
  | list {a : Addr} {xs : List V} (h : SqL K H a xs) : SrcV K H (.ref a) xs.length (fun i => xs[i]?) (fun H => SqL K H a xs)
  | tup {a : Addr} {xs : List V} (h : SqT K H a xs) : SrcV K H (.ref a) xs.length (fun i => xs[i]?) (fun H => SqT K H a xs)
/-- how it begins, as the library asks it -/
theorem SrcV.begins {X : Cx} {pins : List (Addr × Obj)} {σ : L2.St} {H : Hp} {s : Shared} {v : V} {u : Value} {n : Nat} {ys : Nat → Option V} {G : Hp → Prop} (I : Inv X pins σ H s) (h : SrcV X.K H v n ys G) (r : RelV v u) :
    ∃ (o : Obj) (B : Heap → Prop), Begins u o B ∧ B s.heap ∧ ∀ it : Addr, ∃ S : Nat → Heap → Prop, Drw X.prog X.w X.K it n ys G S ∧ ∀ h' : Heap, h'.get? it = some o → S 0 h' := by
  cases h with
  | text z =>
    obtain ⟨t, rfl⟩ := r
    exact ⟨_, _, begins_text z t, trivial, fun it => ⟨_, drw_text it z t, fun h' e => ⟨_, e, rfl, rfl⟩⟩⟩
  | @list a xs hq =>
    cases r
    obtain ⟨its, rv, p, _⟩ := I.list hq
    exact ⟨_, _, begins_list a its.toArray, p.isList, fun it => ⟨_, drw_list it a xs, fun h' e => ⟨_, e, rfl, rfl⟩⟩⟩
  | @tup a xs hq =>
    cases r
    obtain ⟨its, rv, p, _⟩ := I.tuple hq
    exact ⟨_, _, begins_tuple a its.toArray, p, fun it => ⟨_, drw_tup it a xs, fun h' e => ⟨_, e, rfl, rfl⟩⟩⟩
def iZipG (K : PySem.W.Frag) (ta : TA) : TI := fun σ H R => ta σ H fun vs H1 => ∃ v1 v2 n1 n2 ys1 ys2 G1 G2, vs = [v1, v2] ∧ SrcV K H1 v1 n1 ys1 G1 ∧ SrcV K H1 v2 n2 ys2 G2 ∧ R (ItG n1 n2 ys1 ys2 G1 G2) H1
theorem pi_zipG {X : Cx} {e e2 : Expr} {ta : TA} {p pos tpos : Pos} {elts : List Expr} {kk : Nat} (hg : Gl X "zip") (hm : X.mg "zip" = none) (ha : PA X [e, e2] ta)
    (hs : starEach [e, e2] X.env = (false, eval e X.env) :: starEach [e2] X.env := by rfl) (hpl : (backTo pos (starEach [e2] X.env)).any (·.1) = false := by rfl) :
    PI X (.Tuple elts kk tpos) (.Call (.Name "zip" p) [e, e2] [] pos) (iZipG X.K ta) := by
  refine ⟨fun pins s σ H R I h => ?_⟩
  refine Call_ (ld_blt I hg hm PyProof.Rows.boot_zip (PyProof.Rows.callWith_type1 (thn (ha.run pos pins s σ H _ I h) fun us s1 ⟨vs, H1, I1, r1, q1⟩ => ?_) hs hpl))
  obtain ⟨v1, v2, n1, n2, ys1, ys2, G1, G2, ex, sc1, sc2, q⟩ := q1
  subst ex
  obtain ⟨u1, u2, rfl, rv1, rv2⟩ := vals2 r1
  obtain ⟨o1, B1, b1, hb1, d1⟩ := sc1.begins I1 rv1
  obtain ⟨o2, B2, b2, hb2, d2⟩ := sc2.begins I1 rv2
  refine zip_begins2 b1 b2 hb1 hb2 fun h' hz hTI hTO g1 g2 hsz hk => wpAny_pyIter_zip hz ?_
  obtain ⟨S1, D1, st1⟩ := d1 s1.heap.objs.size
  obtain ⟨S2, D2, st2⟩ := d2 (s1.heap.objs.size + 1)
  have I2 : Inv X pins σ H1 { s1 with heap := h' } := I1.kept (t' := s1.toks) hk
  refine ⟨s1.heap.objs.size + 4, [s1.heap.objs.size + 4, s1.heap.objs.size + 2, s1.heap.objs.size + 3, s1.heap.objs.size, s1.heap.objs.size + 1], _, _, H1, rfl, I2, turn_G D1 D2, ⟨hz, hTI, ⟨_, _, hTO⟩, st1 h' g1, st2 h' g2⟩, fun c hcm => ?_, q⟩
  have e' : c = s1.heap.objs.size + 4 ∨ c = s1.heap.objs.size + 2 ∨ c = s1.heap.objs.size + 3 ∨ c = s1.heap.objs.size ∨ c = s1.heap.objs.size + 1 := by simpa using hcm
  have hle : s1.heap.objs.size ≤ c := by
    rcases e' with z | z | z | z | z <;> (rw [z]; first | exact Nat.le_refl _ | exact Nat.le_add_right _ _)
  exact I1.fpOk hle (I1.hok.fresh hle)
end Wk

namespace WkA
open PySem PySem.Spec PyProof.Rows L2 Wk
open TL (tl len_tl ext_tl tl_append mk_tl)
def t__law_pen (K : PySem.W.Frag) : TS :=
  (tRet (tDisp [((tC (tx [99, 101, 108, 108, 115])), (tCB (rList1 K) (tCons (tSl (rCut K) (tVar 0) tNoPart (tPart (tC (.int 63)))) tNil))), ((tC (tx [111, 112, 101, 110, 101, 100])), (tC (.int 0))), ((tC (tx [108, 101, 102, 116])), (tC (.int 0)))]))
def t__law_draw (K : PySem.W.Frag) : TS :=
  (tSeq (tIfS (tTest (tOp (rMore) (tDGet (tVar 0) (tC (tx [108, 101, 102, 116]))) (tC (.int 0)))) (tSeq (tAsg (tOp (rRest) (tCB (rInt1) (tCons (tDGet (tVar 0) (tC (tx [108, 101, 102, 116]))) tNil)) (tVar 1)) (gName 2))
    (tSeq (sDPut (tVar 0) (tC (tx [108, 101, 102, 116])) (tOp (rOver) (tDGet (tVar 0) (tC (tx [108, 101, 102, 116]))) (tVar 1)))
    (tRet (tVar 2)))) tNext)
    (tSeq (tPar 3 4 (tCons (tDGet (tVar 0) (tC (tx [111, 112, 101, 110, 101, 100]))) (tCons (tDGet (tVar 0) (tC (tx [99, 101, 108, 108, 115]))) tNil)))
    (tSeq (sDPut (tVar 0) (tC (tx [111, 112, 101, 110, 101, 100])) (tOp (rPlus K) (tVar 3) (tC (.int 1))))
    (tSeq (tIfS (tTest (tOp (rEqq K) (tVar 4) (tLst tNil))) (tRet (tOp (rRest) (tCB (rInt1) (tCons (tOp (rPlus K) (tOp (rTimes K) (tC (.int 7)) (tVar 3)) (tC (.int 3))) tNil)) (tVar 1))) tNext)
    (tSeq (tAsg (tOp (rItem K) (tVar 4) (tOp (rRest) (tCB (rInt1) (tCons (tVar 3) tNil)) (tCB (rLen K) (tCons (tVar 4) tNil)))) (gName 5))
    (tSeq (tIfS (tAnd (tTest (tOp (rLess) (tVar 3) (tCB (rLen K) (tCons (tVar 4) tNil)))) (tTest (tOp (rMeq) (tCB (rAbs) (tCons (tVar 5) tNil)) (tOp (rPower) (tC (.int 10)) (tC (.int 18)))))) (tSeq (sDPut (tVar 0) (tC (tx [108, 101, 102, 116])) (tOp (rOver) (tOp (rMinus) (tCB (rAbs) (tCons (tVar 5) tNil)) (tOp (rPower) (tC (.int 10)) (tC (.int 18)))) (tVar 1)))
    (tRet (tOp (rRest) (tCB (rInt1) (tCons (tOp (rMinus) (tCB (rAbs) (tCons (tVar 5) tNil)) (tOp (rPower) (tC (.int 10)) (tC (.int 18)))) tNil)) (tVar 1)))) tNext)
    (tSeq (tAsg (tOp (rRest) (tCB (rInt1) (tCons (tOp (rPlus K) (tOp (rPlus K) (tOp (rPlus K) (tOp (rTimes K) (tOp (rRest) (tCB (rInt1) (tCons (tVar 5) tNil)) (tC (.int 4294965521))) (tC (.int 43793))) (tOp (rTimes K) (tOp (rTimes K) (tC (.int 25999)) (tVar 3)) (tVar 3))) (tOp (rTimes K) (tC (.int 839)) (tVar 3))) (tC (.int 67))) tNil)) (tC (.int 4294965583))) (gName 6))
    (tSeq (tAsg (tOp (rRest) (tCB (rInt1) (tCons (tOp (rPlus K) (tOp (rPlus K) (tOp (rTimes K) (tVar 6) (tVar 6)) (tOp (rTimes K) (tC (.int 40163)) (tVar 6))) (tOp (rTimes K) (tC (.int 31)) (tVar 3))) tNil)) (tC (.int 4294965511))) (gName 6))
    (tRet (tOp (rRest) (tCB (rInt1) (tCons (tOp (rOver) (tOp (rRest) (tCB (rInt1) (tCons (tOp (rTimes K) (tVar 6) (tOp (rPlus K) (tVar 6) (tC (.int 60289)))) tNil)) (tC (.int 4294965491))) (tC (.int 128))) tNil)) (tVar 1)))))))))))
def t__law_pick (K : PySem.W.Frag) (s__law_draw : Sp) : TS :=
  (tRet (tOp (rItem K) (tVar 1) (tCall s__law_draw [] E0 (tCons (tVar 0) (tCons (tCB (rLen K) (tCons (tVar 1) tNil)) tNil)))))
def t__law_letters (K : PySem.W.Frag) (s__law_draw : Sp) (s__law_pick : Sp) : TS :=
  (tSeq (tAsg (tTup (tCons (tC (tx [97, 98, 99, 100, 101, 102, 103, 104, 105, 106, 107, 108, 109, 110, 111, 112, 113, 114, 115, 116, 117, 118, 119, 120, 121, 122])) (tCons (tCall s__law_draw [] E0 (tCons (tVar 0) (tCons (tC (.int 26)) tNil))) tNil))) (gTup K 2 (gCons (gName 1) (gCons (gName 2) gNil))))
    (tSeq (tAsg (tCall s__law_pick [] E0 (tCons (tVar 0) (tCons (tLst (tCons (tC (.int 1)) (tCons (tC (.int 3)) (tCons (tC (.int 5)) (tCons (tC (.int 7)) (tCons (tC (.int 9)) (tCons (tC (.int 11)) (tCons (tC (.int 15)) (tCons (tC (.int 17)) (tCons (tC (.int 19)) (tCons (tC (.int 21)) (tCons (tC (.int 23)) (tCons (tC (.int 25)) tNil))))))))))))) tNil))) (gName 3))
    (tRet (tM1 (rJoin K) (tC (tx [])) (tLc (iRng1 (tCons (tOp (rPlus K) (tC (.int 2)) (tCall s__law_draw [] E0 (tCons (tVar 0) (tCons (tC (.int 3)) tNil)))) tNil)) (gName 4) tYes (tOp (rItem K) (tVar 1) (tOp (rRest) (tCB (rInt1) (tCons (tOp (rPlus K) (tVar 2) (tOp (rTimes K) (tVar 3) (tVar 4))) tNil)) (tC (.int 26)))) [4])))))
def t__law_word (K : PySem.W.Frag) (s__law_draw : Sp) (s__law_pick : Sp) : TS :=
  (tSeq (tPar 3 4 (tCons (tCall s__law_draw [] E0 (tCons (tVar 0) (tCons (tC (.int 4)) tNil))) (tCons (tCall s__law_draw [] E0 (tCons (tVar 0) (tCons (tVar 2) tNil))) tNil)))
    (tSeq (tAsg (tM1 (rJoin K) (tC (tx [])) (tLc (iRng1 (tCons (tOp (rPlus K) (tC (.int 1)) (tCall s__law_draw [] E0 (tCons (tVar 0) (tCons (tC (.int 3)) tNil)))) tNil)) (gName 7) tYes (tCall s__law_pick [] E0 (tCons (tVar 0) (tCons (tVar 1) tNil))) [7])) (gName 5))
    (tSeq (tAsg (tSl (rCut K) (tOp (rTimes K) (tVar 5) (tVar 2)) tNoPart (tPart (tVar 2))) (gName 6))
    (tSeq (tIfS (tTest (tOp (rEqq K) (tVar 3) (tC (.int 0)))) (tRet (tM1 (rJoin K) (tC (tx [])) (tLc (iRng1 (tCons (tVar 2) tNil)) (gName 7) tYes (tCall s__law_pick [] E0 (tCons (tVar 0) (tCons (tVar 1) tNil))) [7]))) tNext)
    (tRet (tIf (tTest (tOp (rEqq K) (tVar 3) (tC (.int 1)))) (tOp (rPlus K) (tOp (rPlus K) (tSl (rCut K) (tVar 6) tNoPart (tPart (tVar 4))) (tCall s__law_pick [] E0 (tCons (tVar 0) (tCons (tVar 1) tNil)))) (tSl (rCut K) (tVar 6) (tPart (tOp (rPlus K) (tVar 4) (tC (.int 1)))) tNoPart)) (tVar 6)))))))
abbrev n__law_pen : List Str := ["_law_script"]
abbrev n__law_draw : List Str := ["_law_pen_here", "_law_many", "_law_digit", "_law_k", "_law_cells", "_law_cell", "_law_mix"]
abbrev n__law_pick : List Str := ["_law_pen_here", "_law_some"]
abbrev n__law_letters : List Str := ["_law_pen_here", "_law_small", "_law_first", "_law_pace", "_law_k"]
abbrev n__law_word : List Str := ["_law_pen_here", "_law_letters_here", "_law_width", "_law_way", "_law_at", "_law_piece", "_law_word_here", "_law_k"]
def t__law_draw_rest (K : PySem.W.Frag) : TS :=
  (tSeq (tAsg (tOp (rRest) (tCB (rInt1) (tCons (tOp (rPlus K) (tOp (rPlus K) (tOp (rPlus K) (tOp (rTimes K) (tOp (rRest) (tCB (rInt1) (tCons (tVar 5) tNil)) (tC (.int 4294965521))) (tC (.int 43793))) (tOp (rTimes K) (tOp (rTimes K) (tC (.int 25999)) (tVar 3)) (tVar 3))) (tOp (rTimes K) (tC (.int 839)) (tVar 3))) (tC (.int 67))) tNil)) (tC (.int 4294965583))) (gName 6))
    (tSeq (tAsg (tOp (rRest) (tCB (rInt1) (tCons (tOp (rPlus K) (tOp (rPlus K) (tOp (rTimes K) (tVar 6) (tVar 6)) (tOp (rTimes K) (tC (.int 40163)) (tVar 6))) (tOp (rTimes K) (tC (.int 31)) (tVar 3))) tNil)) (tC (.int 4294965511))) (gName 6))
    (tRet (tOp (rRest) (tCB (rInt1) (tCons (tOp (rOver) (tOp (rRest) (tCB (rInt1) (tCons (tOp (rTimes K) (tVar 6) (tOp (rPlus K) (tVar 6) (tC (.int 60289)))) tNil)) (tC (.int 4294965491))) (tC (.int 128))) tNil)) (tVar 1)))))
/-! ## the pen: a dict of the cells, how many were opened, what is left -/
def kC : Key := Sum.inr (sx [99, 101, 108, 108, 115])
def kO : Key := Sum.inr (sx [111, 112, 101, 110, 101, 100])
def kL : Key := Sum.inr (sx [108, 101, 102, 116])
theorem nCO : ¬ kC = kO := by decide +kernel
theorem nCL : ¬ kC = kL := by decide +kernel
theorem nOL : ¬ kO = kL := by decide +kernel
theorem nOC : ¬ kO = kC := by decide +kernel
theorem nLC : ¬ kL = kC := by decide +kernel
theorem nLO : ¬ kL = kO := by decide +kernel
def penD (c : Addr) (k l : Int) : List (Key × V) := [(kC, .ref c), (kO, .int k), (kL, .int l)]
theorem penD_C (c : Addr) (k l : Int) : valV (penD c k l) kC = some (.ref c) := valV_pos rfl
theorem penD_O (c : Addr) (k l : Int) : valV (penD c k l) kO = some (.int k) := by
  unfold penD
  rw [valV_neg nCO, valV_pos rfl]
theorem penD_L (c : Addr) (k l : Int) : valV (penD c k l) kL = some (.int l) := by
  unfold penD
  rw [valV_neg nCL, valV_neg nOL, valV_pos rfl]
theorem putK_O (c : Addr) (k l j : Int) : putK (penD c k l) kO (.int j) = penD c j l := by
  unfold putK penD
  simp [nCO, nLO]
theorem putK_L (c : Addr) (k l j : Int) : putK (penD c k l) kL (.int j) = penD c k j := by
  unfold putK penD
  simp [nCL, nOL]
/-- a pen at p over the cells at c, with which at most n cells were opened -/
def Pen (p c : Addr) (H : Hp) (n : Nat) : Prop := ∃ (k l : Int) (ns : List Int), H p = some (.dK (penD c k l)) ∧ H c = some (.lst (ns.map V.int)) ∧ ns.length ≤ 63 ∧ 0 ≤ k ∧ k ≤ n ∧ 0 ≤ l
section
variable {p c q : Addr} {H H1 H' : Hp} {n m : Nat} {o : HO}
theorem Pen.mono (h : Pen p c H n) (l : n ≤ m) : Pen p c H m := by
  obtain ⟨k, j, ns, h1, h2, h3, h4, h5, h6⟩ := h
  exact ⟨k, j, ns, h1, h2, h3, h4, by omega, h6⟩
theorem Pen.same (h : Pen p c H n) (s : Same H H') : Pen p c H' n := by
  obtain ⟨k, j, ns, h1, h2, r⟩ := h
  exact ⟨k, j, ns, s _ _ h1, s _ _ h2, r⟩
theorem Pen.at (h : Pen p c H n) : ∃ o, H p = some o := by
  obtain ⟨k, j, ns, h1, _⟩ := h
  exact ⟨_, h1⟩
theorem Pen.ne (h : Pen p c H n) (hq : H q = none) : q ≠ p ∧ q ≠ c := by
  obtain ⟨k, j, ns, h1, h2, _⟩ := h
  exact ⟨fun e => (by rw [e, h1] at hq; cases hq), fun e => (by rw [e, h2] at hq; cases hq)⟩
theorem Pen.put (h : Pen p c H n) (h1 : q ≠ p) (h2 : q ≠ c) : Pen p c (upd H q o) n := by
  obtain ⟨k, j, ns, e1, e2, r⟩ := h
  exact ⟨k, j, ns, by rw [upd_ne h1.symm]; exact e1, by rw [upd_ne h2.symm]; exact e2, r⟩
theorem Pen.new (h : Pen p c H n) (hq : H q = none) : Pen p c (upd H q o) n := h.put (h.ne hq).1 (h.ne hq).2
theorem Pen.dict (h : Pen p c H n) : ∀ o, H p = some o → (∀ ys, o ≠ .lst ys) ∧ ∀ u ys, o ≠ .frz u (.lst ys) := fun o e => by
  obtain ⟨k, j, ns, h1, _⟩ := h
  rw [h1] at e
  cases e
  exact ⟨fun ys z => (by cases z), fun u ys z => (by cases z)⟩
theorem Pen.dict2 (h : Pen p c H n) : ∀ o, H p = some o → (∀ ys, o ≠ .tup ys) ∧ ∀ u ys, o ≠ .frz u (.tup ys) := fun o e => by
  obtain ⟨k, j, ns, h1, _⟩ := h
  rw [h1] at e
  cases e
  exact ⟨fun ys z => (by cases z), fun u ys z => (by cases z)⟩
theorem Pen.ne_l {xs : List V} (h : Pen p c H n) (hq : H q = some (.lst xs)) : q ≠ p := fun e => by
  rw [e] at hq
  exact (h.dict _ hq).1 _ rfl
theorem Pen.ne_t {xs : List V} (h : Pen p c H n) (hq : H q = some (.tup xs)) : q ≠ p := fun e => by
  rw [e] at hq
  exact (h.dict2 _ hq).1 _ rfl
/-- the state behind some draws: the pen still one, all else as it was -/
structure Pn (p c : Addr) (H : Hp) (n : Nat) (H' : Hp) : Prop where
  pen : Pen p c H' n
  kp : Kp p H H'
theorem Pn.trans (a : Pn p c H n H1) (b : Pn p c H1 m H') : Pn p c H m H' := ⟨b.pen, a.kp.trans b.kp⟩
theorem Pn.new (a : Pn p c H n H') (h : H' q = none) : Pn p c H n (upd H' q o) := ⟨a.pen.new h, a.kp.new h⟩
/-- a thing changes that was not there at the beginning -/
theorem Pn.put (a : Pn p c H n H') (b : Pen p c H m) (h : H q = none) : Pn p c H n (upd H' q o) := ⟨a.pen.put (b.ne h).1 (b.ne h).2, a.kp.mut h⟩
theorem Pn.mono (a : Pn p c H n H') (l : n ≤ m) : Pn p c H m H' := ⟨a.pen.mono l, a.kp⟩
theorem Pn.refl (h : Pen p c H n) : Pn p c H n H := ⟨h, Kp.refl p H⟩
theorem Pn.same (h : Pen p c H n) (s : Same H H') : Pn p c H n H' := ⟨h.same s, Kp.of s⟩
theorem Pn.then (a : Pn p c H n H1) (s : Same H1 H') : Pn p c H n H' := a.trans (Pn.same a.pen s)
theorem Pn.back (a : Pn p c H n H') (h : H' q = none) : H q = none := a.kp.free a.pen.at h
theorem Pn.lst {xs : List V} (a : Pn p c H n H') (b : Pen p c H m) (h : H q = some (.lst xs)) : H' q = some (.lst xs) := a.kp _ _ (b.ne_l h) h
theorem Pn.tup {xs : List V} (a : Pn p c H n H') (b : Pen p c H m) (h : H q = some (.tup xs)) : H' q = some (.tup xs) := a.kp _ _ (b.ne_t h) h
theorem Pn.sqL {K : PySem.W.Frag} {xs : List V} (a : Pn p c H n H') (b : Pen p c H m) (h : SqL K H q xs) : SqL K H' q xs := sqL_kp a.kp b.dict h
theorem Pn.sqT {K : PySem.W.Frag} {xs : List V} (a : Pn p c H n H') (b : Pen p c H m) (h : SqT K H q xs) : SqT K H' q xs := sqT_kp a.kp b.dict2 h
end

/-! ## a number drawn -/
def spDraw : Sp := fun vs H Q _ => ∃ (p c : Addr) (n : Nat) (b : Int), vs = [.ref p, .int b] ∧ Pen p c H n ∧ n < 2 ^ 30 ∧ 0 < b ∧ b < 2 ^ 62 ∧
  ∀ (r : Int) (H' : Hp), 0 ≤ r → r < b → Pn p c H (n + 1) H' → Q (.int r) H'
theorem small_div {b : Int} (h0 : 0 < b) (h1 : b < 2 ^ 62) : ∀ i : Int, CDivW i b := fun i => wide_div (b := 62) h0 (by omega) (by decide) (by decide)
theorem mod_ok {b r : Int} (h0 : 0 < b) : 0 ≤ r % b ∧ r % b < b := ⟨Int.emod_nonneg r (by omega), Int.emod_lt_of_pos r h0⟩
theorem mulw {i j : Int} (hi : i.natAbs < 2 ^ 200) (hj : j.natAbs < 2 ^ 200) : CMulW i j := wide_mul hi hj (by decide) (by decide) (by decide)
theorem rd_draw (K : PySem.W.Frag) (vs : List V) (H : Hp) (Q : VK) (E : XK) (h : spDraw vs H Q E) : t__law_draw K { nx := fun _ H' => Q .non H', rt := Q } (start n__law_draw vs) H := by
  obtain ⟨p, c, n, b, rfl, ⟨k, l, ns, hp, hc, hlen, k0, kn, l0⟩, hn, b0, bb, q⟩ := h
  have gC : ∀ {H : Hp} {k l : Int}, H p = some (.dK (penD c k l)) → DGet H p (kV kC) (some (.ref c)) := fun {H k l} e => by rw [← penD_C c k l]; exact DGet.k e
  have gO : ∀ {H : Hp} {k l : Int}, H p = some (.dK (penD c k l)) → DGet H p (kV kO) (some (.int k)) := fun {H k l} e => by rw [← penD_O c k l]; exact DGet.k e
  have gL : ∀ {H : Hp} {k l : Int}, H p = some (.dK (penD c k l)) → DGet H p (kV kL) (some (.int l)) := fun {H k l} e => by rw [← penD_L c k l]; exact DGet.k e
  have pO : ∀ {H : Hp} {k l j : Int}, H p = some (.dK (penD c k l)) → DPut H p (kV kO) (.int j) (upd H p (.dK (penD c j l))) := fun {H k l j} e => by rw [← putK_O c k l j]; exact DPut.k e (by show 3 < sizeLine; decide)
  have pL : ∀ {H : Hp} {k l j : Int}, H p = some (.dK (penD c k l)) → DPut H p (kV kL) (.int j) (upd H p (.dK (penD c k j))) := fun {H k l j} e => by rw [← putK_L c k l j]; exact DPut.k e (by show 3 < sizeLine; decide)
  have ncp : c ≠ p := ne_of hc hp (by intro z; cases z)
  have dv := small_div b0 bb
  -- the ways out: a rest by b, the pen behind it
  have out : ∀ (z : Int) (H' : Hp) (k' l' : Int), H' p = some (.dK (penD c k' l')) → H' c = some (.lst (ns.map V.int)) → 0 ≤ k' → k' ≤ n + 1 → 0 ≤ l' → Kp p H H' → Q (.int (z % b)) H' :=
    fun z H' k' l' e1 e2 e3 e4 e5 kp => q _ _ (mod_ok b0).1 (mod_ok b0).2 ⟨⟨k', l', ns, e1, e2, hlen, e3, by omega, e5⟩, kp⟩
  have kpp : ∀ (o : HO), Kp p H (upd H p o) := fun o b' u nb e => by rw [upd_ne nb]; exact e
  refine ⟨.ref p, rfl, p, .int l, rfl, gL hp, _, rfl, iteD (fun hl => ?_) (fun hl => ?_)⟩
  · -- a digit of what is left
    refine ⟨.ref p, rfl, p, .int l, rfl, gL hp, .int b, rfl, b0, ?_⟩
    refine ⟨.ref p, rfl, p, .int l, rfl, gL hp, .int b, rfl, dv l, .ref p, rfl, p, _, rfl, pL hp, _, rfl, ?_⟩
    exact out l _ k (l / b) upd_same (by rw [upd_ne ncp]; exact hc) k0 (by omega) (Int.ediv_nonneg l0 (by omega)) (kpp _)
  · refine ⟨.ref p, rfl, p, .int k, rfl, gO hp, .ref p, rfl, p, .ref c, rfl, gC hp, _, _, rfl, ?_⟩
    refine ⟨.int k, rfl, .ref p, rfl, p, _, rfl, pO hp, ?_⟩
    generalize hH1 : upd H p (.dK (penD c (k + 1) l)) = H1
    have hp1 : H1 p = some (.dK (penD c (k + 1) l)) := by rw [← hH1]; exact upd_same
    have hc1 : H1 c = some (.lst (ns.map V.int)) := by rw [← hH1, upd_ne ncp]; exact hc
    have kp1 : Kp p H H1 := by rw [← hH1]; exact kpp _
    clear hH1
    refine ⟨.ref c, rfl, Nat.zero_le _, fun e he => ?_⟩
    have nep : p ≠ e := ne_of_none hp1 he
    have nec : c ≠ e := ne_of_none hc1 he
    refine ⟨.list (ns.map PyData.int), .list [], .lst (SqL.of (by rw [upd_ne nec]; exact hc1)) (dp_ints ns), .lst (SqL.of upd_same) .nil, ?_, _, rfl, ?_⟩
    · simp only [PyData.depth, depth_ints, PyData.depthAll]; decide
    generalize hH2 : upd H1 e (.lst []) = H2
    have hp2 : H2 p = some (.dK (penD c (k + 1) l)) := by rw [← hH2, upd_ne nep]; exact hp1
    have hc2 : H2 c = some (.lst (ns.map V.int)) := by rw [← hH2, upd_ne nec]; exact hc1
    have kp2 : Kp p H H2 := by rw [← hH2]; exact kp1.new he
    clear hH2
    refine iteB (fun hz => ?_) (fun hz => ?_)
    · refine ⟨.int k, rfl, mulw (by decide) (by omega), .int b, rfl, b0, ?_⟩
      exact out _ H2 (k + 1) l hp2 hc2 (by omega) (by omega) l0 kp2
    · have hne : ns ≠ [] := fun e => by rw [e] at hz; simp [PyData.eqv, PyData.eqvAll] at hz
      have hpos : 0 < ns.length := by
        cases ns with
        | nil => exact absurd rfl hne
        | cons a r => exact Nat.succ_pos _
      have hix : ∃ j : Nat, k % (((ns.map V.int).length : Nat) : Int) = (j : Int) ∧ j < ns.length := by
        have hl : (((ns.map V.int).length : Nat) : Int) = (ns.length : Int) := by rw [List.length_map]
        rw [hl]
        have h1 := Int.emod_nonneg k (show (ns.length : Int) ≠ 0 by omega)
        have h2 := Int.emod_lt_of_pos k (show (0 : Int) < ns.length by omega)
        exact ⟨(k % (ns.length : Int)).toNat, by omega, by omega⟩
      obtain ⟨j, hj, hjl⟩ := hix
      have hat : atI (ns.map V.int) (k % (((ns.map V.int).length : Nat) : Int)) = some (V.int ns[j]) := by
        rw [hj]
        exact atI_nat (by rw [List.getElem?_map, List.getElem?_eq_getElem hjl]; rfl)
      refine ⟨.ref c, rfl, .int k, rfl, .ref c, rfl, ns.map V.int, .inl (SqL.of hc2), by rw [List.length_map]; omega, ns.map V.int, V.int ns[j], .inl (SqL.of hc2), hat, ?_⟩
      generalize ns[j] = cell
      have fin : ∀ (b' : Bool), b' = true ∨ b' = false := fun b' => by cases b' <;> simp
      -- the rest of the body, where the cell is not a large one
      have mixed : ∀ (k' : Int), k' = k → t__law_draw_rest K { nx := fun _ H' => Q .non H', rt := Q } [some (.ref p), some (.int b), none, some (.int k), some (.ref c), some (.int cell), none] H2 := fun k' _ => by
        have c1 := mod_ok (b := 4294965521) (r := cell) (by decide)
        have h1 : (25999 * k * k).natAbs < 2 ^ 200 := by
          rw [Int.natAbs_mul, Int.natAbs_mul]
          have e1 : k.natAbs < 2 ^ 40 := by omega
          calc 25999 * k.natAbs * k.natAbs ≤ 25999 * 2 ^ 40 * 2 ^ 40 := Nat.mul_le_mul (Nat.mul_le_mul (Nat.le_refl _) (by omega)) (by omega)
            _ < 2 ^ 200 := by decide
        refine ⟨.int cell, rfl, by decide, mulw (by omega) (by decide), .int k, rfl, mulw (by decide) (by omega), .int k, rfl, mulw (by omega) (by omega), .int k, rfl, mulw (by decide) (by omega), by decide, ?_⟩
        generalize (cell % 4294965521 * 43793 + 25999 * k * k + 839 * k + 67) = z1
        have c2 := mod_ok (b := 4294965583) (r := z1) (by decide)
        generalize z1 % 4294965583 = m1 at c2
        refine ⟨.int m1, rfl, .int m1, rfl, mulw (by omega) (by omega), .int m1, rfl, mulw (by decide) (by omega), .int k, rfl, mulw (by decide) (by omega), by decide, ?_⟩
        generalize (m1 * m1 + 40163 * m1 + 31 * k) = z2
        have c3 := mod_ok (b := 4294965511) (r := z2) (by decide)
        generalize z2 % 4294965511 = m2 at c3
        refine ⟨.int m2, rfl, .int m2, rfl, mulw (by omega) (by omega), by decide, small_div (by decide) (by decide) _, .int b, rfl, b0, ?_⟩
        exact out _ H2 (k + 1) l hp2 hc2 (by omega) (by omega) l0 kp2
      refine ⟨.int k, rfl, .ref c, rfl, ns.map V.int, .inl (SqL.of hc2), _, rfl, iteD (fun hk => ?_) (fun hk => ?_)⟩
      · refine ⟨.int cell, rfl, ⟨by decide, by decide, by decide⟩, _, rfl, iteD (fun hg => ?_) (fun hg => ?_)⟩
        · refine ⟨.int cell, rfl, ⟨by decide, by decide, by decide⟩, .int b, rfl, dv _, .ref p, rfl, p, _, rfl, pL hp2, .int cell, rfl, ⟨by decide, by decide, by decide⟩, .int b, rfl, b0, ?_⟩
          refine out _ _ (k + 1) _ upd_same (by rw [upd_ne ncp]; exact hc2) (by omega) (by omega) (Int.ediv_nonneg ?_ (by omega)) (fun b' u nb e => by rw [upd_ne nb]; exact kp2 b' u nb e)
          have e : (10 : Int) ^ (Int.toNat 18) = 1000000000000000000 := by decide
          rw [e] at hg ⊢
          omega
        · exact mixed k rfl
      · exact mixed k rfl

/-! ## one of some things: of a list, a tuple, a text -/
def spPick (K : PySem.W.Frag) : Sp := fun vs H Q _ => ∃ (p c : Addr) (n : Nat), Pen p c H n ∧ n < 2 ^ 30 ∧
  ((∃ (a : Addr) (xs : List V), vs = [.ref p, .ref a] ∧ (SqL K H a xs ∨ SqT K H a xs) ∧ 0 < xs.length ∧ xs.length ≤ 100000 ∧ ∀ (v : V) (H' : Hp), v ∈ xs → Pn p c H (n + 1) H' → Q v H') ∨
   (∃ l : List Nat, vs = [.ref p, tx l] ∧ 0 < l.length ∧ l.length ≤ 100000 ∧ ∀ (s : Nat) (H' : Hp), s ∈ l → Pn p c H (n + 1) H' → Q (tx [s]) H'))
theorem at_in {α : Type} {xs : List α} {r : Int} (h0 : 0 ≤ r) (h1 : r < (xs.length : Nat)) : ∃ v, atI xs r = some v ∧ v ∈ xs := by
  obtain ⟨j, rfl⟩ : ∃ j : Nat, r = j := ⟨r.toNat, by omega⟩
  have hj : j < xs.length := by omega
  exact ⟨xs[j], atI_nat (List.getElem?_eq_getElem hj), List.getElem_mem hj⟩
theorem rd_pick (K : PySem.W.Frag) (vs : List V) (H : Hp) (Q : VK) (E : XK) (h : spPick K vs H Q E) : t__law_pick K spDraw { nx := fun _ H' => Q .non H', rt := Q } (start n__law_pick vs) H := by
  obtain ⟨p, c, n, hp, hn, ⟨a, xs, rfl, hx, h0, h1, q⟩ | ⟨l, rfl, h0, h1, q⟩⟩ := h
  · refine ⟨.ref a, rfl, .ref p, rfl, .ref a, rfl, xs, hx, p, c, n, _, rfl, hp, hn, by omega, by omega, fun r H' r0 r1 hP => ?_⟩
    obtain ⟨v, hv, hm⟩ := at_in r0 r1
    exact ⟨xs, v, hx.imp (fun h => hP.sqL hp h) (fun h => hP.sqT hp h), hv, q v H' hm hP⟩
  · refine ⟨tx l, rfl, .ref p, rfl, tx l, rfl, h1, p, c, n, _, rfl, hp, hn, by show (0 : Int) < (l.length : Nat); omega, by show ((l.length : Nat) : Int) < 2 ^ 62; omega, fun r H' r0 r1 hP => ?_⟩
    obtain ⟨v, hv, hm⟩ := at_in (xs := l) r0 r1
    exact ⟨h1, v, hv, q v H' hm hP⟩
/-! ## a new pen -/
def spPen (K : PySem.W.Frag) : Sp := fun vs H Q _ => ∃ (a : Addr) (ns : List Int), vs = [.ref a] ∧ SqL K H a (ns.map V.int) ∧ ns.length ≤ 63 ∧
  ∀ (p c : Addr) (H' : Hp), H p = none → H c = none → Same H H' → Pen p c H' 0 → Q (.ref p) H'
theorem rd_pen (K : PySem.W.Frag) (vs : List V) (H : Hp) (Q : VK) (E : XK) (h : spPen K vs H Q E) : t__law_pen K { nx := fun _ H' => Q .non H', rt := Q } (start n__law_pen vs) H := by
  obtain ⟨a, ns, rfl, hx, hl, q⟩ := h
  intro p hp
  have s1 : Same H (upd H p (.dK [])) := Same.new hp
  refine ⟨.ref a, rfl, 63, rfl, .inl ⟨a, ns.map V.int, rfl, s1.seq hx, fun b hb => ?_⟩⟩
  have hb0 : H b = none := s1.free hb
  refine ⟨_, .inl (SqL.of upd_same), fun c hc => ?_⟩
  have hcut : cutV (ns.map V.int) none (some 63) = ns.map V.int := by
    have := cutV_take (ns.map V.int) 63
    rw [List.take_of_length_le (by rw [List.length_map]; exact hl)] at this
    exact this
  rw [hcut] at hc ⊢
  have npb : p ≠ b := fun e => by rw [e, upd_same] at hb; cases hb
  have npc : p ≠ c := fun e => by
    rw [← e, upd_ne npb, upd_same] at hc
    cases hc
  have nbc : b ≠ c := fun e => by rw [e, upd_same] at hc; cases hc
  have hc0 : H c = none := by
    rw [upd_ne nbc.symm, upd_ne npc.symm] at hc
    exact hc
  refine ⟨?_, [(kC, .ref c), (kO, .int 0), (kL, .int 0)], rfl, by simp, ?_⟩
  · rw [upd_ne npc, upd_ne npb, upd_same]
  · have hm : mergeK [] [(kC, V.ref c), (kO, .int 0), (kL, .int 0)] = penD c 0 0 := by
      simp [mergeK, putK, penD, nCO, nCL, nOL]
    rw [hm]
    refine q p c _ hp hc0 ?_ ⟨0, 0, ns, upd_same, ?_, hl, Int.le_refl _, Int.le_refl _, Int.le_refl _⟩
    · exact Same.mut (Same.mut (Same.mut (Same.new' (Same.refl H) hp) hb0) hc0) hp
    · rw [upd_ne npc.symm, upd_same]
/-! ## letters -/
def LetOk (L : List Nat) : Prop := 2 ≤ L.length ∧ L.length ≤ 4 ∧ L.Nodup ∧ ∀ c ∈ L, 97 ≤ c ∧ c ≤ 122
def spLetters : Sp := fun vs H Q _ => ∃ (p c : Addr) (n : Nat), vs = [.ref p] ∧ Pen p c H n ∧ n < 2 ^ 29 ∧ ∀ (L : List Nat) (H' : Hp), LetOk L → Pn p c H (n + 3) H' → Q (tx L) H'
def abc : List Nat := [97, 98, 99, 100, 101, 102, 103, 104, 105, 106, 107, 108, 109, 110, 111, 112, 113, 114, 115, 116, 117, 118, 119, 120, 121, 122]
def paces : List Int := [1, 3, 5, 7, 9, 11, 15, 17, 19, 21, 23, 25]
def letAt (f g : Int) (k : Nat) : Nat := 97 + ((f + g * (k : Int)) % 26).toNat
theorem abc_at (z : Int) : atI abc (z % 26) = some (97 + (z % 26).toNat) := by
  have h1 := Int.emod_nonneg z (show (26 : Int) ≠ 0 by decide)
  have h2 := Int.emod_lt_of_pos z (show (0 : Int) < 26 by decide)
  have e : z % 26 = (((z % 26).toNat : Nat) : Int) := by omega
  generalize (z % 26).toNat = j at e ⊢
  rw [e]
  have hj : j < 26 := by omega
  refine atI_nat ?_
  have : ∀ j : Nat, j < 26 → abc[j]? = some (97 + j) := by decide
  exact this j hj
theorem letters_ok (f g : Int) (m : Nat) (hf0 : 0 ≤ f) (hf1 : f < 26) (hg : g ∈ paces) (hm : 2 ≤ m) (hm2 : m ≤ 4) : LetOk ((List.range m).map (letAt f g)) := by
  refine ⟨by simp; exact hm, by simp; exact hm2, ?_, fun c hc => ?_⟩
  · have key : ∀ f' : Nat, f' < 26 → ∀ g ∈ paces, ((List.range 4).map (letAt (f' : Int) g)).Nodup := by decide +kernel
    have h4 := key f.toNat (by omega) g hg
    rw [show ((f.toNat : Nat) : Int) = f by omega] at h4
    refine List.Nodup.sublist ?_ h4
    exact List.Sublist.map _ (List.range_sublist.mpr hm2)
  · obtain ⟨k, _, rfl⟩ := List.mem_map.mp hc
    unfold letAt
    have h1 := Int.emod_nonneg (f + g * (k : Int)) (show (26 : Int) ≠ 0 by decide)
    have h2 := Int.emod_lt_of_pos (f + g * (k : Int)) (show (0 : Int) < 26 by decide)
    omega
theorem rd_letters (K : PySem.W.Frag) (vs : List V) (H : Hp) (Q : VK) (E : XK) (h : spLetters vs H Q E) : t__law_letters K spDraw (spPick K) { nx := fun _ H' => Q .non H', rt := Q } (start n__law_letters vs) H := by
  obtain ⟨p, c, n, rfl, hp, hn, q⟩ := h
  refine ⟨.ref p, rfl, p, c, n, 26, rfl, hp, by omega, by decide, by decide, fun f H1 f0 f1 P1 => ?_⟩
  refine ⟨by show 2 ≤ sizeLine; decide, fun t ht => ⟨t, _, rfl, SqT.of upd_same, rfl, _, _, rfl, _, _, rfl, rfl, ?_⟩⟩
  refine ⟨.ref p, rfl, by show 12 ≤ sizeLine; decide, fun a ha => ?_⟩
  have P3 := (P1.new (o := .tup [tx abc, .int f]) ht).new (o := .lst (paces.map V.int)) ha
  refine ⟨p, c, n + 1, P3.pen, by omega, .inl ⟨a, paces.map V.int, rfl, .inl (SqL.of upd_same), by decide, by decide, fun v H4 hv P4 => ?_⟩⟩
  obtain ⟨g, hg, rfl⟩ := List.mem_map.mp hv
  replace P4 := P3.trans P4
  clear P3 P1
  refine ⟨⟨_, rfl⟩, ?_⟩
  refine ⟨.ref p, rfl, p, c, n + 1 + 1, 3, rfl, P4.pen, by omega, by decide, by decide, fun r H5 r0 r1 P5 => ?_⟩
  replace P5 := P4.trans P5
  refine ⟨_, rfl, by omega, by omega, fun D hD => ?_⟩
  have hD0 : H D = none := P5.back hD
  refine lcW walk_range (I := fun i acc H' => i ≤ 4 ∧ acc = ((List.range i).map (letAt f g)).map (fun s => tx [s]) ∧ Pn p c H (n + 3) H') (fun i acc H' o h => ⟨h.1, h.2.1, h.2.2.put hp hD0⟩) (fun _ _ _ _ _ => trivial) ⟨by decide, rfl, P5⟩ (fun i acc H' h => ?len)
    (fun i x acc H' H'' hi hI hacc y K1 K2 k1 k2 => ?step) (fun acc H' hacc hI => ?fin)
  case len =>
    rw [h.2.1, List.length_map, List.length_map, List.length_range]
    have := h.1
    omega
  case step =>
    obtain ⟨rfl, rfl⟩ := y
    obtain ⟨hi4, rfl, hP⟩ := hI
    have gb : ∀ g ∈ paces, g.natAbs < 2 ^ 200 := by decide
    refine ⟨rfl, tx abc, rfl, .int f, rfl, .int g, rfl, _, rfl, mulw (gb g hg) (by omega), by decide, by decide, _, abc_at _, ?_⟩
    refine k1 _ _ hacc ⟨by omega, ?_, hP⟩
    rw [List.range_succ, List.map_append, List.map_append, Int.zero_add]
    rfl
  case fin =>
    obtain ⟨h4, rfl, hP⟩ := hI
    refine ⟨((List.range (2 + r).toNat).map (letAt f g)).map fun s => [s], .inl (SqL.of ?_), ?_, ?_⟩
    · rw [hacc]
      simp [List.map_map, Function.comp_def]
    · rw [len_ones, List.length_map, List.length_range]
      omega
    · rw [tl_sx, wjoin1]
      exact q _ _ (letters_ok f g _ f0 f1 hg (by omega) h4) hP
/-! ## a word -/
/-- letters of L -/
def AllIn (L l : List Nat) : Prop := ∀ s ∈ l, s ∈ L
def spWord : Sp := fun vs H Q _ => ∃ (p c : Addr) (n : Nat) (L : List Nat) (m : Int), vs = [.ref p, tx L, .int m] ∧ Pen p c H n ∧ n < 2 ^ 29 ∧ 0 < L.length ∧ L.length ≤ 100 ∧ 1 ≤ m ∧ m ≤ 100 ∧
  ∀ (l : List Nat) (H' : Hp), (l.length : Int) = m → AllIn L l → Pn p c H (n + 200) H' → Q (tx l) H'
/-- "".join([pick(pen, letters) for k in range(j)]) : the place s of k, the pen's and the letters' places -/
theorem picked {K : PySem.W.Frag} {p c : Addr} {H0 : Hp} {n0 : Nat} (hp : Pen p c H0 n0) {L : List Nat} (hL : 0 < L.length) (hL2 : L.length ≤ 100000) {σ : L2.St} {ip iL s : Nat} (j : Int) (hj : 0 ≤ j) (hj2 : j ≤ 90000) {H : Hp} {n : Nat} (P : Pn p c H0 n H) (hn : n + j.toNat < 2 ^ 30)
    (e1 : ((wipe σ [s]).set s (some (V.int 0)))[ip]? = some (some (.ref p))) (e2 : ∀ z, ((wipe σ [s]).set s (some (V.int z)))[ip]? = some (some (.ref p))) (e3 : ∀ z, ((wipe σ [s]).set s (some (V.int z)))[iL]? = some (some (tx L)))
    (e4 : ∀ z, wipe ((wipe σ [s]).set s (some (V.int z))) [s] = wipe σ [s])
    {Q : V → Hp → Prop} (q : ∀ (l : List Nat) (H' : Hp), (l.length : Int) = j → AllIn L l → Pn p c H0 (n + j.toNat) H' → Q (tx l) H') :
    ∀ D, H D = none → ∃ W : Nat → Nat → Hp → Prop, (∃ m, W 0 m (upd H D (.lst []))) ∧ ∀ i m H, W i m H →
      ((Itr 0 j.toNat).stop i H ∧ rJoin K (tx []) [.ref D] H Q) ∨ ((Itr 0 j.toNat).go i H ∧ ∃ Nx : Hp → Prop, (∀ H', Nx H' → ∃ m', m' < m ∧ W (i + 1) m' H') ∧ ∀ x H', (Itr 0 j.toNat).yld i H x H' → gName s x (wipe σ [s]) H' fun σ2 H2 => wipe σ2 [s] = wipe σ [s] ∧ tYes σ2 H2 fun b H3 =>
        if b = true then tCall (spPick K) [] E0 (tCons (tVar ip) (tCons (tVar iL) tNil)) σ2 H3 fun y H4 => ∃ acc, H4 D = some (.lst acc) ∧ acc.length < sizeLine ∧ Nx (upd H4 D (.lst (acc ++ [y]))) else Nx H3) := by
  intro D hD
  have hD0 : H0 D = none := P.back hD
  refine lcW walk_range (I := fun i acc H' => i ≤ j.toNat ∧ ∃ l : List Nat, l.length = i ∧ AllIn L l ∧ acc = l.map (fun s => tx [s]) ∧ Pn p c H0 (n + i) H') (fun i acc H' o h => ⟨h.1, ?st⟩) (fun _ _ _ _ _ => trivial) ⟨Nat.zero_le _, [], rfl, ?nil, rfl, P⟩ (fun i acc H' h => ?len)
    (fun i x acc H' H'' hi hI hacc y K1 K2 k1 k2 => ?step) (fun acc H' hacc hI => ?fin)
  case st =>
    obtain ⟨_, l, h1, h2, h3, h4⟩ := h
    exact ⟨l, h1, h2, h3, h4.put hp hD0⟩
  case nil => exact fun s hs => by cases hs
  case len =>
    obtain ⟨h0, l, h1, _, rfl, _⟩ := h
    rw [List.length_map]
    omega
  case step =>
    obtain ⟨rfl, rfl⟩ := y
    obtain ⟨h0, l, h1, h2, rfl, h4⟩ := hI
    refine ⟨e4 _, .ref p, e2 _, tx L, e3 _, p, c, n + i, h4.pen, by omega, .inr ⟨L, rfl, hL, hL2, fun s' H4 hs P4 => ?_⟩⟩
    have hDp := hp.ne hD0
    refine k1 _ _ (P4.kp D _ hDp.1 hacc) ⟨by omega, l ++ [s'], by simp [h1], ?_, by simp, h4.trans P4⟩
    intro z hz
    rcases List.mem_append.mp hz with hz | hz
    · exact h2 z hz
    · rw [List.mem_singleton.mp hz]; exact hs
  case fin =>
    obtain ⟨h0, l, h1, h2, rfl, h4⟩ := hI
    refine ⟨l.map fun s => [s], .inl (SqL.of ?_), ?_, ?_⟩
    · rw [hacc]
      simp [List.map_map, Function.comp_def]
    · rw [len_ones]
      omega
    · rw [tl_sx, wjoin1]
      exact q l H' (by omega) h2 h4
theorem allIn_cut {L l : List Nat} (h : AllIn L l) (lo hi : Option Int) : AllIn L (cutL l lo hi) := fun s hs => h s (List.mem_of_mem_drop (List.mem_of_mem_take hs))
theorem allIn_app {L l m : List Nat} (h : AllIn L l) (k : AllIn L m) : AllIn L (l ++ m) := fun s hs => (List.mem_append.mp hs).elim (h s) (k s)
theorem allIn_rep {L l : List Nat} (h : AllIn L l) (n : Int) : AllIn L (repS l n) := fun s hs => by
  unfold repS at hs
  obtain ⟨x, hx, hs⟩ := List.mem_flatten.mp hs
  rw [List.eq_of_mem_replicate hx] at hs
  exact h s hs
theorem rd_word (K : PySem.W.Frag) (vs : List V) (H : Hp) (Q : VK) (E : XK) (h : spWord vs H Q E) : t__law_word K spDraw (spPick K) { nx := fun _ H' => Q .non H', rt := Q } (start n__law_word vs) H := by
  obtain ⟨p, c, n, L, m, rfl, hp, hn, l0, l1, m0, m1, q⟩ := h
  refine ⟨.ref p, rfl, p, c, n, 4, rfl, hp, by omega, by decide, by decide, fun way H1 w0 w1 P1 => ?_⟩
  refine ⟨.ref p, rfl, .int m, rfl, p, c, n + 1, m, rfl, P1.pen, by omega, by omega, by omega, fun at_ H2 a0 a1 P2 => ?_⟩
  replace P2 := P1.trans P2
  clear P1
  refine ⟨_, _, rfl, ⟨_, rfl⟩, .ref p, rfl, p, c, n + 1 + 1, 3, rfl, P2.pen, by omega, by decide, by decide, fun r H3 r0 r1 P3 => ?_⟩
  replace P3 := P2.trans P3
  clear P2
  refine ⟨_, rfl, by omega, by omega, picked (ip := 0) (iL := 1) hp l0 (by omega) (1 + r) (by omega) (by omega) P3 (by omega) rfl (fun _ => rfl) (fun _ => rfl) (fun _ => rfl) fun piece H4 hl hpc P4 => ?_⟩
  -- (piece * width)[:width]
  refine ⟨tx piece, rfl, .int m, rfl, ⟨by omega, by omega, by show piece.length ≤ 1000; omega⟩, .int m, rfl, _, rfl, ?_, ?_⟩
  · simp only [tl_sx, rep_length]
    have : m.toNat * piece.length ≤ 100 * 100 := Nat.mul_le_mul (by omega) (by omega)
    omega
  simp only [tl_sx]
  have hw : ∀ w : List Nat, w = cutL (repS piece m) none (some m) → (w.length : Int) = m ∧ AllIn L w := fun w e => by
    obtain ⟨k, rfl⟩ : ∃ k : Nat, m = k := ⟨m.toNat, by omega⟩
    rw [cutL_take] at e
    subst e
    refine ⟨?_, fun s hs => allIn_rep hpc _ s (List.mem_of_mem_take hs)⟩
    rw [List.length_take, rep_length]
    have h1 : 1 ≤ piece.length := by omega
    have h2 : k ≤ k * piece.length := Nat.le_mul_of_pos_right k h1
    simp only [Int.toNat_natCast]
    omega
  obtain ⟨w1l, w1a⟩ := hw _ rfl
  generalize cutL (repS piece m) none (some m) = word at w1l w1a
  refine ⟨.int way, rfl, rfl, _, rfl, iteD (fun hway => ?_) (fun hway => ?_)⟩
  · refine ⟨⟨_, rfl⟩, .int m, rfl, _, rfl, by omega, by omega, picked (ip := 0) (iL := 1) hp l0 (by omega) m (by omega) (by omega) P4 (by omega) rfl (fun _ => rfl) (fun _ => rfl) (fun _ => rfl) fun l H5 hl5 ha P5 => ?_⟩
    exact q l H5 hl5 ha (P5.mono (by omega))
  · refine ⟨.int way, rfl, rfl, _, rfl, iteD (fun hway => ?_) (fun hway => ?_)⟩
    · refine ⟨tx word, rfl, .int at_, rfl, _, rfl, by show word.length ≤ 100000; omega, .ref p, rfl, tx L, rfl, p, c, _, P4.pen, by omega, .inr ⟨L, rfl, l0, by omega, fun s H5 hs P5 => ?_⟩⟩
      obtain ⟨k, rfl⟩ : ∃ k : Nat, at_ = k := ⟨at_.toNat, by omega⟩
      have e1 : ((k : Int) + 1) = ((k + 1 : Nat) : Int) := by omega
      refine ⟨?_, tx word, rfl, .int k, rfl, _, rfl, by show word.length ≤ 100000; omega, ?_, ?_⟩
      · rw [tl_sx, tl_sx, tl_sx, cutL_take, List.length_take]
        simp; omega
      · rw [tl_sx, tl_sx, tl_sx, tl_sx, tl_sx, cutL_take, e1, cutL_drop]
        simp; omega
      · rw [tl_sx, tl_sx, tl_sx, tl_sx, tl_sx]
        refine q _ _ ?_ ?_ ((P4.trans P5).mono (by omega))
        · rw [cutL_take, e1, cutL_drop]
          simp; omega
        · refine allIn_app (allIn_app (allIn_cut w1a _ _) ?_) (allIn_cut w1a _ _)
          intro z hz
          rw [List.mem_singleton.mp hz]
          exact hs
    · exact ⟨tx word, rfl, q word H4 w1l w1a (P4.mono (by omega))⟩
/-! ## how many arguments -/
theorem len_draw : ∀ vs H Q E, spDraw vs H Q E → vs.length = 2 := by
  rintro _ _ _ _ ⟨_, _, _, _, rfl, _⟩; rfl
theorem len_pick (K : PySem.W.Frag) : ∀ vs H Q E, spPick K vs H Q E → vs.length = 2 := by
  rintro _ _ _ _ ⟨_, _, _, _, _, ⟨_, _, rfl, _⟩ | ⟨_, rfl, _⟩⟩ <;> rfl
theorem len_pen (K : PySem.W.Frag) : ∀ vs H Q E, spPen K vs H Q E → vs.length = 1 := by
  rintro _ _ _ _ ⟨_, _, rfl, _⟩; rfl
theorem len_letters : ∀ vs H Q E, spLetters vs H Q E → vs.length = 1 := by
  rintro _ _ _ _ ⟨_, _, _, rfl, _⟩; rfl
theorem len_word : ∀ vs H Q E, spWord vs H Q E → vs.length = 3 := by
  rintro _ _ _ _ ⟨_, _, _, _, _, rfl, _⟩; rfl
end WkA

namespace Wk03
open PySem PySem.Spec PyProof.Rows L2 Wk WkA
open TL (tl len_tl ext_tl tl_append mk_tl)
def t_fits (K : PySem.W.Frag) : TS :=
  (tSeq (tAsg (tSl (rCut K) (tVar 0) (tPart (tVar 2)) (tPart (tOp (rPlus K) (tVar 2) (tCB (rLen K) (tCons (tVar 1) tNil))))) (gName 3))
    (tRet (tCB (rAll K) (tCons (tLc (iZipG K (tCons (tVar 3) (tCons (tVar 1) tNil))) (gTup K 2 (gCons (gName 4) (gCons (gName 5) gNil))) tYes (tOrV (tOp (rEqq K) (tVar 4) (tC (tx [46]))) (tOp (rEqq K) (tVar 4) (tVar 5))) [4, 5]) tNil))))
def t_slid (K : PySem.W.Frag) : TS :=
  (tRet (tOp (rPlus K) (tSl (rCut K) (tVar 0) (tPart (tVar 1)) tNoPart) (tOp (rTimes K) (tC (tx [46])) (tCB (rMin2) (tCons (tVar 1) (tCons (tCB (rLen K) (tCons (tVar 0) tNil)) tNil))))))
def t__law_fits (K : PySem.W.Frag) : TS :=
  (tSeq (tFor (iRng1 (tCons (tCB (rLen K) (tCons (tVar 1) tNil)) tNil)) (gName 3) (tIfS (tAnd (tTest (tOp (rLess) (tOp (rPlus K) (tVar 2) (tVar 3)) (tCB (rLen K) (tCons (tVar 0) tNil)))) (tAnd (tTest (tOp (rNeq K) (tOp (rItem K) (tVar 0) (tOp (rPlus K) (tVar 2) (tVar 3))) (tC (tx [46])))) (tTest (tOp (rNeq K) (tOp (rItem K) (tVar 0) (tOp (rPlus K) (tVar 2) (tVar 3))) (tOp (rItem K) (tVar 1) (tVar 3)))))) (tRet (tC (.bl false))) tNext))
    (tRet (tC (.bl true))))
def t__law_slid (K : PySem.W.Frag) : TS :=
  (tSeq (tAsg (tC (tx [])) (gName 2))
    (tSeq (tFor (iRng1 (tCons (tCB (rLen K) (tCons (tVar 0) tNil)) tNil)) (gName 3) (tAsg (tOp (rPlus K) (tVar 2) (tIf (tTest (tOp (rLess) (tOp (rPlus K) (tVar 3) (tVar 1)) (tCB (rLen K) (tCons (tVar 0) tNil)))) (tOp (rItem K) (tVar 0) (tOp (rPlus K) (tVar 3) (tVar 1))) (tC (tx [46])))) (gName 2)))
    (tRet (tVar 2))))
def t_law (K : PySem.W.Frag) (s_fits : Sp) (s_slid : Sp) (s__law_pen : Sp) (s__law_draw : Sp) (s__law_pick : Sp) (s__law_letters : Sp) (s__law_word : Sp) (s__law_fits : Sp) (s__law_slid : Sp) : TS :=
  (tSeq (tAsg (tCall s__law_pen [] E0 (tCons (tVar 0) tNil)) (gName 1))
    (tSeq (tFor (iRng1 (tCons (tOp (rPlus K) (tC (.int 8)) (tCB (rMin2) (tCons (tC (.int 8)) (tCons (tCB (rLen K) (tCons (tVar 0) tNil)) tNil)))) tNil)) (gName 2) (tSeq (tAsg (tTup (tCons (tCall s__law_letters [] E0 (tCons (tVar 1) tNil)) (tCons (tOp (rPlus K) (tC (.int 1)) (tCall s__law_draw [] E0 (tCons (tVar 1) (tCons (tC (.int 8)) tNil)))) tNil))) (gTup K 2 (gCons (gName 3) (gCons (gName 4) gNil))))
    (tSeq (tAsg (tCall s__law_word [] E0 (tCons (tVar 1) (tCons (tVar 3) (tCons (tVar 4) tNil)))) (gName 5))
    (tSeq (tAsg (tM1 (rJoin K) (tC (tx [])) (tLc (iRng1 (tCons (tOp (rPlus K) (tVar 4) (tC (.int 1))) tNil)) (gName 12) tYes (tCall s__law_pick [] E0 (tCons (tVar 1) (tCons (tLst (tCons (tC (tx [46])) (tCons (tCall s__law_pick [] E0 (tCons (tVar 1) (tCons (tVar 3) tNil))) tNil))) tNil))) [12])) (gName 6))
    (tSeq (tAsg (tCall s__law_draw [] E0 (tCons (tVar 1) (tCons (tVar 4) tNil))) (gName 7))
    (tSeq (tAsg (tOp (rPlus K) (tOp (rPlus K) (tSl (rCut K) (tVar 6) tNoPart (tPart (tVar 7))) (tSl (rCut K) (tVar 5) tNoPart (tPart (tOp (rMinus) (tVar 4) (tVar 7))))) (tC (tx [46]))) (gName 8))
    (tFor (iAny K (tLst (tCons (tVar 6) (tCons (tVar 8) (tCons (tOp (rTimes K) (tC (tx [46])) (tOp (rPlus K) (tVar 4) (tC (.int 1)))) tNil))))) (gName 9) (tSeq (tFor (iRng1 (tCons (tOp (rPlus K) (tVar 4) (tC (.int 3))) tNil)) (gName 10) (tSeq (tIfS (tTest (tOp (rNeq K) (tCall s_fits [] E0 (tCons (tVar 9) (tCons (tVar 5) (tCons (tVar 10) tNil)))) (tCall s__law_fits [] E0 (tCons (tVar 9) (tCons (tVar 5) (tCons (tVar 10) tNil)))))) (tRet (tC (.bl false))) tNext)
    (tIfS (tTest (tOp (rNeq K) (tCall s_fits [] E0 (tCons (tVar 9) (tCons (tSl (rCut K) (tVar 5) tNoPart (tPart (tOp (rPlus K) (tC (.int 1)) (tVar 7)))) (tCons (tVar 10) tNil)))) (tCall s__law_fits [] E0 (tCons (tVar 9) (tCons (tSl (rCut K) (tVar 5) tNoPart (tPart (tOp (rPlus K) (tC (.int 1)) (tVar 7)))) (tCons (tVar 10) tNil)))))) (tRet (tC (.bl false))) tNext)))
    (tSeq (tFor (iAny K (tLst (tCons (tC (.int 1)) (tCons (tC (.int 2)) (tCons (tVar 4) (tCons (tOp (rPlus K) (tVar 4) (tC (.int 1))) (tCons (tOp (rPlus K) (tVar 4) (tC (.int 5))) (tCons (tOp (rPower) (tC (.int 10)) (tC (.int 30))) tNil)))))))) (gName 11) (tIfS (tOr (tTest (tOp (rNeq K) (tCall s_slid [] E0 (tCons (tVar 9) (tCons (tVar 11) tNil))) (tCall s__law_slid [] E0 (tCons (tVar 9) (tCons (tVar 11) tNil))))) (tTest (tOp (rNeq K) (tCB (rLen K) (tCons (tCall s_slid [] E0 (tCons (tVar 9) (tCons (tVar 11) tNil))) tNil)) (tCB (rLen K) (tCons (tVar 9) tNil))))) (tRet (tC (.bl false))) tNext))
    (tIfS (tTest (tOp (rNeq K) (tCall s_slid [] E0 (tCons (tCall s_slid [] E0 (tCons (tVar 9) (tCons (tC (.int 1)) tNil))) (tCons (tC (.int 2)) tNil))) (tCall s_slid [] E0 (tCons (tVar 9) (tCons (tC (.int 3)) tNil))))) (tRet (tC (.bl false))) tNext))))))))))
    (tRet (tC (.bl true)))))
abbrev n_fits : List Str := ["known", "word", "offset", "signs", "sign", "letter"]
abbrev n_slid : List Str := ["known", "by"]
abbrev n__law_fits : List Str := ["_law_known", "_law_word_here", "_law_offset", "_law_k"]
abbrev n__law_slid : List Str := ["_law_known", "_law_by", "_law_found", "_law_k"]
abbrev n_law : List Str := ["_law_script", "_law_pen_here", "_law_turn", "_law_letters_here", "_law_width", "_law_word_here", "_law_known", "_law_at", "_law_near", "_law_sign", "_law_offset", "_law_by", "_law_k"]
/-! ## fits -/
/-- no sign that is known there is another letter -/
def fitB (k w : List Nat) (o : Nat) : Bool := (List.range w.length).all fun i => match k[o + i]? with
  | none => true
  | some a => a == 46 || w[i]? == some a
def spFits : Sp := fun vs H Q _ => ∃ (k w : List Nat) (o : Nat), vs = [tx k, tx w, .int (o : Int)] ∧ k.length ≤ 1000 ∧ w.length ≤ 1000 ∧ ∀ H', Same H H' → Q (.bl (fitB k w o)) H'
def fitAt (s w : List Nat) (i : Nat) : Bool := s.getD i 0 == 46 || s.getD i 0 == w.getD i 0
theorem fit_eq (k w : List Nat) (o : Nat) : (List.range (min ((k.drop o).take w.length).length w.length)).all (fitAt ((k.drop o).take w.length) w) = fitB k w o := by
  unfold fitB
  rw [Bool.eq_iff_iff, List.all_eq_true, List.all_eq_true]
  have hl : ((k.drop o).take w.length).length = min w.length (k.length - o) := by simp
  have hget : ∀ i, i < w.length → ((k.drop o).take w.length)[i]? = k[o + i]? := fun i hi => by
    rw [List.getElem?_take_of_lt hi, List.getElem?_drop]
  constructor
  · intro h i hi
    have hi := List.mem_range.mp hi
    cases e : k[o + i]? with
    | none => rfl
    | some a =>
      have hlt : o + i < k.length := (List.getElem?_eq_some_iff.mp e).1
      have := h i (List.mem_range.mpr (by rw [hl]; omega))
      unfold fitAt at this
      rw [List.getD_eq_getElem?_getD, hget i hi, e, List.getD_eq_getElem?_getD, List.getElem?_eq_getElem hi] at this
      simp only [Option.getD_some, Bool.or_eq_true, beq_iff_eq] at this
      simp only [Bool.or_eq_true, beq_iff_eq, List.getElem?_eq_getElem hi, Option.some.injEq]
      rcases this with h | h
      · exact .inl h
      · exact .inr h.symm
  · intro h i hi
    have hi := List.mem_range.mp hi
    rw [hl] at hi
    have hiw : i < w.length := by omega
    have hlt : o + i < k.length := by omega
    have := h i (List.mem_range.mpr hiw)
    rw [List.getElem?_eq_getElem hlt] at this
    unfold fitAt
    rw [List.getD_eq_getElem?_getD, hget i hiw, List.getElem?_eq_getElem hlt, List.getD_eq_getElem?_getD, List.getElem?_eq_getElem hiw]
    simp only [Bool.or_eq_true, beq_iff_eq, List.getElem?_eq_getElem hiw, Option.some.injEq] at this
    simp only [Option.getD_some, Bool.or_eq_true, beq_iff_eq]
    rcases this with h | h
    · exact .inl h
    · exact .inr h.symm
theorem all_id (f : Nat → Bool) (n : Nat) : ((List.range n).map f).all id = (List.range n).all f := by
  rw [List.all_map]; rfl
theorem rd_fits (K : PySem.W.Frag) (vs : List V) (H : Hp) (Q : VK) (E : XK) (h : spFits vs H Q E) : t_fits K { nx := fun _ H' => Q .non H', rt := Q } (start n_fits vs) H := by
  obtain ⟨k, w, o, rfl, hk, hw, q⟩ := h
  refine ⟨tx k, rfl, .int o, rfl, _, rfl, .int o, rfl, tx w, rfl, by show w.length ≤ 100000; omega, _, rfl, by show k.length ≤ 100000; omega, ?_⟩
  have hs : cutL (tl (sx k)) (some (o : Int)) (some ((o : Int) + ((tl (sx w)).length : Nat))) = (k.drop o).take w.length := by
    rw [tl_sx, tl_sx, show (o : Int) + (w.length : Nat) = ((o + w.length : Nat) : Int) by omega, cutL_mid]
    rw [show o + w.length - o = w.length by omega]
  rw [hs]
  generalize hsg : (k.drop o).take w.length = sg
  have hsl : sg.length ≤ 1000 := by rw [← hsg]; simp; omega
  refine ⟨tx sg, rfl, tx w, rfl, tx sg, tx w, _, _, _, _, _, _, rfl, .text _, .text _, fun D hD => ?_⟩
  refine lcW walk_G (I := fun i acc H' => i ≤ 1000 ∧ acc = ((List.range i).map (fitAt sg w)).map V.bl ∧ ∀ b u, H b = some u → H' b = some u) (fun i acc H' u h => ⟨h.1, h.2.1, fun b u' e => by rw [upd_ne (ne_of_none e hD)]; exact h.2.2 b u' e⟩) (fun _ _ _ _ _ => ⟨trivial, trivial⟩) ⟨Nat.zero_le _, rfl, fun _ _ e => e⟩
    (fun i acc H' h => ?len) (fun i x acc H' H'' hi hI hacc y K1 K2 k1 k2 => ?step) (fun acc H' hacc hI => ?fin)
  case len => rw [h.2.1, List.length_map, List.length_map, List.length_range]; have := h.1; omega
  case step =>
    obtain ⟨T, x1, x2, rfl, hT, rfl, e1, e2⟩ := y
    obtain ⟨hi0, rfl, hI⟩ := hI
    rw [tl_sx] at e1 e2
    have hi1 : i < sg.length := by rw [tl_sx, tl_sx] at hi; omega
    have hi2 : i < w.length := by rw [tl_sx, tl_sx] at hi; omega
    dsimp only at e1 e2
    rw [List.getElem?_eq_getElem hi1] at e1
    rw [List.getElem?_eq_getElem hi2] at e2
    obtain rfl : tx [sg[i]] = x1 := Option.some.inj e1
    obtain rfl : tx [w[i]] = x2 := Option.some.inj e2
    have hDT : D ≠ T := ne_of_none hacc hT
    have back : ∀ b : Bool, b = fitAt sg w i → K1 (.bl b) (upd H' T (.tup [tx [sg[i]], tx [w[i]]])) := fun b eb => by
      refine k1 _ _ (by rw [upd_ne hDT]; exact hacc) ⟨by omega, ?_, fun b u e => by rw [upd_ne (ne_of_none (hI b u e) hT)]; exact hI b u e⟩
      rw [List.range_succ, List.map_append, List.map_append, eb]
      rfl
    refine ⟨T, _, rfl, SqT.of upd_same, rfl, _, _, rfl, _, _, rfl, rfl, rfl, ?_⟩
    have e46 : fitAt sg w i = (sg[i] == 46 || sg[i] == w[i]) := by
      unfold fitAt
      rw [List.getD_eq_getElem?_getD, List.getD_eq_getElem?_getD, List.getElem?_eq_getElem hi1, List.getElem?_eq_getElem hi2]
      rfl
    have d1 : decide (tx [sg[i]] = tx [46]) = (sg[i] == 46) := by
      rw [dec_tx, Bool.eq_iff_iff]; simp
    have d2 : decide (tx [sg[i]] = tx [w[i]]) = (sg[i] == w[i]) := by
      rw [dec_tx, Bool.eq_iff_iff]; simp
    refine ⟨_, rfl, rfl, _, rfl, iteB (fun h1 => ?_) (fun h1 => ?_)⟩
    · refine back true ?_
      rw [e46, ← d1, h1]; rfl
    · refine ⟨_, rfl, _, rfl, rfl, ?_⟩
      refine back _ ?_
      rw [e46, ← d1, h1, d2]; rfl
  case fin =>
    obtain ⟨h4, rfl, hI⟩ := hI
    refine ⟨D, _, rfl, SqL.of hacc, ?_⟩
    rw [all_id, tl_sx, tl_sx, ← hsg, fit_eq]
    exact q _ hI
def spFits2 : Sp := spFits
theorem rd_law_fits (K : PySem.W.Frag) (vs : List V) (H : Hp) (Q : VK) (E : XK) (h : spFits vs H Q E) : t__law_fits K { nx := fun _ H' => Q .non H', rt := Q } (start n__law_fits vs) H := by
  obtain ⟨k, w, o, rfl, hk, hw, q⟩ := h
  let good : Nat → Bool := fun i => match k[o + i]? with
    | none => true
    | some a => a == 46 || w[i]? == some a
  refine ⟨tx w, rfl, by show w.length ≤ 100000; omega, _, rfl, by omega, by show ((w.length : Nat) : Int) < 2 ^ 62; omega, ?_⟩
  refine for_range (lo := 0) (fun i σ H' => H' = H ∧ (∃ v, σ = [some (tx k), some (tx w), some (.int o), v]) ∧ ∀ j, j < i → good j = true) ⟨rfl, ⟨none, rfl⟩, fun j hj => absurd hj (Nat.not_lt_zero _)⟩ ?_ ?_
  · rintro i σ H' hi ⟨rfl, ⟨v, rfl⟩, hg⟩
    have hi : i < w.length := by simpa using hi
    have ei : (0 : Int) + (i : Int) = (i : Int) := Int.zero_add _
    have eo : (o : Int) + ((0 : Int) + (i : Int)) = ((o + i : Nat) : Int) := by omega
    have next : good i = true → _ := fun hgi => (⟨rfl, ⟨_, rfl⟩, fun j hj => by
      rcases Nat.lt_succ_iff_lt_or_eq.mp hj with h | h
      · exact hg j h
      · rw [h]; exact hgi⟩ : H' = H' ∧ (∃ v, [some (tx k), some (tx w), some (V.int o), some (V.int (0 + (i : Int)))] = [some (tx k), some (tx w), some (.int o), v]) ∧ ∀ j, j < i + 1 → good j = true)
    refine ⟨_, rfl, _, rfl, tx k, rfl, by show k.length ≤ 100000; omega, _, rfl, iteD (fun h1 => ?_) (fun h1 => ?_)⟩
    · rw [tl_sx] at h1
      have hok : o + i < k.length := by omega
      have hat : atI (tl (sx k)) ((o : Int) + ((0 : Int) + (i : Int))) = some k[o + i] := by
        rw [eo, tl_sx]; exact atI_nat (List.getElem?_eq_getElem hok)
      have hwt : atI (tl (sx w)) ((0 : Int) + (i : Int)) = some w[i] := by
        rw [ei, tl_sx]; exact atI_nat (List.getElem?_eq_getElem hi)
      have eg : good i = (k[o + i] == 46 || w[i]? == some k[o + i]) := by
        show (match k[o + i]? with | none => true | some a => a == 46 || w[i]? == some a) = _
        rw [List.getElem?_eq_getElem hok]
      refine ⟨_, rfl, _, rfl, _, rfl, by show k.length ≤ 100000; omega, _, hat, rfl, _, rfl, iteN (fun h2 => ?_) (fun h2 => ?_)⟩
      · refine ⟨_, rfl, _, rfl, _, rfl, by show k.length ≤ 100000; omega, _, hat, _, rfl, _, rfl, by show w.length ≤ 100000; omega, _, hwt, rfl, _, rfl, iteN (fun h3 => ?_) (fun h3 => ?_)⟩
        · -- not good
          have hb : fitB k w o = false := by
            rw [Bool.eq_false_iff]
            intro hall
            have := List.all_eq_true.mp hall i (List.mem_range.mpr hi)
            rw [show (match k[o + i]? with | none => true | some a => a == 46 || w[i]? == some a) = good i from rfl, eg] at this
            simp only [Bool.or_eq_true, beq_iff_eq, List.getElem?_eq_getElem hi, Option.some.injEq] at this
            rcases this with h | h
            · exact h2 (by rw [h])
            · exact h3 (by rw [h])
          have := q H' (Same.refl H')
          rw [hb] at this
          exact this
        · refine next ?_
          have h3 : k[o + i] = w[i] := by
            have := tx_inj.mp h3
            simpa using this
          rw [eg, List.getElem?_eq_getElem hi, ← h3]
          simp
      · refine next ?_
        have h2 : k[o + i] = 46 := by
          have := tx_inj.mp h2
          simpa using this
        rw [eg, h2]; simp
    · rw [tl_sx] at h1
      refine next ?_
      show (match k[o + i]? with | none => true | some a => a == 46 || w[i]? == some a) = true
      rw [List.getElem?_eq_none (by omega)]
  · rintro σ H' ⟨rfl, ⟨v, rfl⟩, hg⟩
    have hb : fitB k w o = true := List.all_eq_true.mpr fun j hj => hg j (by
      have := List.mem_range.mp hj
      simpa using this)
    have := q H' (Same.refl H')
    rw [hb] at this
    exact this
/-! ## slid -/
def slidL (k : List Nat) (b : Nat) : List Nat := (List.range k.length).map fun i => k.getD (i + b) 46
theorem slid_get (k : List Nat) (b i : Nat) : (slidL k b)[i]? = if i < k.length then some (k.getD (i + b) 46) else none := by
  unfold slidL
  rw [List.getElem?_map]
  by_cases h : i < k.length
  · rw [if_pos h, List.getElem?_range h]; rfl
  · rw [if_neg h, List.getElem?_eq_none (by simp; omega)]; rfl
theorem slid_len (k : List Nat) (b : Nat) : (slidL k b).length = k.length := by unfold slidL; simp
theorem slid_two (k : List Nat) : slidL (slidL k 1) 2 = slidL k 3 := by
  refine List.ext_getElem? fun i => ?_
  rw [slid_get, slid_get, slid_len]
  by_cases h : i < k.length
  · rw [if_pos h, if_pos h, List.getD_eq_getElem?_getD, slid_get]
    by_cases h2 : i + 2 < k.length
    · rw [if_pos h2]; rfl
    · rw [if_neg h2, List.getD_eq_getElem?_getD, List.getElem?_eq_none (by omega)]
  · rw [if_neg h, if_neg h]
theorem slid_eq (k : List Nat) (b : Nat) : k.drop b ++ List.replicate (min b k.length) 46 = slidL k b := by
  refine List.ext_getElem? fun i => ?_
  rw [slid_get]
  by_cases h : i < k.length - b
  · rw [List.getElem?_append_left (by simpa using h), List.getElem?_drop, if_pos (by omega), List.getD_eq_getElem?_getD, Nat.add_comm b i, List.getElem?_eq_getElem (by omega)]
    rfl
  · rw [List.getElem?_append_right (by rw [List.length_drop]; omega)]
    by_cases h2 : i < k.length
    · rw [if_pos h2, List.getElem?_replicate, if_pos (by rw [List.length_drop]; omega), List.getD_eq_getElem?_getD, List.getElem?_eq_none (by omega)]
      rfl
    · rw [if_neg h2, List.getElem?_eq_none (by rw [List.length_replicate, List.length_drop]; omega)]
def spSlid : Sp := fun vs H Q _ => ∃ (k : List Nat) (b : Nat), vs = [tx k, .int (b : Int)] ∧ k.length ≤ 900 ∧ Q (tx (slidL k b)) H
theorem rep_one (n : Int) : repS [46] n = List.replicate n.toNat 46 := by
  unfold repS
  induction n.toNat with
  | zero => rfl
  | succ m ih => rw [List.replicate_succ, List.flatten_cons, ih]; rfl
theorem rd_slid (K : PySem.W.Frag) (vs : List V) (H : Hp) (Q : VK) (E : XK) (h : spSlid vs H Q E) : t_slid K { nx := fun _ H' => Q .non H', rt := Q } (start n_slid vs) H := by
  obtain ⟨k, b, rfl, hk, q⟩ := h
  refine ⟨tx k, rfl, .int b, rfl, _, rfl, by show k.length ≤ 100000; omega, .int b, rfl, tx k, rfl, by show k.length ≤ 100000; omega, ?_⟩
  have em : (min (b : Int) ((tl (sx k)).length : Nat)).toNat = min b k.length := by
    rw [tl_sx]; omega
  refine ⟨⟨by rw [tl_sx]; omega, by rw [tl_sx]; omega, by decide⟩, ?_, ?_⟩
  · simp only [tl_sx, rep_one, cutL_drop]
    simp; omega
  · rw [rep_one, em]
    simp only [tl_sx, cutL_drop]
    rw [slid_eq]
    exact q
theorem rd_law_slid (K : PySem.W.Frag) (vs : List V) (H : Hp) (Q : VK) (E : XK) (h : spSlid vs H Q E) : t__law_slid K { nx := fun _ H' => Q .non H', rt := Q } (start n__law_slid vs) H := by
  obtain ⟨k, b, rfl, hk, q⟩ := h
  refine ⟨tx k, rfl, by show k.length ≤ 100000; omega, _, rfl, by omega, by show ((k.length : Nat) : Int) < 2 ^ 62; omega, ?_⟩
  refine for_range (lo := 0) (fun i σ H' => H' = H ∧ i ≤ k.length ∧ ∃ v, σ = [some (tx k), some (.int b), some (tx ((List.range i).map fun i => k.getD (i + b) 46)), v]) ⟨rfl, Nat.zero_le _, none, rfl⟩ ?_ ?_
  · rintro i σ H' hi ⟨rfl, h0, v, rfl⟩
    have hi : i < k.length := by simpa using hi
    have eb : (0 : Int) + (i : Int) + (b : Int) = ((i + b : Nat) : Int) := by omega
    have next : H' = H' ∧ i + 1 ≤ k.length ∧ ∃ v, [some (tx k), some (V.int b), some (tx (((List.range i).map fun i => k.getD (i + b) 46) ++ [k.getD (i + b) 46])), some (V.int (0 + (i : Int)))] = [some (tx k), some (.int b), some (tx ((List.range (i + 1)).map fun i => k.getD (i + b) 46)), v] :=
      ⟨rfl, hi, _, by rw [List.range_succ, List.map_append]; rfl⟩
    have hlen : ((List.range i).map fun i => k.getD (i + b) 46).length + 1 ≤ 100000 := by simp; omega
    refine ⟨_, rfl, _, rfl, _, rfl, tx k, rfl, by show k.length ≤ 100000; omega, _, rfl, iteD (fun h1 => ?_) (fun h1 => ?_)⟩
    · rw [tl_sx] at h1
      have hat : atI (tl (sx k)) ((0 : Int) + (i : Int) + (b : Int)) = some (k.getD (i + b) 46) := by
        rw [eb, tl_sx, List.getD_eq_getElem?_getD, List.getElem?_eq_getElem (by omega)]
        exact atI_nat (List.getElem?_eq_getElem (by omega))
      exact ⟨tx k, rfl, _, rfl, _, rfl, by show k.length ≤ 100000; omega, _, hat, hlen, next⟩
    · rw [tl_sx] at h1
      rw [show k.getD (i + b) 46 = 46 by rw [List.getD_eq_getElem?_getD, List.getElem?_eq_none (by omega)]; rfl] at next
      exact ⟨hlen, next⟩
  · rintro σ H' ⟨rfl, h0, v, rfl⟩
    refine ⟨_, rfl, ?_⟩
    have e : (((tl (sx k)).length : Nat) : Int).toNat = k.length := by simp
    rw [e]
    exact q

/-! ## the law -/
def spLaw (K : PySem.W.Frag) : Sp := fun vs H Q _ => ∃ (a : Addr) (ns : List Int), vs = [.ref a] ∧ SqL K H a (ns.map V.int) ∧ ns.length ≤ 63 ∧ ∀ H', Q (.bl true) H'
theorem same_no {v : V} {A B : Prop} (h : B) : if (!decide (v = v)) = true then A else B := by
  rw [decide_eq_true rfl, if_neg (by decide)]
  exact h
theorem rd_law (K : PySem.W.Frag) (vs : List V) (H : Hp) (Q : VK) (E : XK) (h : spLaw K vs H Q E) : t_law K spFits spSlid (spPen K) spDraw (spPick K) spLetters spWord spFits spSlid { nx := fun _ H' => Q .non H', rt := Q } (start n_law vs) H := by
  obtain ⟨a, ns, rfl, hS, hlen, q⟩ := h
  refine ⟨.ref a, rfl, a, ns, rfl, hS, hlen, fun p c H0 _ _ s0 P0 => ?_⟩
  have hS0 := s0.seq hS
  refine ⟨.ref a, rfl, _, .inl hS0, _, rfl, by omega, by rw [List.length_map]; omega, ?_⟩
  rw [List.length_map]
  generalize hN : ((8 : Int) + min 8 ((ns.length : Nat) : Int)).toNat = N
  have hN2 : N ≤ 16 := by omega
  refine for_range (lo := 0) (fun i σ H' => (∃ v2 v3 v4 v5 v6 v7 v8 v9 v10 v11 v12, σ = [some (.ref a), some (.ref p), v2, v3, v4, v5, v6, v7, v8, v9, v10, v11, v12]) ∧ Pn p c H0 (i * 1000) H') ⟨⟨_, _, _, _, _, _, _, _, _, _, _, rfl⟩, by simpa using Pn.refl P0⟩ ?_ ?_
  · rintro i σ H1 hi ⟨⟨v2, v3, v4, v5, v6, v7, v8, v9, v10, v11, v12, rfl⟩, P1⟩
    -- letters, width
    refine ⟨.ref p, rfl, p, c, _, rfl, P1.pen, by omega, fun L H2 hL P2 => ?_⟩
    obtain ⟨hL2, hL4, _, _⟩ := hL
    replace P2 := P1.trans P2
    refine ⟨.ref p, rfl, p, c, _, 8, rfl, P2.pen, by omega, by decide, by decide, fun w H3 w0 w1 P3 => ?_⟩
    replace P3 := P2.trans P3
    obtain ⟨W, hW⟩ : ∃ W : Nat, (1 : Int) + w = (W : Int) := ⟨(1 + w).toNat, by omega⟩
    have hW1 : 1 ≤ W := by omega
    have hW8 : W ≤ 8 := by omega
    refine ⟨by show 2 ≤ sizeLine; decide, fun t ht => ⟨t, _, rfl, SqT.of upd_same, rfl, _, _, rfl, _, _, rfl, rfl, ?_⟩⟩
    have P4 := P3.new (o := .tup [tx L, .int (1 + w)]) ht
    -- the word
    refine ⟨.ref p, rfl, tx L, rfl, .int (1 + w), rfl, p, c, _, L, 1 + w, rfl, P4.pen, by omega, by omega, by omega, by omega, by omega, fun word H5 hwl hwa P5 => ?_⟩
    replace P5 := P4.trans P5
    have hwl : word.length = W := by omega
    -- known
    refine ⟨⟨_, rfl⟩, .int (1 + w), rfl, _, rfl, by omega, by omega, fun D hD => ?_⟩
    have hD0 : H0 D = none := P5.back hD
    have hDp := P0.ne hD0
    refine lcW walk_range (I := fun k acc H' => k ≤ 9 ∧ ∃ l : List Nat, l.length = k ∧ acc = l.map (fun s => tx [s]) ∧ Pn p c H0 (i * 1000 + 300 + 2 * k) H') (fun k acc H' o h => ⟨h.1, ?st⟩) (fun _ _ _ _ _ => trivial) ⟨Nat.zero_le _, [], rfl, rfl, P5.mono (by omega)⟩ (fun k acc H' h => ?len)
      (fun k x acc H' H'' hk hI hacc y K1 K2 k1 k2 => ?step) (fun acc H6 hacc hI => ?fin)
    case st =>
      obtain ⟨_, l, h1, h3, h4⟩ := h
      exact ⟨l, h1, h3, h4.put P0 hD0⟩
    case len =>
      obtain ⟨h0, l, h1, rfl, _⟩ := h
      rw [List.length_map]; omega
    case step =>
      obtain ⟨rfl, rfl⟩ := y
      obtain ⟨h0, l, h1, rfl, h4⟩ := hI
      have hk9 : k < W + 1 := by omega
      refine ⟨rfl, .ref p, rfl, .ref p, rfl, tx L, rfl, p, c, _, h4.pen, by omega, .inr ⟨L, rfl, by omega, by omega, fun s H7 hs P7 => ?_⟩⟩
      have hacc7 := P7.kp D _ hDp.1 hacc
      have P7' := P7
      replace P7 := h4.trans P7
      refine ⟨by show 2 ≤ sizeLine; decide, fun b hb => ?_⟩
      have P8 := P7.new (o := .lst [tx [46], tx [s]]) hb
      refine ⟨p, c, _, P8.pen, by omega, .inl ⟨b, [tx [46], tx [s]], rfl, .inl (SqL.of upd_same), by simp, by simp, fun v H9 hv P9 => ?_⟩⟩
      obtain ⟨z, rfl⟩ : ∃ z, v = tx [z] := by
        rcases List.mem_cons.mp hv with h | h
        · exact ⟨_, h⟩
        · exact ⟨_, List.mem_singleton.mp h⟩
      refine k1 _ _ (P9.kp D _ hDp.1 (by rw [upd_ne (ne_of_none hacc7 hb)]; exact hacc7)) ⟨by omega, l ++ [z], by simp [h1], by simp, (P8.trans P9).mono (by omega)⟩
    case fin =>
      obtain ⟨h0, known, hkl, rfl, P7⟩ := hI
      refine ⟨known.map fun s => [s], .inl (SqL.of ?_), ?_, ?_⟩
      · rw [hacc]
        simp [List.map_map, Function.comp_def]
      · rw [len_ones]; omega
      rw [tl_sx, wjoin1]
      have hkl : known.length = W + 1 := by omega
      -- at, near
      refine ⟨.ref p, rfl, .int (1 + w), rfl, p, c, _, 1 + w, rfl, P7.pen, by omega, by omega, by omega, fun at_ H8 a0 a1 P8 => ?_⟩
      replace P8 := P7.trans P8
      refine ⟨tx known, rfl, .int at_, rfl, _, rfl, by show known.length ≤ 100000; omega, tx word, rfl, .int (1 + w), rfl, .int at_, rfl, _, rfl, by show word.length ≤ 100000; omega, ?_⟩
      have hcuts : ∃ k : Nat, k < W ∧ at_ = (k : Int) := ⟨at_.toNat, by omega, by omega⟩
      obtain ⟨k, hkW, rfl⟩ := hcuts
      have ek : (1 + w) - (k : Int) = ((W - k : Nat) : Int) := by omega
      simp only [ek, tl_sx, cutL_take]
      have hl1 : (known.take k).length = k := by rw [List.length_take]; omega
      have hl2 : (word.take (W - k)).length = W - k := by rw [List.length_take]; omega
      refine ⟨by simp only [tl_sx]; omega, by simp only [tl_sx, List.length_append]; simp; omega, ?_⟩
      simp only [tl_sx]
      have hnl : (known.take k ++ word.take (W - k) ++ [46]).length = W + 1 := by simp only [List.length_append, hl1, hl2]; simp; omega
      generalize known.take k ++ word.take (W - k) ++ [46] = near at hnl
      have hdl : (repS [46] (1 + w + 1)).length = W + 1 := by rw [rep_one, List.length_replicate]; omega
      refine ⟨tx known, rfl, tx near, rfl, .int (1 + w), rfl, ⟨by omega, by omega, by decide⟩, by show 3 ≤ sizeLine; decide, fun b hb => ?_⟩
      simp only [tl_sx] at hb ⊢
      generalize repS [46] (1 + w + 1) = dots at hdl hb ⊢
      have P9 := P8.new (o := .lst [tx known, tx near, tx dots]) hb
      generalize hHb : upd H8 b (.lst [tx known, tx near, tx dots]) = Hb at P9
      have hbl : Hb b = some (.lst [tx known, tx near, tx dots]) := by rw [← hHb]; exact upd_same
      refine .inl ⟨[tx known, tx near, tx dots], SqL.of hbl, for_list (D := ⟨fun σ H' => (∃ v2 v3 v4 v5 v6 v7 v8 v9 v10 v11 v12, σ = [some (.ref a), some (.ref p), v2, v3, v4, v5, v6, v7, v8, v9, v10, v11, v12]) ∧ Pn p c H0 ((i + 1) * 1000) H', Q, fun _ _ => False, fun _ _ => False⟩) (K := K) (a := b) (xs := [tx known, tx near, tx dots])
        (fun m σ H' => (∃ v9 v10 v11 v12, σ = [some (.ref a), some (.ref p), some (.int (0 + (i : Int))), some (tx L), some (.int (1 + w)), some (tx word), some (tx known), some (.int (k : Int)), some (tx near), v9, v10, v11, v12]) ∧ Same Hb H')
        ⟨⟨_, _, _, _, rfl⟩, Same.refl Hb⟩ (fun m σ H' _ h => h.2.seq (SqL.of hbl)) ?_ ?_⟩
      · rintro m x σ H' hx ⟨⟨v9, v10, v11, v12, rfl⟩, S⟩
        obtain ⟨s, rfl, hsl⟩ : ∃ s : List Nat, x = tx s ∧ s.length = W + 1 := by
          have := List.mem_of_getElem? hx
          rcases List.mem_cons.mp this with h | h
          · exact ⟨_, h, hkl⟩
          rcases List.mem_cons.mp h with h | h
          · exact ⟨_, h, hnl⟩
          · exact ⟨_, List.mem_singleton.mp h, hdl⟩
        -- fits
        refine ⟨.int (1 + w), rfl, _, rfl, by omega, by omega, for_range (lo := 0)
          (fun j σ H' => (∃ v10, σ = [some (.ref a), some (.ref p), some (.int (0 + (i : Int))), some (tx L), some (.int (1 + w)), some (tx word), some (tx known), some (.int (k : Int)), some (tx near), some (tx s), v10, v11, v12]) ∧ Same Hb H')
          ⟨⟨_, rfl⟩, S⟩ ?_ ?_⟩
        · rintro j σ H1 hj ⟨⟨v10, rfl⟩, S1⟩
          have e1 : (1 : Int) + (k : Int) = ((1 + k : Nat) : Int) := by omega
          refine ⟨tx s, rfl, tx word, rfl, _, rfl, s, word, j, by simp, by omega, by omega, fun H2 S2 => ?_⟩
          refine ⟨tx s, rfl, tx word, rfl, _, rfl, s, word, j, by simp, by omega, by omega, fun H3 S3 => ?_⟩
          refine ⟨rfl, _, rfl, same_no ?_⟩
          have hwl3 : (tl (sx word)).length ≤ 100000 := by rw [tl_sx]; omega
          have hcl : (cutL (tl (sx word)) none (some ((1 : Int) + (k : Int)))).length ≤ 1000 := by rw [tl_sx, e1, cutL_take, List.length_take]; omega
          refine ⟨tx s, rfl, tx word, rfl, .int k, rfl, _, rfl, hwl3, _, rfl, s, _, j, by simp, by omega, hcl, fun H4 S4 => ?_⟩
          refine ⟨tx s, rfl, tx word, rfl, .int k, rfl, _, rfl, hwl3, _, rfl, s, _, j, by simp, by omega, hcl, fun H5 S5 => ?_⟩
          refine ⟨rfl, _, rfl, same_no ?_⟩
          exact ⟨⟨_, rfl⟩, (((S1.trans S2).trans S3).trans S4).trans S5⟩
        · rintro σ H1 ⟨⟨v10, rfl⟩, S1⟩
          -- slid
          refine ⟨.int (1 + w), rfl, .int (1 + w), rfl, .int (1 + w), rfl, ⟨by decide, by decide, by decide⟩, by show 6 ≤ sizeLine; decide, fun d hd => ?_⟩
          have S2 : Same Hb (upd H1 d (.lst [.int 1, .int 2, .int (1 + w), .int (1 + w + 1), .int (1 + w + 5), .int (10 ^ (Int.toNat 30))])) := Same.new' S1 hd
          generalize hHd : upd H1 d (.lst [.int 1, .int 2, .int (1 + w), .int (1 + w + 1), .int (1 + w + 5), .int (10 ^ (Int.toNat 30))]) = Hd at S2
          have hdl : Hd d = some (.lst [.int 1, .int 2, .int (1 + w), .int (1 + w + 1), .int (1 + w + 5), .int (10 ^ (Int.toNat 30))]) := by rw [← hHd]; exact upd_same
          have hso : s.length ≤ 900 := by omega
          have hso2 : (tl (sx s)).length ≤ 100000 := by rw [tl_sx]; omega
          have hsl2 : ∀ b, (tl (sx (slidL s b))).length ≤ 100000 := fun b => by rw [tl_sx, slid_len]; omega
          refine .inl ⟨_, SqL.of hdl, for_list (K := K) (a := d) (xs := [.int 1, .int 2, .int (1 + w), .int (1 + w + 1), .int (1 + w + 5), .int (10 ^ (Int.toNat 30))])
            (fun j σ H' => (∃ v11, σ = [some (.ref a), some (.ref p), some (.int (0 + (i : Int))), some (tx L), some (.int (1 + w)), some (tx word), some (tx known), some (.int (k : Int)), some (tx near), some (tx s), v10, v11, v12]) ∧ Same Hd H')
            ⟨⟨_, rfl⟩, Same.refl Hd⟩ (fun j σ H' _ h => h.2.seq (SqL.of hdl)) ?_ ?_⟩
          · rintro j x σ H3 hx ⟨⟨v11, rfl⟩, S3⟩
            obtain ⟨b, rfl⟩ : ∃ b : Nat, x = .int (b : Int) := by
              have h := List.mem_of_getElem? hx
              simp only [List.mem_cons, List.not_mem_nil, or_false] at h
              rcases h with h | h | h | h | h | h
              · exact ⟨1, h⟩
              · exact ⟨2, h⟩
              · exact ⟨W, by rw [h, hW]⟩
              · exact ⟨W + 1, by rw [h, hW]; rfl⟩
              · exact ⟨W + 5, by rw [h, hW]; rfl⟩
              · exact ⟨10 ^ 30, h⟩
            refine ⟨tx s, rfl, _, rfl, s, b, rfl, hso, tx s, rfl, _, rfl, s, b, rfl, hso, rfl, _, rfl, same_no ?_⟩
            refine ⟨tx s, rfl, _, rfl, s, b, rfl, hso, hsl2 b, tx s, rfl, hso2, rfl, _, rfl, ?_⟩
            rw [tl_sx, tl_sx, slid_len]
            exact same_no ⟨⟨_, rfl⟩, S3⟩
          · rintro σ H3 ⟨⟨v11, rfl⟩, S3⟩
            refine ⟨tx s, rfl, s, 1, rfl, hso, slidL s 1, 2, rfl, by rw [slid_len]; exact hso, tx s, rfl, s, 3, rfl, hso, rfl, _, rfl, ?_⟩
            rw [slid_two]
            exact same_no ⟨⟨_, _, _, _, rfl⟩, S2.trans S3⟩
      · rintro σ H' ⟨⟨v9, v10, v11, v12, rfl⟩, S⟩
        exact ⟨⟨_, _, _, _, _, _, _, _, _, _, _, rfl⟩, (P9.then S).mono (by omega)⟩
  · rintro σ H1 ⟨⟨v2, v3, v4, v5, v6, v7, v8, v9, v10, v11, v12, rfl⟩, P1⟩
    exact q _
theorem len_fits : ∀ vs H Q E, spFits vs H Q E → vs.length = 3 := by
  rintro _ _ _ _ ⟨_, _, _, rfl, _⟩; rfl
theorem len_slid : ∀ vs H Q E, spSlid vs H Q E → vs.length = 2 := by
  rintro _ _ _ _ ⟨_, _, rfl, _⟩; rfl
theorem len_law (K : PySem.W.Frag) : ∀ vs H Q E, spLaw K vs H Q E → vs.length = 1 := by
  rintro _ _ _ _ ⟨_, _, rfl, _⟩; rfl
end Wk03

namespace Wk03
open PySem PySem.Spec PyProof.Rows L2 Wk WkA
open TL (tl len_tl ext_tl tl_append mk_tl)
def top (i : Nat) : Stmt := PySem.Challenge.pw_wordskips_k03_knowns.main.body.getD i (.Pass ⟨0, 0, 0, 0⟩)
abbrev x_fits : Stmt := top 1
theorem sc_fits : FnScope n_fits ["known", "word", "offset"] (defScope x_fits) := ⟨rfl, rfl, rfl, by decide +kernel, rfl, by decide +kernel, by decide +kernel⟩
abbrev x_slid : Stmt := top 2
theorem sc_slid : FnScope n_slid ["known", "by"] (defScope x_slid) := ⟨rfl, rfl, rfl, by decide +kernel, rfl, by decide +kernel, by decide +kernel⟩
abbrev x__law_pen : Stmt := top 4
theorem sc__law_pen : FnScope n__law_pen ["_law_script"] (defScope x__law_pen) := ⟨rfl, rfl, rfl, by decide +kernel, rfl, by decide +kernel, by decide +kernel⟩
abbrev x__law_draw : Stmt := top 5
theorem sc__law_draw : FnScope n__law_draw ["_law_pen_here", "_law_many"] (defScope x__law_draw) := ⟨rfl, rfl, rfl, by decide +kernel, rfl, by decide +kernel, by decide +kernel⟩
abbrev x__law_pick : Stmt := top 6
theorem sc__law_pick : FnScope n__law_pick ["_law_pen_here", "_law_some"] (defScope x__law_pick) := ⟨rfl, rfl, rfl, by decide +kernel, rfl, by decide +kernel, by decide +kernel⟩
abbrev x__law_letters : Stmt := top 7
theorem sc__law_letters : FnScope n__law_letters ["_law_pen_here"] (defScope x__law_letters) := ⟨rfl, rfl, rfl, by decide +kernel, rfl, by decide +kernel, by decide +kernel⟩
abbrev x__law_word : Stmt := top 8
theorem sc__law_word : FnScope n__law_word ["_law_pen_here", "_law_letters_here", "_law_width"] (defScope x__law_word) := ⟨rfl, rfl, rfl, by decide +kernel, rfl, by decide +kernel, by decide +kernel⟩
abbrev x__law_fits : Stmt := top 9
theorem sc__law_fits : FnScope n__law_fits ["_law_known", "_law_word_here", "_law_offset"] (defScope x__law_fits) := ⟨rfl, rfl, rfl, by decide +kernel, rfl, by decide +kernel, by decide +kernel⟩
abbrev x__law_slid : Stmt := top 10
theorem sc__law_slid : FnScope n__law_slid ["_law_known", "_law_by"] (defScope x__law_slid) := ⟨rfl, rfl, rfl, by decide +kernel, rfl, by decide +kernel, by decide +kernel⟩
abbrev x_law : Stmt := top 11
theorem sc_law : FnScope n_law ["_law_script"] (defScope x_law) := ⟨rfl, rfl, rfl, by decide +kernel, rfl, by decide +kernel, by decide +kernel⟩
structure Txt (K : PySem.W.Frag) (mg : Str → Option Value) : Prop where
  z_abs : mg "abs" = none
  z_all : mg "all" = none
  z_int : mg "int" = none
  z_len : mg "len" = none
  z_list : mg "list" = none
  z_min : mg "min" = none
  z_range : mg "range" = none
  z_zip : mg "zip" = none
  f_fits : Df K mg "fits" x_fits ["known", "word", "offset"]
  f_slid : Df K mg "slid" x_slid ["known", "by"]
  f__law_pen : Df K mg "_law_pen" x__law_pen ["_law_script"]
  f__law_draw : Df K mg "_law_draw" x__law_draw ["_law_pen_here", "_law_many"]
  f__law_pick : Df K mg "_law_pick" x__law_pick ["_law_pen_here", "_law_some"]
  f__law_letters : Df K mg "_law_letters" x__law_letters ["_law_pen_here"]
  f__law_word : Df K mg "_law_word" x__law_word ["_law_pen_here", "_law_letters_here", "_law_width"]
  f__law_fits : Df K mg "_law_fits" x__law_fits ["_law_known", "_law_word_here", "_law_offset"]
  f__law_slid : Df K mg "_law_slid" x__law_slid ["_law_known", "_law_by"]
  f_law : Df K mg "law" x_law ["_law_script"]
section
variable {P : Program} {w : World} {K : PySem.W.Frag} {mg : Str → Option Value} {base : Heap}
theorem w_fits (T : Txt K mg) {sp : Sp} (len : ∀ vs H Q E, sp vs H Q E → vs.length = 3)
    (rd : ∀ vs H Q E, sp vs H Q E → t_fits K { nx := fun _ H' => Q .non H', rt := Q } (start n_fits vs) H) : Cal P w K mg base "fits" ["known", "word", "offset"] 1 sp := by
  refine T.f_fits.cal sc_fits len fun f cdv A outer s H vs Q E hr h => ⟨t_fits K, ?_, rd vs H Q E h⟩
  exact (pss_cons (ps_set (i := 3) sc_fits.nd rfl (Or.inl rfl) (pe_slice sl_cut (pv 0) (po_some (pv 2)) (po_some (pe_op op_plus (pv 2) (pe_callB (call_len1) (by rfl) T.z_len (by decide +kernel) (pa_cons (pv 1) pa_nil))))))
      (pss_one (ps_ret (pe_callB (cr_all rfl) (by rfl) T.z_all (by decide +kernel) (pa_cons (pe_lc (own := [("sign", 4), ("letter", 5)]) (g := (gTup K 2 (gCons (gName 4) (gCons (gName 5) gNil)))) (tt := tYes) rfl sc_fits.nd (pi_zipG (by rfl) T.z_zip (pa_cons (pv 3) (pa_cons (pv 1) pa_nil))) (blkOk_by (own := [("sign", 4), ("letter", 5)]) (N := n_fits) (sc := defScope x_fits) (by decide +kernel)) (fun _ _ _ _ _ => (pg_tup rfl (pgs_cons (pg_name (i := 4) sc_fits.nd rfl (Or.inl rfl)) (pgs_cons (pg_name (i := 5) sc_fits.nd rfl (Or.inl rfl)) pgs_nil)))) (fun _ _ _ _ _ => pts_nil) (fun _ _ _ _ _ => (pe_or (pe_cmpR (op_eqq hr.units) (pv 4) (pe_txt (l := [46]) (by decide +kernel)) (nomark _)) (pe_one (pe_cmpR (op_eqq hr.units) (pv 4) (pv 5) (nomark _)))))) pa_nil)))))
theorem w_slid (T : Txt K mg) {sp : Sp} (len : ∀ vs H Q E, sp vs H Q E → vs.length = 2)
    (rd : ∀ vs H Q E, sp vs H Q E → t_slid K { nx := fun _ H' => Q .non H', rt := Q } (start n_slid vs) H) : Cal P w K mg base "slid" ["known", "by"] 1 sp := by
  refine T.f_slid.cal sc_slid len fun f cdv A outer s H vs Q E hr h => ⟨t_slid K, ?_, rd vs H Q E h⟩
  exact (pss_one (ps_ret (pe_op op_plus (pe_slice sl_cut (pv 0) (po_some (pv 1)) po_none) (pe_op op_times (pe_txt (l := [46]) (by decide +kernel)) (pe_callB (call_min1 rfl) (by rfl) T.z_min (by decide +kernel) (pa_cons (pv 1) (pa_cons (pe_callB (call_len1) (by rfl) T.z_len (by decide +kernel) (pa_cons (pv 0) pa_nil)) pa_nil)))))))
theorem w__law_pen (T : Txt K mg) {sp : Sp} (len : ∀ vs H Q E, sp vs H Q E → vs.length = 1)
    (rd : ∀ vs H Q E, sp vs H Q E → t__law_pen K { nx := fun _ H' => Q .non H', rt := Q } (start n__law_pen vs) H) : Cal P w K mg base "_law_pen" ["_law_script"] 1 sp := by
  refine T.f__law_pen.cal sc__law_pen len fun f cdv A outer s H vs Q E hr h => ⟨t__law_pen K, ?_, rd vs H Q E h⟩
  exact (pss_one (ps_ret (pe_disp (pps_cons (pe_txt (l := [99, 101, 108, 108, 115]) (by decide +kernel)) (pe_callTy (call_list1) (by rfl) T.z_list (by decide +kernel) (pa_cons (pe_slice sl_cut (pv 0) po_none (po_some pe_int)) pa_nil)) (pps_cons (pe_txt (l := [111, 112, 101, 110, 101, 100]) (by decide +kernel)) pe_int (pps_cons (pe_txt (l := [108, 101, 102, 116]) (by decide +kernel)) pe_int pps_nil))) (by rfl) (by rfl) (fun z => by cases z) (by decide))))
theorem w__law_draw (T : Txt K mg) {sp : Sp} (len : ∀ vs H Q E, sp vs H Q E → vs.length = 2)
    (rd : ∀ vs H Q E, sp vs H Q E → t__law_draw K { nx := fun _ H' => Q .non H', rt := Q } (start n__law_draw vs) H) : Cal P w K mg base "_law_draw" ["_law_pen_here", "_law_many"] 1 sp := by
  refine T.f__law_draw.cal sc__law_draw len fun f cdv A outer s H vs Q E hr h => ⟨t__law_draw K, ?_, rd vs H Q E h⟩
  exact (pss_cons (ps_if (pt_cmpR (op_more) (pe_dget (hu_of hr) (pv 0) (pe_txt (l := [108, 101, 102, 116]) (by decide +kernel)) (fun _ _ => rfl)) pe_int (nomark _)) (pss_cons (ps_set (i := 2) sc__law_draw.nd rfl (Or.inl rfl) (pe_op op_rest (pe_callTy (call_intM) (by rfl) T.z_int (by decide +kernel) (pa_cons (pe_dget (hu_of hr) (pv 0) (pe_txt (l := [108, 101, 102, 116]) (by decide +kernel)) (fun _ _ => rfl)) pa_nil)) (pv 1)))
      (pss_cons (ps_dput (hu_of hr) (pv 0) (pe_txt (l := [108, 101, 102, 116]) (by decide +kernel)) (pe_op op_over (pe_dget (hu_of hr) (pv 0) (pe_txt (l := [108, 101, 102, 116]) (by decide +kernel)) (fun _ _ => rfl)) (pv 1)) rfl)
      (pss_one (ps_ret (pv 2))))) pss_nil)
      (pss_cons (ps_par (i := 3) (j := 4) (by rfl) sc__law_draw.nd rfl rfl (by decide) rfl rfl (pa_cons (pe_dget (hu_of hr) (pv 0) (pe_txt (l := [111, 112, 101, 110, 101, 100]) (by decide +kernel)) (fun _ _ => rfl)) (pa_cons (pe_dget (hu_of hr) (pv 0) (pe_txt (l := [99, 101, 108, 108, 115]) (by decide +kernel)) (fun _ _ => rfl)) pa_nil)) (by rfl))
      (pss_cons (ps_dput (hu_of hr) (pv 0) (pe_txt (l := [111, 112, 101, 110, 101, 100]) (by decide +kernel)) (pe_op op_plus (pv 3) pe_int) rfl)
      (pss_cons (ps_if (pt_cmpR (op_eqq hr.units) (pv 4) (pe_lst pa_nil) (nomark _)) (pss_one (ps_ret (pe_op op_rest (pe_callTy (call_intM) (by rfl) T.z_int (by decide +kernel) (pa_cons (pe_op op_plus (pe_op op_times pe_int (pv 3)) pe_int) pa_nil)) (pv 1)))) pss_nil)
      (pss_cons (ps_set (i := 5) sc__law_draw.nd rfl (Or.inl rfl) (pe_ix ix_item (pv 4) (pe_op op_rest (pe_callTy (call_intM) (by rfl) T.z_int (by decide +kernel) (pa_cons (pv 3) pa_nil)) (pe_callB (call_len1) (by rfl) T.z_len (by decide +kernel) (pa_cons (pv 4) pa_nil))) (fun _ _ => rfl)))
      (pss_cons (ps_if (PW.pt (pw_and (pt_cmpR (op_less) (pv 3) (pe_callB (call_len1) (by rfl) T.z_len (by decide +kernel) (pa_cons (pv 4) pa_nil)) (nomark _)) (pw_and1 (pt_cmpR (op_meq) (pe_callB (call_abs1) (by rfl) T.z_abs (by decide +kernel) (pa_cons (pv 5) pa_nil)) (pe_op op_power pe_int pe_int) (nomark _))))) (pss_cons (ps_dput (hu_of hr) (pv 0) (pe_txt (l := [108, 101, 102, 116]) (by decide +kernel)) (pe_op op_over (pe_op op_minus (pe_callB (call_abs1) (by rfl) T.z_abs (by decide +kernel) (pa_cons (pv 5) pa_nil)) (pe_op op_power pe_int pe_int)) (pv 1)) rfl)
      (pss_one (ps_ret (pe_op op_rest (pe_callTy (call_intM) (by rfl) T.z_int (by decide +kernel) (pa_cons (pe_op op_minus (pe_callB (call_abs1) (by rfl) T.z_abs (by decide +kernel) (pa_cons (pv 5) pa_nil)) (pe_op op_power pe_int pe_int)) pa_nil)) (pv 1))))) pss_nil)
      (pss_cons (ps_set (i := 6) sc__law_draw.nd rfl (Or.inl rfl) (pe_op op_rest (pe_callTy (call_intM) (by rfl) T.z_int (by decide +kernel) (pa_cons (pe_op op_plus (pe_op op_plus (pe_op op_plus (pe_op op_times (pe_op op_rest (pe_callTy (call_intM) (by rfl) T.z_int (by decide +kernel) (pa_cons (pv 5) pa_nil)) pe_int) pe_int) (pe_op op_times (pe_op op_times pe_int (pv 3)) (pv 3))) (pe_op op_times pe_int (pv 3))) pe_int) pa_nil)) pe_int))
      (pss_cons (ps_set (i := 6) sc__law_draw.nd rfl (Or.inl rfl) (pe_op op_rest (pe_callTy (call_intM) (by rfl) T.z_int (by decide +kernel) (pa_cons (pe_op op_plus (pe_op op_plus (pe_op op_times (pv 6) (pv 6)) (pe_op op_times pe_int (pv 6))) (pe_op op_times pe_int (pv 3))) pa_nil)) pe_int))
      (pss_one (ps_ret (pe_op op_rest (pe_callTy (call_intM) (by rfl) T.z_int (by decide +kernel) (pa_cons (pe_op op_over (pe_op op_rest (pe_callTy (call_intM) (by rfl) T.z_int (by decide +kernel) (pa_cons (pe_op op_times (pv 6) (pe_op op_plus (pv 6) pe_int)) pa_nil)) pe_int) pe_int) pa_nil)) (pv 1))))))))))))
theorem w__law_pick (T : Txt K mg) {s__law_draw : Sp} (c__law_draw : Cal P w K mg base "_law_draw" ["_law_pen_here", "_law_many"] 1 s__law_draw) {sp : Sp} (len : ∀ vs H Q E, sp vs H Q E → vs.length = 2)
    (rd : ∀ vs H Q E, sp vs H Q E → t__law_pick K s__law_draw { nx := fun _ H' => Q .non H', rt := Q } (start n__law_pick vs) H) : Cal P w K mg base "_law_pick" ["_law_pen_here", "_law_some"] 2 sp := by
  refine T.f__law_pick.cal sc__law_pick len fun f cdv A outer s H vs Q E hr h => ⟨t__law_pick K s__law_draw, ?_, rd vs H Q E h⟩
  exact (pss_one (ps_ret (pe_ix ix_item (pv 1) (Cal.call c__law_draw (hr.mono (by decide)) rfl (pa_cons (pv 0) (pa_cons (pe_callB (call_len1) (by rfl) T.z_len (by decide +kernel) (pa_cons (pv 1) pa_nil)) pa_nil))) (fun _ _ => rfl))))
theorem w__law_letters (T : Txt K mg) {s__law_draw : Sp} (c__law_draw : Cal P w K mg base "_law_draw" ["_law_pen_here", "_law_many"] 1 s__law_draw) {s__law_pick : Sp} (c__law_pick : Cal P w K mg base "_law_pick" ["_law_pen_here", "_law_some"] 2 s__law_pick) {sp : Sp} (len : ∀ vs H Q E, sp vs H Q E → vs.length = 1)
    (rd : ∀ vs H Q E, sp vs H Q E → t__law_letters K s__law_draw s__law_pick { nx := fun _ H' => Q .non H', rt := Q } (start n__law_letters vs) H) : Cal P w K mg base "_law_letters" ["_law_pen_here"] 3 sp := by
  refine T.f__law_letters.cal sc__law_letters len fun f cdv A outer s H vs Q E hr h => ⟨t__law_letters K s__law_draw s__law_pick, ?_, rd vs H Q E h⟩
  exact (pss_cons (ps_asg (pe_tup (pa_cons (pe_txt (l := [97, 98, 99, 100, 101, 102, 103, 104, 105, 106, 107, 108, 109, 110, 111, 112, 113, 114, 115, 116, 117, 118, 119, 120, 121, 122]) (by decide +kernel)) (pa_cons (Cal.call c__law_draw (hr.mono (by decide)) rfl (pa_cons (pv 0) (pa_cons pe_int pa_nil))) pa_nil))) (pg_tup rfl (pgs_cons (pg_name (i := 1) sc__law_letters.nd rfl (Or.inr rfl)) (pgs_cons (pg_name (i := 2) sc__law_letters.nd rfl (Or.inr rfl)) pgs_nil))))
      (pss_cons (ps_set (i := 3) sc__law_letters.nd rfl (Or.inr rfl) (Cal.call c__law_pick (hr.mono (by decide)) rfl (pa_cons (pv 0) (pa_cons (pe_lst (pa_cons pe_int (pa_cons pe_int (pa_cons pe_int (pa_cons pe_int (pa_cons pe_int (pa_cons pe_int (pa_cons pe_int (pa_cons pe_int (pa_cons pe_int (pa_cons pe_int (pa_cons pe_int (pa_cons pe_int pa_nil))))))))))))) pa_nil))))
      (pss_one (ps_ret (pe_joinT (pe_txt (l := []) (by decide +kernel)) (pe_lc (own := [("_law_k", 4)]) (g := (gName 4)) (tt := tYes) rfl sc__law_letters.nd (pi_range1 rfl T.z_range (pa_cons (pe_op op_plus pe_int (Cal.call c__law_draw (hr.mono (by decide)) rfl (pa_cons (pv 0) (pa_cons pe_int pa_nil)))) pa_nil)) (blkOk_by (own := [("_law_k", 4)]) (N := n__law_letters) (sc := defScope x__law_letters) (by decide +kernel)) (fun _ _ _ _ _ => (pg_name (i := 4) sc__law_letters.nd rfl (Or.inl rfl))) (fun _ _ _ _ _ => pts_nil) (fun _ _ _ _ _ => (pe_ix ix_item (pv 1) (pe_op op_rest (pe_callTy (call_intM) (by rfl) T.z_int (by decide +kernel) (pa_cons (pe_op op_plus (pv 2) (pe_op op_times (pv 3) (pv 4))) pa_nil)) pe_int) (fun _ _ => rfl)))))))))
theorem w__law_word (T : Txt K mg) {s__law_draw : Sp} (c__law_draw : Cal P w K mg base "_law_draw" ["_law_pen_here", "_law_many"] 1 s__law_draw) {s__law_pick : Sp} (c__law_pick : Cal P w K mg base "_law_pick" ["_law_pen_here", "_law_some"] 2 s__law_pick) {sp : Sp} (len : ∀ vs H Q E, sp vs H Q E → vs.length = 3)
    (rd : ∀ vs H Q E, sp vs H Q E → t__law_word K s__law_draw s__law_pick { nx := fun _ H' => Q .non H', rt := Q } (start n__law_word vs) H) : Cal P w K mg base "_law_word" ["_law_pen_here", "_law_letters_here", "_law_width"] 3 sp := by
  refine T.f__law_word.cal sc__law_word len fun f cdv A outer s H vs Q E hr h => ⟨t__law_word K s__law_draw s__law_pick, ?_, rd vs H Q E h⟩
  exact (pss_cons (ps_par (i := 3) (j := 4) (by rfl) sc__law_word.nd rfl rfl (by decide) rfl rfl (pa_cons (Cal.call c__law_draw (hr.mono (by decide)) rfl (pa_cons (pv 0) (pa_cons pe_int pa_nil))) (pa_cons (Cal.call c__law_draw (hr.mono (by decide)) rfl (pa_cons (pv 0) (pa_cons (pv 2) pa_nil))) pa_nil)) (by rfl))
      (pss_cons (ps_set (i := 5) sc__law_word.nd rfl (Or.inl rfl) (pe_joinT (pe_txt (l := []) (by decide +kernel)) (pe_lc (own := [("_law_k", 7)]) (g := (gName 7)) (tt := tYes) rfl sc__law_word.nd (pi_range1 rfl T.z_range (pa_cons (pe_op op_plus pe_int (Cal.call c__law_draw (hr.mono (by decide)) rfl (pa_cons (pv 0) (pa_cons pe_int pa_nil)))) pa_nil)) (blkOk_by (own := [("_law_k", 7)]) (N := n__law_word) (sc := defScope x__law_word) (by decide +kernel)) (fun _ _ _ _ _ => (pg_name (i := 7) sc__law_word.nd rfl (Or.inl rfl))) (fun _ _ _ _ _ => pts_nil) (fun _ _ _ _ _ => (Cal.call c__law_pick (hr.mono (by decide)) rfl (pa_cons (pv 0) (pa_cons (pv 1) pa_nil)))))))
      (pss_cons (ps_set (i := 6) sc__law_word.nd rfl (Or.inl rfl) (pe_slice sl_cut (pe_op op_times (pv 5) (pv 2)) po_none (po_some (pv 2))))
      (pss_cons (ps_if (pt_cmpR (op_eqq hr.units) (pv 3) pe_int (nomark _)) (pss_one (ps_ret (pe_joinT (pe_txt (l := []) (by decide +kernel)) (pe_lc (own := [("_law_k", 7)]) (g := (gName 7)) (tt := tYes) rfl sc__law_word.nd (pi_range1 rfl T.z_range (pa_cons (pv 2) pa_nil)) (blkOk_by (own := [("_law_k", 7)]) (N := n__law_word) (sc := defScope x__law_word) (by decide +kernel)) (fun _ _ _ _ _ => (pg_name (i := 7) sc__law_word.nd rfl (Or.inl rfl))) (fun _ _ _ _ _ => pts_nil) (fun _ _ _ _ _ => (Cal.call c__law_pick (hr.mono (by decide)) rfl (pa_cons (pv 0) (pa_cons (pv 1) pa_nil)))))))) pss_nil)
      (pss_one (ps_ret (pe_ifExp (pt_cmpR (op_eqq hr.units) (pv 3) pe_int (nomark _)) (pe_op op_plus (pe_op op_plus (pe_slice sl_cut (pv 6) po_none (po_some (pv 4))) (Cal.call c__law_pick (hr.mono (by decide)) rfl (pa_cons (pv 0) (pa_cons (pv 1) pa_nil)))) (pe_slice sl_cut (pv 6) (po_some (pe_op op_plus (pv 4) pe_int)) po_none)) (pv 6))))))))
theorem w__law_fits (T : Txt K mg) {sp : Sp} (len : ∀ vs H Q E, sp vs H Q E → vs.length = 3)
    (rd : ∀ vs H Q E, sp vs H Q E → t__law_fits K { nx := fun _ H' => Q .non H', rt := Q } (start n__law_fits vs) H) : Cal P w K mg base "_law_fits" ["_law_known", "_law_word_here", "_law_offset"] 1 sp := by
  refine T.f__law_fits.cal sc__law_fits len fun f cdv A outer s H vs Q E hr h => ⟨t__law_fits K, ?_, rd vs H Q E h⟩
  exact (pss_cons (ps_for PassesOwn.never rfl (pi_range1 rfl T.z_range (pa_cons (pe_callB (call_len1) (by rfl) T.z_len (by decide +kernel) (pa_cons (pv 1) pa_nil)) pa_nil)) (pg_name (i := 3) sc__law_fits.nd rfl (Or.inl rfl)) (pss_one (ps_if (PW.pt (pw_and (pt_cmpR (op_less) (pe_op op_plus (pv 2) (pv 3)) (pe_callB (call_len1) (by rfl) T.z_len (by decide +kernel) (pa_cons (pv 0) pa_nil)) (nomark _)) (pw_and (pt_cmpR (op_neq hr.units) (pe_ix ix_item (pv 0) (pe_op op_plus (pv 2) (pv 3)) (fun _ _ => rfl)) (pe_txt (l := [46]) (by decide +kernel)) (nomark _)) (pw_and1 (pt_cmpR (op_neq hr.units) (pe_ix ix_item (pv 0) (pe_op op_plus (pv 2) (pv 3)) (fun _ _ => rfl)) (pe_ix ix_item (pv 1) (pv 3) (fun _ _ => rfl)) (nomark _)))))) (pss_one (ps_ret pe_bl)) pss_nil)))
      (pss_one (ps_ret pe_bl)))
theorem w__law_slid (T : Txt K mg) {sp : Sp} (len : ∀ vs H Q E, sp vs H Q E → vs.length = 2)
    (rd : ∀ vs H Q E, sp vs H Q E → t__law_slid K { nx := fun _ H' => Q .non H', rt := Q } (start n__law_slid vs) H) : Cal P w K mg base "_law_slid" ["_law_known", "_law_by"] 1 sp := by
  refine T.f__law_slid.cal sc__law_slid len fun f cdv A outer s H vs Q E hr h => ⟨t__law_slid K, ?_, rd vs H Q E h⟩
  exact (pss_cons (ps_set (i := 2) sc__law_slid.nd rfl (Or.inl rfl) (pe_txt (l := []) (by decide +kernel)))
      (pss_cons (ps_for PassesOwn.never rfl (pi_range1 rfl T.z_range (pa_cons (pe_callB (call_len1) (by rfl) T.z_len (by decide +kernel) (pa_cons (pv 0) pa_nil)) pa_nil)) (pg_name (i := 3) sc__law_slid.nd rfl (Or.inl rfl)) (pss_one (ps_set (i := 2) sc__law_slid.nd rfl (Or.inl rfl) (pe_op op_plus (pv 2) (pe_ifExp (pt_cmpR (op_less) (pe_op op_plus (pv 3) (pv 1)) (pe_callB (call_len1) (by rfl) T.z_len (by decide +kernel) (pa_cons (pv 0) pa_nil)) (nomark _)) (pe_ix ix_item (pv 0) (pe_op op_plus (pv 3) (pv 1)) (fun _ _ => rfl)) (pe_txt (l := [46]) (by decide +kernel)))))))
      (pss_one (ps_ret (pv 2)))))
theorem w_law (T : Txt K mg) {s_fits : Sp} (c_fits : ∀ base : Heap, Cal P w K mg base "fits" ["known", "word", "offset"] 1 s_fits) {s_slid : Sp} (c_slid : ∀ base : Heap, Cal P w K mg base "slid" ["known", "by"] 1 s_slid) {s__law_pen : Sp} (c__law_pen : ∀ base : Heap, Cal P w K mg base "_law_pen" ["_law_script"] 1 s__law_pen) {s__law_draw : Sp} (c__law_draw : ∀ base : Heap, Cal P w K mg base "_law_draw" ["_law_pen_here", "_law_many"] 1 s__law_draw) {s__law_pick : Sp} (c__law_pick : ∀ base : Heap, Cal P w K mg base "_law_pick" ["_law_pen_here", "_law_some"] 2 s__law_pick) {s__law_letters : Sp} (c__law_letters : ∀ base : Heap, Cal P w K mg base "_law_letters" ["_law_pen_here"] 3 s__law_letters) {s__law_word : Sp} (c__law_word : ∀ base : Heap, Cal P w K mg base "_law_word" ["_law_pen_here", "_law_letters_here", "_law_width"] 3 s__law_word) {s__law_fits : Sp} (c__law_fits : ∀ base : Heap, Cal P w K mg base "_law_fits" ["_law_known", "_law_word_here", "_law_offset"] 1 s__law_fits) {s__law_slid : Sp} (c__law_slid : ∀ base : Heap, Cal P w K mg base "_law_slid" ["_law_known", "_law_by"] 1 s__law_slid) {sp : Sp} (len : ∀ vs H Q E, sp vs H Q E → vs.length = 1)
    (rd : ∀ vs H Q E, sp vs H Q E → t_law K s_fits s_slid s__law_pen s__law_draw s__law_pick s__law_letters s__law_word s__law_fits s__law_slid { nx := fun _ H' => Q .non H', rt := Q } (start n_law vs) H) {fa : Addr} (hfa : mg "law" = some (.ref fa)) : ∃ fd : FuncData, (∀ (s : Shared) (u : Value), BindsTo s fd ⟨[u], []⟩ [("_law_script", u)]) ∧ ∀ base : Heap, K.In base → base.Ns mainGlobals mg → FnOk P w K mg base CX0 4 fa fd ["_law_script"] sp := by
  have key := T.f_law.law (P := P) (w := w) (sp := sp) (k := 3) hfa sc_law len (fun base f cdv A outer s H vs Q E hr h => by
    have c_fits := c_fits base
    have c_slid := c_slid base
    have c__law_pen := c__law_pen base
    have c__law_draw := c__law_draw base
    have c__law_pick := c__law_pick base
    have c__law_letters := c__law_letters base
    have c__law_word := c__law_word base
    have c__law_fits := c__law_fits base
    have c__law_slid := c__law_slid base
    refine ⟨t_law K s_fits s_slid s__law_pen s__law_draw s__law_pick s__law_letters s__law_word s__law_fits s__law_slid, ?_, rd vs H Q E h⟩
    exact (pss_cons (ps_set (i := 1) sc_law.nd rfl (Or.inr rfl) (Cal.call c__law_pen (hr.mono (by decide)) rfl (pa_cons (pv 0) pa_nil)))
      (pss_cons (ps_for PassesOwn.never rfl (pi_range1 rfl T.z_range (pa_cons (pe_op op_plus pe_int (pe_callB (call_min1 rfl) (by rfl) T.z_min (by decide +kernel) (pa_cons pe_int (pa_cons (pe_callB (call_len1) (by rfl) T.z_len (by decide +kernel) (pa_cons (pv 0) pa_nil)) pa_nil)))) pa_nil)) (pg_name (i := 2) sc_law.nd rfl (Or.inl rfl)) (pss_cons (ps_asg (pe_tup (pa_cons (Cal.call c__law_letters (hr.mono (by decide)) rfl (pa_cons (pv 1) pa_nil)) (pa_cons (pe_op op_plus pe_int (Cal.call c__law_draw (hr.mono (by decide)) rfl (pa_cons (pv 1) (pa_cons pe_int pa_nil)))) pa_nil))) (pg_tup rfl (pgs_cons (pg_name (i := 3) sc_law.nd rfl (Or.inr rfl)) (pgs_cons (pg_name (i := 4) sc_law.nd rfl (Or.inl rfl)) pgs_nil))))
      (pss_cons (ps_set (i := 5) sc_law.nd rfl (Or.inl rfl) (Cal.call c__law_word (hr.mono (by decide)) rfl (pa_cons (pv 1) (pa_cons (pv 3) (pa_cons (pv 4) pa_nil)))))
      (pss_cons (ps_set (i := 6) sc_law.nd rfl (Or.inl rfl) (pe_joinT (pe_txt (l := []) (by decide +kernel)) (pe_lc (own := [("_law_k", 12)]) (g := (gName 12)) (tt := tYes) rfl sc_law.nd (pi_range1 rfl T.z_range (pa_cons (pe_op op_plus (pv 4) pe_int) pa_nil)) (blkOk_by (own := [("_law_k", 12)]) (N := n_law) (sc := defScope x_law) (by decide +kernel)) (fun _ _ _ _ _ => (pg_name (i := 12) sc_law.nd rfl (Or.inl rfl))) (fun _ _ _ _ _ => pts_nil) (fun _ _ _ _ _ => (Cal.call c__law_pick (hr.mono (by decide)) rfl (pa_cons (pv 1) (pa_cons (pe_lst (pa_cons (pe_txt (l := [46]) (by decide +kernel)) (pa_cons (Cal.call c__law_pick (hr.mono (by decide)) rfl (pa_cons (pv 1) (pa_cons (pv 3) pa_nil))) pa_nil))) pa_nil)))))))
      (pss_cons (ps_set (i := 7) sc_law.nd rfl (Or.inl rfl) (Cal.call c__law_draw (hr.mono (by decide)) rfl (pa_cons (pv 1) (pa_cons (pv 4) pa_nil))))
      (pss_cons (ps_set (i := 8) sc_law.nd rfl (Or.inl rfl) (pe_op op_plus (pe_op op_plus (pe_slice sl_cut (pv 6) po_none (po_some (pv 7))) (pe_slice sl_cut (pv 5) po_none (po_some (pe_op op_minus (pv 4) (pv 7))))) (pe_txt (l := [46]) (by decide +kernel))))
      (pss_one (ps_for PassesOwn.never rfl (pi_any (pe_lst (pa_cons (pv 6) (pa_cons (pv 8) (pa_cons (pe_op op_times (pe_txt (l := [46]) (by decide +kernel)) (pe_op op_plus (pv 4) pe_int)) pa_nil))))) (pg_name (i := 9) sc_law.nd rfl (Or.inl rfl)) (pss_cons (ps_for PassesOwn.never rfl (pi_range1 rfl T.z_range (pa_cons (pe_op op_plus (pv 4) pe_int) pa_nil)) (pg_name (i := 10) sc_law.nd rfl (Or.inl rfl)) (pss_cons (ps_if (pt_cmpR (op_neq hr.units) (Cal.call c_fits (hr.mono (by decide)) rfl (pa_cons (pv 9) (pa_cons (pv 5) (pa_cons (pv 10) pa_nil)))) (Cal.call c__law_fits (hr.mono (by decide)) rfl (pa_cons (pv 9) (pa_cons (pv 5) (pa_cons (pv 10) pa_nil)))) (nomark _)) (pss_one (ps_ret pe_bl)) pss_nil)
      (pss_one (ps_if (pt_cmpR (op_neq hr.units) (Cal.call c_fits (hr.mono (by decide)) rfl (pa_cons (pv 9) (pa_cons (pe_slice sl_cut (pv 5) po_none (po_some (pe_op op_plus pe_int (pv 7)))) (pa_cons (pv 10) pa_nil)))) (Cal.call c__law_fits (hr.mono (by decide)) rfl (pa_cons (pv 9) (pa_cons (pe_slice sl_cut (pv 5) po_none (po_some (pe_op op_plus pe_int (pv 7)))) (pa_cons (pv 10) pa_nil)))) (nomark _)) (pss_one (ps_ret pe_bl)) pss_nil))))
      (pss_cons (ps_for PassesOwn.never rfl (pi_any (pe_lst (pa_cons pe_int (pa_cons pe_int (pa_cons (pv 4) (pa_cons (pe_op op_plus (pv 4) pe_int) (pa_cons (pe_op op_plus (pv 4) pe_int) (pa_cons (pe_op op_power pe_int pe_int) pa_nil)))))))) (pg_name (i := 11) sc_law.nd rfl (Or.inl rfl)) (pss_one (ps_if (PW.pt (pw_or (pt_cmpR (op_neq hr.units) (Cal.call c_slid (hr.mono (by decide)) rfl (pa_cons (pv 9) (pa_cons (pv 11) pa_nil))) (Cal.call c__law_slid (hr.mono (by decide)) rfl (pa_cons (pv 9) (pa_cons (pv 11) pa_nil))) (nomark _)) (pw_or1 (pt_cmpR (op_neq hr.units) (pe_callB (call_len1) (by rfl) T.z_len (by decide +kernel) (pa_cons (Cal.call c_slid (hr.mono (by decide)) rfl (pa_cons (pv 9) (pa_cons (pv 11) pa_nil))) pa_nil)) (pe_callB (call_len1) (by rfl) T.z_len (by decide +kernel) (pa_cons (pv 9) pa_nil)) (nomark _))))) (pss_one (ps_ret pe_bl)) pss_nil)))
      (pss_one (ps_if (pt_cmpR (op_neq hr.units) (Cal.call c_slid (hr.mono (by decide)) rfl (pa_cons (Cal.call c_slid (hr.mono (by decide)) rfl (pa_cons (pv 9) (pa_cons pe_int pa_nil))) (pa_cons pe_int pa_nil))) (Cal.call c_slid (hr.mono (by decide)) rfl (pa_cons (pv 9) (pa_cons pe_int pa_nil))) (nomark _)) (pss_one (ps_ret pe_bl)) pss_nil))))))))))))
      (pss_one (ps_ret pe_bl)))))
  obtain ⟨fd, hb, hF⟩ := key
  exact ⟨fd, fun s u => hb s [u] rfl, fun base _ _ => hF base⟩
theorem fin {fa : Addr} (hfa : mg "law" = some (.ref fa)) (T : Txt K mg) : ∃ fd : FuncData, (∀ (s : Shared) (u : Value), BindsTo s fd ⟨[u], []⟩ [("_law_script", u)]) ∧ ∀ base : Heap, K.In base → base.Ns mainGlobals mg → FnOk P w K mg base CX0 4 fa fd ["_law_script"] (spLaw K) := by
  have c_fits : ∀ base : Heap, Cal P w K mg base "fits" ["known", "word", "offset"] 1 (spFits) := fun base => w_fits T (len_fits) (rd_fits K)
  have c_slid : ∀ base : Heap, Cal P w K mg base "slid" ["known", "by"] 1 (spSlid) := fun base => w_slid T (len_slid) (rd_slid K)
  have c__law_pen : ∀ base : Heap, Cal P w K mg base "_law_pen" ["_law_script"] 1 (spPen K) := fun base => w__law_pen T (len_pen K) (rd_pen K)
  have c__law_draw : ∀ base : Heap, Cal P w K mg base "_law_draw" ["_law_pen_here", "_law_many"] 1 (spDraw) := fun base => w__law_draw T (len_draw) (rd_draw K)
  have c__law_pick : ∀ base : Heap, Cal P w K mg base "_law_pick" ["_law_pen_here", "_law_some"] 2 (spPick K) := fun base => w__law_pick T (c__law_draw base) (len_pick K) (rd_pick K)
  have c__law_letters : ∀ base : Heap, Cal P w K mg base "_law_letters" ["_law_pen_here"] 3 (spLetters) := fun base => w__law_letters T (c__law_draw base) (c__law_pick base) (len_letters) (rd_letters K)
  have c__law_word : ∀ base : Heap, Cal P w K mg base "_law_word" ["_law_pen_here", "_law_letters_here", "_law_width"] 3 (spWord) := fun base => w__law_word T (c__law_draw base) (c__law_pick base) (len_word) (rd_word K)
  have c__law_fits : ∀ base : Heap, Cal P w K mg base "_law_fits" ["_law_known", "_law_word_here", "_law_offset"] 1 (spFits) := fun base => w__law_fits T (len_fits) (rd_law_fits K)
  have c__law_slid : ∀ base : Heap, Cal P w K mg base "_law_slid" ["_law_known", "_law_by"] 1 (spSlid) := fun base => w__law_slid T (len_slid) (rd_law_slid K)
  exact w_law T c_fits c_slid c__law_pen c__law_draw c__law_pick c__law_letters c__law_word c__law_fits c__law_slid (len_law K) (rd_law K) hfa
end
end Wk03

namespace Wk03
end Wk03
open PySem PySem.W PyProof.Rows in
set_option maxRecDepth 100000 in
set_option maxHeartbeats 0 in
theorem PySem.Challenge.cw_wordskips_k03_knowns_holds : PySem.Challenge.rw_wordskips_k03_knowns.Holds := by
  w_on; o_law; k_head; (case hw => w_witness2)
  k_fill
  refine L2.walk_of (l := PySem.Challenge.rw_wordskips_k03_knowns) (n := 63) (k := 4) (x := "_law_script") (CX := fun _ => L2.CX0) (sp := fun w => Wk03.spLaw _) rfl (by decide) rfl ⟨rfl, by decide, by decide⟩ (fun w h Y => PySem.W.kIn_of Y) ?F (fun _ _ a ns hl _ hS => ⟨a, ns, rfl, hS, hl, fun _ => rfl⟩) (fun _ _ _ _ _ h => h)
  case F =>
    intro w mg fa h KX G hmg
    refine' Wk03.fin hmg ⟨?z_abs, ?z_all, ?z_int, ?z_len, ?z_list, ?z_min, ?z_range, ?z_zip, ?f_fits, ?f_slid, ?f__law_pen, ?f__law_draw, ?f__law_pick, ?f__law_letters, ?f__law_word, ?f__law_fits, ?f__law_slid, ?f_law⟩
    (case z_abs => refine PySem.W.mg_none_of KX G ?_; k_is)
    (case z_all => refine PySem.W.mg_none_of KX G ?_; k_is)
    (case z_int => refine PySem.W.mg_none_of KX G ?_; k_is)
    (case z_len => refine PySem.W.mg_none_of KX G ?_; k_is)
    (case z_list => refine PySem.W.mg_none_of KX G ?_; k_is)
    (case z_min => refine PySem.W.mg_none_of KX G ?_; k_is)
    (case z_range => refine PySem.W.mg_none_of KX G ?_; k_is)
    (case z_zip => refine PySem.W.mg_none_of KX G ?_; k_is)
    (case f_fits => refine' Wk.df_mk KX G ?a ?l ?c ?k (fun _ _ _ _ _ _ us hl => match us, hl with | [_, _, _], _ => rfl); (case a => k_is); (case l => k_is); (case c => k_is); (case k => k_is))
    (case f_slid => refine' Wk.df_mk KX G ?a ?l ?c ?k (fun _ _ _ _ _ _ us hl => match us, hl with | [_, _], _ => rfl); (case a => k_is); (case l => k_is); (case c => k_is); (case k => k_is))
    (case f__law_pen => refine' Wk.df_mk KX G ?a ?l ?c ?k (fun _ _ _ _ _ _ us hl => match us, hl with | [_], _ => rfl); (case a => k_is); (case l => k_is); (case c => k_is); (case k => k_is))
    (case f__law_draw => refine' Wk.df_mk KX G ?a ?l ?c ?k (fun _ _ _ _ _ _ us hl => match us, hl with | [_, _], _ => rfl); (case a => k_is); (case l => k_is); (case c => k_is); (case k => k_is))
    (case f__law_pick => refine' Wk.df_mk KX G ?a ?l ?c ?k (fun _ _ _ _ _ _ us hl => match us, hl with | [_, _], _ => rfl); (case a => k_is); (case l => k_is); (case c => k_is); (case k => k_is))
    (case f__law_letters => refine' Wk.df_mk KX G ?a ?l ?c ?k (fun _ _ _ _ _ _ us hl => match us, hl with | [_], _ => rfl); (case a => k_is); (case l => k_is); (case c => k_is); (case k => k_is))
    (case f__law_word => refine' Wk.df_mk KX G ?a ?l ?c ?k (fun _ _ _ _ _ _ us hl => match us, hl with | [_, _, _], _ => rfl); (case a => k_is); (case l => k_is); (case c => k_is); (case k => k_is))
    (case f__law_fits => refine' Wk.df_mk KX G ?a ?l ?c ?k (fun _ _ _ _ _ _ us hl => match us, hl with | [_, _, _], _ => rfl); (case a => k_is); (case l => k_is); (case c => k_is); (case k => k_is))
    (case f__law_slid => refine' Wk.df_mk KX G ?a ?l ?c ?k (fun _ _ _ _ _ _ us hl => match us, hl with | [_, _], _ => rfl); (case a => k_is); (case l => k_is); (case c => k_is); (case k => k_is))
    (case f_law => refine' Wk.df_mk KX G ?a ?l ?c ?k (fun _ _ _ _ _ _ us hl => match us, hl with | [_], _ => rfl); (case a => k_is); (case l => k_is); (case c => k_is); (case k => k_is))
