import PyProof.Rows.All
import Wide.All
import OpenK.AllK
import Wide.FinOn
import HandS.ForMost
import HandS.Wide
import HandS.Walk
import HandS.IsInst
import HandS.Zip
import KE.GoesZip
import KE.DataEq
import KE.GoesMore
import HandS.Strs
import HandS.Conv
import KE.GoesEnum
import HandS.Defaults
import PySem.Challenge.RW_wordskips_k01_wanted_places
set_option Elab.async false
set_option linter.all false
set_option maxRecDepth 100000
set_option maxHeartbeats 4000000
namespace Wk
open PySem PySem.Spec PyProof.Rows L2
open TL (tl len_tl ext_tl tl_append mk_tl)

/-! ## texts as lists of signs -/
abbrev sx (l : List Nat) : Str := ⟨l.toArray⟩
abbrev tx (l : List Nat) : V := .str (sx l)
theorem sx_tl (z : Str) : sx (tl z) = z := mk_tl z
theorem tl_sx (l : List Nat) : tl (sx l) = l := rfl
theorem len_sx (l : List Nat) : (sx l).length = l.length := by simp [Str.length]
theorem len_str (z : Str) : z.length = (tl z).length := len_tl z
theorem str_inj {a b : List Nat} : (sx a = sx b) ↔ a = b := ⟨fun h => by
  have := congrArg tl h
  exact this, fun h => by rw [h]⟩
theorem tx_inj {a b : List Nat} : (tx a = tx b) ↔ a = b := ⟨fun h => str_inj.mp (V.str.inj h), fun h => by rw [h]⟩
theorem dec_tx {a b : List Nat} : decide (tx a = tx b) = decide (a = b) := by
  by_cases h : a = b
  · subst h; simp
  · rw [decide_eq_false h, decide_eq_false fun q => h (tx_inj.mp q)]
theorem app_sx (a b : List Nat) : sx a ++ sx b = sx (a ++ b) := ext_tl (by rw [tl_append])
theorem sz_le {n : Nat} (h : n ≤ 100000) : n ≤ sizeLine := Nat.le_trans h (by decide)
theorem sz_lt {n : Nat} (h : n < 100000) : n < sizeLine := Nat.lt_of_lt_of_le h (by decide)

/-! ## operators on values of several kinds -/
section
variable {X : Cx}
/-- + : ints, texts, lists, tuples -/
def rPlus (K : PySem.W.Frag) : R2 := fun x y H Q => match x, y with
  | .int i, .int j => Q (.int (i + j)) H
  | .str a, .str b => (tl a).length + (tl b).length ≤ 100000 ∧ Q (tx (tl a ++ tl b)) H
  | .ref a, .ref b => (∃ xs ys, H a = some (.lst xs) ∧ H b = some (.lst ys) ∧ xs.length + ys.length ≤ 100000 ∧ ∀ p, H p = none → Q (.ref p) (upd H p (.lst (xs ++ ys)))) ∨ rCatT K x y H Q
  | _, _ => False
theorem op_plus : OpR X (binaryOp .Add) (rPlus X.K) := by
  intro pins s σ H x y v u Q I rx ry h
  cases x with
  | int i =>
    cases y with
    | int j => exact op_add pins s σ H _ _ v u Q I rx ry ⟨i, j, rfl, rfl, h⟩
    | _ => exact False.elim h
  | str a =>
    cases y with
    | str b =>
      refine op_add_str pins s σ H _ _ v u Q I rx ry ⟨a, b, rfl, rfl, ?_, ?_⟩
      · rw [len_str, len_str]; exact sz_le h.1
      · have e : a ++ b = sx (tl a ++ tl b) := ext_tl (by rw [tl_append])
        rw [e]; exact h.2
    | _ => exact False.elim h
  | ref a =>
    cases y with
    | ref b =>
      rcases h with ⟨xs, ys, h1, h2, h3, h4⟩ | h
      · exact op_cat pins s σ H _ _ v u Q I rx ry ⟨a, b, xs, ys, rfl, rfl, h1, h2, sz_le h3, h4⟩
      · exact op_catT pins s σ H _ _ v u Q I rx ry h
    | _ => exact False.elim h
  | _ => exact False.elim h
/-- a text so often -/
def repS (l : List Nat) (n : Int) : List Nat := (List.replicate n.toNat l).flatten
theorem foldl_cat : ∀ (k : Nat) (c acc : Array Nat), ((List.replicate k c).foldl (· ++ ·) acc).toList = acc.toList ++ (List.replicate k c.toList).flatten
  | 0, c, acc => by simp
  | k + 1, c, acc => by
    rw [List.replicate_succ, List.foldl_cons, foldl_cat k c (acc ++ c), List.replicate_succ, List.flatten_cons, Array.toList_append, List.append_assoc]
theorem mul_tl (a : Str) (n : Int) : Txt.mul a n = sx (repS (tl a) n) := by
  refine ext_tl ?_
  unfold Txt.mul repS
  by_cases h : n < 1
  · rw [if_pos h]
    have e : n.toNat = 0 := by omega
    rw [e]; rfl
  · rw [if_neg h]
    split
    · rename_i hc
      rw [Bool.or_eq_true, beq_iff_eq, beq_iff_eq] at hc
      rcases hc with e | e
      · subst e
        show tl a = (List.replicate (Int.toNat 1) (tl a)).flatten
        simp
      · have e2 : tl a = [] := List.eq_nil_of_length_eq_zero (by rw [← len_tl]; exact e)
        show tl a = (List.replicate n.toNat (tl a)).flatten
        rw [e2]; simp
    · show ((List.replicate n.toNat a.cps).foldl (· ++ ·) #[]).toList = _
      rw [foldl_cat]; rfl
/-- * : ints, a text and an int -/
def rTimes (K : PySem.W.Frag) : R2 := fun x y H Q => match x, y with
  | .int i, .int j => CMulW i j ∧ Q (.int (i * j)) H
  | .str a, .int n => (-1000 ≤ n ∧ n ≤ 1000 ∧ (tl a).length ≤ 1000) ∧ Q (tx (repS (tl a) n)) H
  | .ref _, .int _ => rRep x y H Q
  | _, _ => False
theorem op_times : OpR X (binaryOp .Mult) (rTimes X.K) := by
  intro pins s σ H x y v u Q I rx ry h
  cases x with
  | int i =>
    cases y with
    | int j => exact op_mulW pins s σ H _ _ v u Q I rx ry ⟨i, j, rfl, rfl, h.1, h.2⟩
    | _ => exact False.elim h
  | str a =>
    cases y with
    | int n =>
      obtain ⟨t, rfl⟩ := rx
      obtain ⟨t', rfl⟩ := ry
      obtain ⟨⟨h1, h2, h3⟩, q⟩ := h
      refine SB.mul (mulOk_of 1000 1000 (by rw [len_str]; exact h3) h2 (by omega) (by decide) (by decide)) fun t2 k => ⟨.str (Txt.mul a n), H, I.tok k, ⟨t2, rfl⟩, ?_⟩
      rw [mul_tl]; exact q
    | _ => exact False.elim h
  | ref a =>
    cases y with
    | int n => exact op_rep pins s σ H _ _ v u Q I rx ry h
    | _ => exact False.elim h
  | _ => exact False.elim h

/-- data bear no dicts -/
theorem dp_plain {K : PySem.W.Frag} {H : Hp} : ∀ (d : PyData) (v : V), Dp K H v d → d.plain = true
  | .none, _, _ => rfl
  | .bool _, _, _ => rfl
  | .int _, _, _ => rfl
  | .str _, _, _ => rfl
  | .list ds, _, h => by
    cases h with
    | lst _ ha => exact all ds _ ha
  | .tuple ds, _, h => by
    cases h with
    | tup _ ha => exact all ds _ ha
  | .dict _, _, h => by cases h
where all {K : PySem.W.Frag} {H : Hp} : ∀ (ds : List PyData) (vs : List V), DpAll K H vs ds → PyData.plainAll ds = true
  | [], _, _ => rfl
  | d :: ds, _, h => by
    cases h with
    | cons h1 h2 =>
      show (d.plain && PyData.plainAll ds) = true
      rw [dp_plain d _ h1, all ds _ h2]; rfl
/-- ==, != : what is told apart at once, or data of any depth -/
def rEqP (K : PySem.W.Frag) : R2 := fun x y H Q => ∃ d e, Dp K H x d ∧ Dp K H y e ∧ min d.depth e.depth < 64 ∧ Q (.bl (PyData.eqv d e)) H
def rNeP (K : PySem.W.Frag) : R2 := fun x y H Q => ∃ d e, Dp K H x d ∧ Dp K H y e ∧ min d.depth e.depth < 64 ∧ Q (.bl (!PyData.eqv d e)) H
theorem op_eqP (hu : X.A.units + 64 < cLine) : OpR X (compareOp .Eq) (rEqP X.K) := by
  intro pins s σ H x y v u Q I rx ry h
  obtain ⟨d, e, hd, he, sd, q⟩ := h
  obtain ⟨as, r1⟩ := Dp.reads I d x v hd rx
  obtain ⟨bs, r2⟩ := Dp.reads I e y u he ry
  exact SeqAt.eq_plain r1 r2 (dp_plain d x hd) (dp_plain e y he) (by omega) ⟨.bl _, H, I, rfl, q⟩
theorem op_neP (hu : X.A.units + 64 < cLine) : OpR X (compareOp .NotEq) (rNeP X.K) := by
  intro pins s σ H x y v u Q I rx ry h
  obtain ⟨d, e, hd, he, sd, q⟩ := h
  obtain ⟨as, r1⟩ := Dp.reads I d x v hd rx
  obtain ⟨bs, r2⟩ := Dp.reads I e y u he ry
  exact SeqAt.ne_plain r1 r2 (dp_plain d x hd) (dp_plain e y he) (by omega) ⟨.bl _, H, I, rfl, q⟩
def rEqq (K : PySem.W.Frag) : R2 := fun x y H Q => match x, y with
  | .ref _, _ => rEqP K x y H Q
  | _, .ref _ => rEqP K x y H Q
  | _, _ => scal x y = true ∧ Q (.bl (decide (x = y))) H
def rNeq (K : PySem.W.Frag) : R2 := fun x y H Q => match x, y with
  | .ref _, _ => rNeP K x y H Q
  | _, .ref _ => rNeP K x y H Q
  | _, _ => scal x y = true ∧ Q (.bl (!decide (x = y))) H
theorem op_eqq (hu : X.A.units + 64 < cLine) : OpR X (compareOp .Eq) (rEqq X.K) := by
  intro pins s σ H x y v u Q I rx ry h
  unfold rEqq at h
  split at h
  · exact op_eqP hu pins s σ H _ _ v u Q I rx ry h
  · exact op_eqP hu pins s σ H _ _ v u Q I rx ry h
  · exact op_eq pins s σ H _ _ v u Q I rx ry h
theorem op_neq (hu : X.A.units + 64 < cLine) : OpR X (compareOp .NotEq) (rNeq X.K) := by
  intro pins s σ H x y v u Q I rx ry h
  unfold rNeq at h
  split at h
  · exact op_neP hu pins s σ H _ _ v u Q I rx ry h
  · exact op_neP hu pins s σ H _ _ v u Q I rx ry h
  · exact op_ne pins s σ H _ _ v u Q I rx ry h

/-- in, not in: a text in a text (one sign), else in a list or tuple of flat things -/
def rInn (K : PySem.W.Frag) : R2 := fun x y H Q => match x, y with
  | .str a, .str z => (∃ c, tl a = [c] ∧ Q (.bl (decide (c ∈ tl z))) H) ∨ Q (.bl (!(Builtin.Str.occurrences z a 0 z.length 1).isEmpty)) H
  | _, .ref _ => rIn K false x y H Q
  | _, _ => False
def rNin (K : PySem.W.Frag) : R2 := fun x y H Q => match x, y with
  | .str a, .str z => (∃ c, tl a = [c] ∧ Q (.bl (!decide (c ∈ tl z))) H) ∨ Q (.bl (!(!(Builtin.Str.occurrences z a 0 z.length 1).isEmpty))) H
  | _, .ref _ => rIn K true x y H Q
  | _, _ => False
theorem one_sign {a : Str} {c : Nat} (h : tl a = [c]) : a = ⟨#[c]⟩ := ext_tl h
theorem op_inn : OpR X (compareOp .In) (rInn X.K) := by
  intro pins s σ H x y v u Q I rx ry h
  unfold rInn at h
  split at h
  · rcases h with ⟨c, e, q⟩ | q
    · rename_i a z
      have e2 := one_sign e
      subst e2
      exact op_in_sign pins s σ H _ _ v u Q I rx ry ⟨c, z, rfl, rfl, q⟩
    · exact op_in_str pins s σ H _ _ v u Q I rx ry ⟨_, _, rfl, rfl, q⟩
  · exact op_in_seq pins s σ H _ _ v u Q I rx ry h
  · exact False.elim h
theorem op_nin : OpR X (compareOp .NotIn) (rNin X.K) := by
  intro pins s σ H x y v u Q I rx ry h
  unfold rNin at h
  split at h
  · rcases h with ⟨c, e, q⟩ | q
    · rename_i a z
      have e2 := one_sign e
      subst e2
      exact op_notIn_sign pins s σ H _ _ v u Q I rx ry ⟨c, z, rfl, rfl, q⟩
    · exact op_notin_str pins s σ H _ _ v u Q I rx ry ⟨_, _, rfl, rfl, q⟩
  · exact op_notIn_seq pins s σ H _ _ v u Q I rx ry h
  · exact False.elim h

/-- o[i]: a text, a list, a tuple -/
def rItem (K : PySem.W.Frag) : R2 := fun x y H Q => match x, y with
  | .str z, .int i => (tl z).length ≤ 100000 ∧ ∃ c, atI (tl z) i = some c ∧ Q (tx [c]) H
  | .ref p, .int i => ∃ xs v, (SqL K H p xs ∨ SqT K H p xs) ∧ atI xs i = some v ∧ Q v H
  | _, _ => False
theorem ix_item : IxR X (rItem X.K) := by
  intro value slice pins s σ H x y v u Q I rx ry h hs
  refine ix_seq value slice pins s σ H x y v u Q I rx ry ?_ hs
  unfold rItem at h
  split at h
  · obtain ⟨h1, c, h2, h3⟩ := h
    exact .inr (.inr ⟨_, _, c, rfl, rfl, by rw [len_str]; exact sz_le h1, h2, h3⟩)
  · obtain ⟨xs, w, h1 | h1, h2, h3⟩ := h
    · exact .inl ⟨_, xs, _, w, rfl, rfl, h1, h2, h3⟩
    · exact .inr (.inl ⟨_, xs, _, w, rfl, rfl, h1, h2, h3⟩)
  · exact False.elim h

/-- o[i:j] -/
def cutL (l : List Nat) (lo hi : Option Int) : List Nat := (l.drop (HT.sIx l.length 0 lo)).take (HT.sIx l.length l.length hi - HT.sIx l.length 0 lo)
theorem cutS_eq (z : Str) (lo hi : Option Int) : cutS z lo hi = sx (cutL (tl z) lo hi) := by
  unfold cutS cutL
  rw [len_str]
def rCut (K : PySem.W.Frag) : V → Option Int → Option Int → Hp → VK → Prop := fun x lo hi H Q => match x with
  | .str z => (tl z).length ≤ 100000 ∧ Q (tx (cutL (tl z) lo hi)) H
  | .ref _ => rSlL K x lo hi H Q ∨ rSlT K x lo hi H Q
  | _ => False
theorem sl_cut : SlR X (rCut X.K) := by
  have h0 := SlR.or (X := X) sl_list sl_tup
  have h1 := SlR.or (X := X) sl_str h0
  intro pins s σ H x v vl vu lo hi sl Q I rx hsl pl pu h
  refine h1 pins s σ H x v vl vu lo hi sl Q I rx hsl pl pu ?_
  cases x with
  | str z =>
    refine .inl ⟨z, rfl, by rw [len_str]; exact sz_le h.1, ?_⟩
    rw [cutS_eq]; exact h.2
  | ref a => exact .inr h
  | _ => exact False.elim h

/-- len -/
def rLen (K : PySem.W.Frag) : List V → Hp → VK → Prop := fun xs H Q => match xs with
  | [.str z] => (tl z).length ≤ 100000 ∧ Q (.int ((tl z).length : Nat)) H
  | [.ref p] => ∃ ys, (SqL K H p ys ∨ SqT K H p ys) ∧ Q (.int (ys.length : Nat)) H
  | _ => False
theorem call_len1 : CallR X (.builtin "len") (rLen X.K) := by
  intro pins s σ H xs us Q I r h
  refine call_len pins s σ H xs us Q I r ?_
  unfold rLen at h
  split at h
  · rename_i z
    refine ⟨_, (tl z).length, rfl, ⟨by rw [len_str]; exact sz_le h.1, (len_str z).symm⟩, h.2⟩
  · obtain ⟨ys, h1 | h1, h2⟩ := h
    · exact ⟨_, _, rfl, .inl ⟨ys, h1, rfl⟩, h2⟩
    · exact ⟨_, _, rfl, .inr ⟨ys, h1, rfl⟩, h2⟩
  · exact False.elim h
/-- int of an int, a bool -/
def rInt1 : List V → Hp → VK → Prop := fun xs H Q => match xs with
  | [.int i] => Q (.int i) H
  | [.bl k] => Q (.int (if k then 1 else 0)) H
  | _ => False
theorem call_intM : CallR X (.type "int") rInt1 := by
  intro pins s σ H xs us Q I r h
  refine call_int1 pins s σ H xs us Q I r ?_
  unfold rInt1 at h
  split at h
  · exact .inl ⟨_, rfl, h⟩
  · exact .inr ⟨_, rfl, h⟩
  · exact False.elim h

/-! ## one def of the text called by another -/
structure Cal (P : Program) (w : World) (K : PySem.W.Frag) (mg : Str → Option Value) (base : Heap) (x : Str) (ps : List Str) (k : Nat) (sp : Sp) : Prop where
  ex : ∃ f fd, FnOk P w K mg base CX0 k f fd ps sp ∧ mg x = some (.ref f) ∧ PySem.W.keepIn K (.ref f) = true ∧ Binds K fd ps []
theorem Cal.call {x : Str} {ps : List Str} {k : Nat} {sp : Sp} {e : Expr} {es : List Expr} {t : TA} {p pos : Pos} (c : Cal X.prog X.w X.K X.mg X.base x ps k sp) (hr : Room k X.A) (hg : Gl X x) (ha : PA X (e :: es) t)
    (hdb : (x == ("__debug__" : Str)) = false := by decide) (he : starEach (e :: es) X.env = (false, eval e X.env) :: starEach es X.env := by rfl) (hpl : (backTo pos (starEach es X.env)).any (·.1) = false := by rfl) :
    PE X (.Call (.Name x p) (e :: es) [] pos) (tCall sp [] E0 t) := by
  obtain ⟨f, fd, F, hm, hk, hb⟩ := c.ex
  exact pe_call F hr hg hm hk hb .nil pass0 ha hdb he hpl
theorem Cal.mono {P : Program} {w : World} {K : PySem.W.Frag} {mg : Str → Option Value} {base : Heap} {x : Str} {ps : List Str} {j k : Nat} {sp : Sp} (c : Cal P w K mg base x ps j sp) (h : j ≤ k) : Cal P w K mg base x ps k sp := by
  obtain ⟨f, fd, F, r⟩ := c.ex
  exact ⟨f, fd, F.mono h, r⟩
end

/-! ## what stays as it was, all but what stands at p -/
def Kp (p : Addr) (H H' : Hp) : Prop := ∀ b o, b ≠ p → H b = some o → H' b = some o
theorem Kp.refl (p : Addr) (H : Hp) : Kp p H H := fun _ _ _ h => h
theorem Kp.trans {p : Addr} {H H1 H2 : Hp} (a : Kp p H H1) (b : Kp p H1 H2) : Kp p H H2 := fun c o n h => b c o n (a c o n h)
theorem Kp.of {p : Addr} {H H' : Hp} (s : Same H H') : Kp p H H' := fun b o _ h => s b o h
theorem Kp.new {p q : Addr} {H H' : Hp} {o : HO} (a : Kp p H H') (h : H' q = none) : Kp p H (upd H' q o) := fun b u n e => by
  rw [upd_ne (ne_of_none (a b u n e) h)]
  exact a b u n e
/-- a thing that was not there before may change -/
theorem Kp.mut {p q : Addr} {H H' : Hp} {o : HO} (a : Kp p H H') (h : H q = none) : Kp p H (upd H' q o) := fun b u n e => by
  rw [upd_ne (ne_of_none e h)]
  exact a b u n e
theorem Kp.free {p q : Addr} {H H' : Hp} (a : Kp p H H') (hp : ∃ o, H' p = some o) (h : H' q = none) : H q = none := by
  cases e : H q with
  | none => rfl
  | some o =>
    by_cases n : q = p
    · subst n
      obtain ⟨o', e'⟩ := hp
      rw [h] at e'
      cases e'
    · rw [a q o n e] at h
      cases h
theorem Same.new {H : Hp} {q : Addr} {o : HO} (h : H q = none) : Same H (upd H q o) := fun b u e => by
  rw [upd_ne (ne_of_none e h)]
  exact e
theorem Same.new' {H H' : Hp} {q : Addr} {o : HO} (a : Same H H') (h : H' q = none) : Same H (upd H' q o) := a.trans (Same.new h)
theorem Same.mut {H H' : Hp} {q : Addr} {o : HO} (a : Same H H') (h : H q = none) : Same H (upd H' q o) := fun b u e => by
  rw [upd_ne (ne_of_none e h)]
  exact a b u e

/-! ## more rules -/
section
variable {X : Cx}
/-- a written text by its signs -/
theorem pe_txt {x : Str} {l : List Nat} {j : Nat} {pos : Pos} (h : x = sx l) : PE X (.Constant (.str x) j pos) (tC (tx l)) := by
  subst h
  exact pe_str
/-- a walked thing: a text, a list, a tuple -/
def iAny (K : PySem.W.Frag) (te : TE) : TI := fun σ H R => te σ H fun x H1 => match x with
  | .str z => R (Its z) H1
  | .ref a => (∃ xs, SqL K H1 a xs ∧ R (Itl K a) H1) ∨ (∃ xs, SqT K H1 a xs ∧ R (Itt K a) H1)
  | _ => False
theorem pi_any {tg e : Expr} {te : TE} (he : PE X e te) : PI X tg e (iAny X.K te) := by
  refine ⟨fun pins s σ H R I h => ?_⟩
  refine thn (he.run pins s σ H _ I h) fun v s1 ⟨x, H1, I1, r1, q1⟩ => ?_
  cases x with
  | str z =>
    obtain ⟨t, rfl⟩ := r1
    cases ha : z.cps.all (· < 128)
    · exact wpAny_pyIter_wide ha (pi_one (tk := s1.toks) I1 _ (turn_str _ z t "str_iterator" (.inr rfl)) ⟨_, Heap.get?_push_size _ rfl, rfl, rfl⟩ q1)
    · exact wpAny_pyIter_ascii ha (pi_one (tk := s1.toks) I1 _ (turn_str _ z t "str_ascii_iterator" (.inl rfl)) ⟨_, Heap.get?_push_size _ rfl, rfl, rfl⟩ q1)
  | ref a =>
    cases r1
    rcases q1 with ⟨xs, hq, q⟩ | ⟨xs, hq, q⟩
    · obtain ⟨its, rv, p, hz⟩ := I1.list hq
      exact wpAny_pyIter_list p.isList (pi_one (tk := s1.toks) I1 _ (turn_list a _) ⟨_, Heap.get?_push_size _ rfl, rfl, rfl⟩ q)
    · obtain ⟨its, rv, p, hz⟩ := I1.tuple hq
      exact wpAny_pyIter_tuple (show s1.heap.IsTuple a its.toArray from p) (pi_one (tk := s1.toks) I1 _ (turn_tuple a _) ⟨_, Heap.get?_push_size _ rfl, rfl, rfl⟩ q)
  | _ => exact False.elim q1
/-- operators on ints, told by cases -/
def rMinus : R2 := fun x y H Q => match x, y with
  | .int i, .int j => Q (.int (i - j)) H
  | _, _ => False
theorem op_minus : OpR X (binaryOp .Sub) rMinus := by
  intro pins s σ H x y v u Q I rx ry h
  unfold rMinus at h
  split at h
  · exact op_sub pins s σ H _ _ v u Q I rx ry ⟨_, _, rfl, rfl, h⟩
  · exact False.elim h
def rRest : R2 := fun x y H Q => match x, y with
  | .int i, .int j => 0 < j ∧ Q (.int (i % j)) H
  | _, _ => False
theorem op_rest : OpR X (binaryOp .Mod) rRest := by
  intro pins s σ H x y v u Q I rx ry h
  unfold rRest at h
  split at h
  · exact op_mod pins s σ H _ _ v u Q I rx ry ⟨_, _, rfl, rfl, h⟩
  · exact False.elim h
def rOver : R2 := fun x y H Q => match x, y with
  | .int i, .int j => CDivW i j ∧ Q (.int (i / j)) H
  | _, _ => False
theorem op_over : OpR X (binaryOp .FloorDiv) rOver := by
  intro pins s σ H x y v u Q I rx ry h
  unfold rOver at h
  split at h
  · exact op_fdivW pins s σ H _ _ v u Q I rx ry ⟨_, _, rfl, rfl, h⟩
  · exact False.elim h
def rPower : R2 := fun x y H Q => match x, y with
  | .int i, .int j => CPow i j ∧ Q (.int (i ^ j.toNat)) H
  | _, _ => False
theorem op_power : OpR X (binaryOp .Pow) rPower := by
  intro pins s σ H x y v u Q I rx ry h
  unfold rPower at h
  split at h
  · exact op_pow pins s σ H _ _ v u Q I rx ry ⟨_, _, rfl, rfl, h⟩
  · exact False.elim h
def rLess : R2 := fun x y H Q => match x, y with
  | .int i, .int j => Q (.bl (decide (i < j))) H
  | _, _ => False
theorem op_less : OpR X (compareOp .Lt) rLess := by
  intro pins s σ H x y v u Q I rx ry h
  unfold rLess at h
  split at h
  · exact op_lt pins s σ H _ _ v u Q I rx ry ⟨_, _, rfl, rfl, h⟩
  · exact False.elim h
def rLeq : R2 := fun x y H Q => match x, y with
  | .int i, .int j => Q (.bl (decide (i ≤ j))) H
  | _, _ => False
theorem op_leq : OpR X (compareOp .LtE) rLeq := by
  intro pins s σ H x y v u Q I rx ry h
  unfold rLeq at h
  split at h
  · exact op_le pins s σ H _ _ v u Q I rx ry ⟨_, _, rfl, rfl, h⟩
  · exact False.elim h
def rMore : R2 := fun x y H Q => match x, y with
  | .int i, .int j => Q (.bl (decide (j < i))) H
  | _, _ => False
theorem op_more : OpR X (compareOp .Gt) rMore := by
  intro pins s σ H x y v u Q I rx ry h
  unfold rMore at h
  split at h
  · exact op_gt pins s σ H _ _ v u Q I rx ry ⟨_, _, rfl, rfl, h⟩
  · exact False.elim h
def rMeq : R2 := fun x y H Q => match x, y with
  | .int i, .int j => Q (.bl (decide (j ≤ i))) H
  | _, _ => False
theorem op_meq : OpR X (compareOp .GtE) rMeq := by
  intro pins s σ H x y v u Q I rx ry h
  unfold rMeq at h
  split at h
  · exact op_ge pins s σ H _ _ v u Q I rx ry ⟨_, _, rfl, rfl, h⟩
  · exact False.elim h
def rNeg : V → Hp → VK → Prop := fun x H Q => match x with
  | .int i => Q (.int (-i)) H
  | _ => False
theorem un_minus : UnR X (unaryOp .USub) rNeg := by
  intro pins s σ H x v Q I rx h
  unfold rNeg at h
  split at h
  · exact un_neg pins s σ H _ v Q I rx ⟨_, rfl, h⟩
  · exact False.elim h
def rAbs : List V → Hp → VK → Prop := fun xs H Q => match xs with
  | [.int i] => Q (.int (if i < 0 then -i else i)) H
  | _ => False
theorem call_abs1 : CallR X (.builtin "abs") rAbs := by
  intro pins s σ H xs us Q I r h
  unfold rAbs at h
  split at h
  · exact call_abs pins s σ H _ us Q I r ⟨_, rfl, h⟩
  · exact False.elim h
def rMin2 : List V → Hp → VK → Prop := fun xs H Q => match xs with
  | [.int i, .int j] => Q (.int (min i j)) H
  | _ => False
theorem call_min1 (hc : X.calm = true) : CallR X (.builtin "min") rMin2 := by
  intro pins s σ H xs us Q I r h
  unfold rMin2 at h
  split at h
  · rename_i i j
    refine call_min2 hc pins s σ H _ us Q I r ⟨_, _, rfl, ?_⟩
    rw [show (if j < i then j else i) = min i j by split <;> omega]
    exact h
  · exact False.elim h
/-- the truth of a value -/
def tTruth (K : PySem.W.Frag) (te : TE) : TT := fun σ H Q => te σ H fun x H' => match x with
  | .bl b => Q b H'
  | .int i => Q (i != 0) H'
  | _ => ∃ k, TruV K x H' k ∧ Q k H'
theorem pt_tru {e : Expr} {te : TE} (ha : PE X e te) (he : ∀ whole, isTrue e X.env whole = (do let v ← whole; standAt e.pos; holding [v] (truthy v))) : PT X e (tTruth X.K te) := by
  refine ⟨fun pins s σ H Q I h => ?_⟩
  refine isTrue_plain (thn (ha.run pins s σ H _ I h) fun v s1 ⟨x, H1, I1, r1, q1⟩ => tru_ok pins s1 σ H1 x v Q I1 r1 ?_) (he _)
  cases x with
  | bl b => exact ⟨b, rfl, q1⟩
  | int i => exact ⟨_, rfl, q1⟩
  | _ => exact q1
end
/-! ## the defs of the text -/
def Df (K : PySem.W.Frag) (mg : Str → Option Value) (x : Str) (st : Stmt) (ps : List Str) : Prop :=
  ∃ f fd, Fun K x x st f fd ∧ mg x = some (.ref f) ∧ ∀ us : List Value, us.length = ps.length → bindArgs fd ⟨us, []⟩ = pure (ps.zip us)
theorem df_mk {K : PySem.W.Frag} {h : Heap} {mg : Str → Option Value} {x : Str} {st : Stmt} {ps : List Str} {f : Addr} {oc : Value} {od an : Option Addr} {osl : Array (Option Value)} {kV doc pm cdv ct : Value}
    (X : K.In h) (G : h.Ns mainGlobals mg) (a : PySem.W.nsIn K mainGlobals x = some (some (.ref f)))
    (l : K.lookup f = some ⟨oc, od, .func (PySem.W.fnOf x x (defArgs st) (defBody st) (defScope st) .none kV doc pm an cdv ct), osl⟩) (c : PySem.W.codeIn K cdv x = true) (k : PySem.W.keepIn K (.ref f) = true)
    (hb : ∀ (kV doc pm : Value) (an : Option Addr) (cdv ct : Value) (us : List Value), us.length = ps.length → bindArgs (PySem.W.fnOf x x (defArgs st) (defBody st) (defScope st) .none kV doc pm an cdv ct) ⟨us, []⟩ = pure (ps.zip us)) :
    Df K mg x st ps := ⟨f, _, fun_mk (st := st) l c k, PySem.W.mg_of X G a, hb kV doc pm an cdv ct⟩
theorem Df.cal {P : Program} {w : World} {K : PySem.W.Frag} {mg : Str → Option Value} {base : Heap} {x : Str} {st : Stmt} {ps N : List Str} {k : Nat} {sp : Sp} (D : Df K mg x st ps) (S : FnScope N ps (defScope st))
    (len : ∀ vs H Q E, sp vs H Q E → vs.length = ps.length)
    (hbody : ∀ (f : Addr) (cdv : Value) (A : Around) (outer : List Env) (s : Shared) (H : Hp) (vs : List V) (Q : VK) (E : XK), Room k (A.deeper (envOfC x (defScope st) s.heap.objs.size f cdv)) → sp vs H Q E →
      ∃ t, PSs (cxOf CX0 P w K mg base N x (defScope st) f cdv A outer s H E).nox (defBody st) t ∧ t { nx := fun _ H' => Q .non H', rt := Q } (start N vs) H) : Cal P w K mg base x ps (k + 1) sp := by
  obtain ⟨f, fd, F, hm, hb⟩ := D
  exact ⟨f, fd, F.ok S len (hbody f), hm, F.kp, .all hb⟩
/-! ## more of built-ins -/
section
variable {X : Cx}
def rList1 (K : PySem.W.Frag) : List V → Hp → VK → Prop := fun xs H Q => match xs with
  | [.ref p] => ∃ ys, (SqL K H p ys ∨ SqT K H p ys) ∧ ∀ l, H l = none → Q (.ref l) (upd H l (.lst ys))
  | _ => False
theorem call_list1 : CallR X (.type "list") (rList1 X.K) := by
  intro pins s σ H xs us Q I r h
  unfold rList1 at h
  split at h
  · obtain ⟨ys, h1, h2⟩ := h
    exact call_list_of pins s σ H _ us Q I r ⟨_, ys, rfl, h1, h2⟩
  · exact False.elim h
/-- sep.join(texts) -/
def joinL (a : List Nat) : List (List Nat) → List Nat
  | [] => []
  | [x] => x
  | x :: y :: r => x ++ (a ++ joinL a (y :: r))
def rJoin (K : PySem.W.Frag) : V → List V → Hp → VK → Prop := fun x xs H Q => match x, xs with
  | .str a, [.ref p] => ∃ ys : List (List Nat), (SqL K H p (ys.map tx) ∨ SqT K H p (ys.map tx)) ∧ (ys.map List.length).sum + ys.length * (tl a).length ≤ 100000 ∧ Q (tx (joinL (tl a) ys)) H
  | _, _ => False
theorem foldl_join (a : Array Nat) : ∀ (r : List Str) (acc : Array Nat), (r.foldl (fun acc p => acc ++ a ++ p.cps) acc).toList = acc.toList ++ (r.map fun p => a.toList ++ p.cps.toList).flatten
  | [], acc => by simp
  | x :: r, acc => by
    rw [List.foldl_cons, foldl_join a r]
    simp
theorem joinL_cons (a x : List Nat) : ∀ r : List (List Nat), joinL a (x :: r) = x ++ (r.map fun p => a ++ p).flatten
  | [] => by simp [joinL]
  | y :: r => by
    rw [joinL, joinL_cons a y r]
    simp
theorem join_eq (a : Str) (ys : List (List Nat)) : Txt.join a (ys.map sx) = sx (joinL (tl a) ys) := by
  refine ext_tl ?_
  cases ys with
  | nil => rfl
  | cons x r =>
    rw [joinL_cons]
    show ((((x :: r).map sx).drop 1).foldl (fun acc p => acc ++ a.cps ++ p.cps) (((x :: r).map sx).headD Str.empty).cps).toList = _
    rw [foldl_join]
    simp [List.map_map, Function.comp_def]
theorem mt_joinT : MtR X "str.join" (rJoin X.K) := by
  intro pins s σ H x xs v us Q I rx rs h
  unfold rJoin at h
  split at h
  · rename_i a p
    obtain ⟨ys, h1, h2, h3⟩ := h
    refine mt_join pins s σ H _ _ v us Q I rx rs ⟨a, p, ys.map sx, rfl, rfl, ?_, ?_, ?_⟩
    · rw [List.map_map]; exact h1
    · rw [List.map_map, List.length_map, len_str a]
      have e : (fun x : Str => x.length) ∘ sx = List.length := by
        funext l; exact len_sx l
      rw [show ((fun (x : Str) => x.length) ∘ sx) = List.length from e]
      exact Nat.le_trans h2 (by decide)
    · rw [join_eq]; exact h3
  · exact False.elim h
theorem pe_joinT {o e : Expr} {to te : TE} {apos pos : Pos} (ho : PE X o to) (he : PE X e te) (hs : starEach [e] X.env = [(false, eval e X.env)] := by rfl) (hbase : attributeBase o "join" X.env (eval o X.env) = eval o X.env := by rfl) (hline : (apos.endLine == pos.line) = true := by rfl) :
    PE X (.Call (.Attribute o "join" apos) [e] [] pos) (tM1 (rJoin X.K) to te) := pe_m1 PySem.F.slot_str_join PySem.F.type_str_join mt_joinT ho he hs hbase hline
end
/-! ## tests whose answer is open -/
theorem iteB {b : Bool} {A B : Prop} (h1 : b = true → A) (h2 : b = false → B) : if b = true then A else B := by
  cases b with
  | true => rw [if_pos rfl]; exact h1 rfl
  | false => rw [if_neg Bool.false_ne_true]; exact h2 rfl
theorem iteD {c : Prop} [Decidable c] {A B : Prop} (h1 : c → A) (h2 : ¬ c → B) : if decide c = true then A else B := by
  by_cases h : c
  · rw [if_pos (decide_eq_true h)]; exact h1 h
  · rw [if_neg (fun q => h (of_decide_eq_true q))]; exact h2 h
theorem iteN {c : Prop} [Decidable c] {A B : Prop} (h1 : ¬ c → A) (h2 : c → B) : if (!decide c) = true then A else B := by
  by_cases h : c
  · rw [decide_eq_true h]; exact h2 h
  · rw [decide_eq_false h]; exact h1 h
/-! ## equal data -/
/-- no truth values and no dicts within: data are equal where they are the same -/
def noB : PyData → Bool
  | .none => true
  | .bool _ => false
  | .int _ => true
  | .str _ => true
  | .list xs => all xs
  | .tuple xs => all xs
  | .dict _ => false
where all : List PyData → Bool
  | [] => true
  | x :: xs => noB x && all xs
theorem eqv_noB : ∀ (d e : PyData), noB d = true → noB e = true → (PyData.eqv d e = true ↔ d = e)
  | .none, e, _, h => by cases e <;> simp_all [noB, PyData.eqv]
  | .bool _, e, h, _ => by simp [noB] at h
  | .int i, e, _, h => by cases e <;> simp_all [noB, PyData.eqv]
  | .str i, e, _, h => by cases e <;> simp_all [noB, PyData.eqv]
  | .list xs, e, h1, h => by
    cases e with
    | list ys =>
      have := all xs ys h1 h
      rw [PyData.eqv, this]
      exact ⟨fun q => by rw [q], fun q => by injection q⟩
    | _ => simp_all [noB, PyData.eqv]
  | .tuple xs, e, h1, h => by
    cases e with
    | tuple ys =>
      have := all xs ys h1 h
      rw [PyData.eqv, this]
      exact ⟨fun q => by rw [q], fun q => by injection q⟩
    | _ => simp_all [noB, PyData.eqv]
  | .dict _, e, h, _ => by simp [noB] at h
where all : ∀ (ds es : List PyData), noB.all ds = true → noB.all es = true → (PyData.eqvAll ds es = true ↔ ds = es)
  | [], [], _, _ => by simp [PyData.eqvAll]
  | [], _ :: _, _, _ => by simp [PyData.eqvAll]
  | _ :: _, [], _, _ => by simp [PyData.eqvAll]
  | d :: ds, e :: es, h1, h2 => by
    rw [noB.all, Bool.and_eq_true] at h1 h2
    rw [PyData.eqvAll, Bool.and_eq_true, eqv_noB d e h1.1 h2.1, all ds es h1.2 h2.2]
    simp
theorem eqv_self (d : PyData) (h : noB d = true) : PyData.eqv d d = true := (eqv_noB d d h h).mpr rfl
theorem depth_flat : ∀ ds : List PyData, (∀ d ∈ ds, d.depth = 0) → PyData.depthAll ds = 0
  | [], _ => by rw [PyData.depthAll]
  | d :: ds, h => by
    rw [PyData.depthAll, h d List.mem_cons_self, depth_flat ds fun e he => h e (List.mem_cons_of_mem _ he)]; rfl
theorem noB_ints : ∀ ns : List Int, noB.all (ns.map PyData.int) = true
  | [] => rfl
  | n :: r => by
    show (noB (.int n) && noB.all (r.map PyData.int)) = true
    rw [noB_ints r]; rfl
theorem depth_ints (ns : List Int) : PyData.depthAll (ns.map PyData.int) = 0 := depth_flat _ fun d hd => by
  obtain ⟨n, _, rfl⟩ := List.mem_map.mp hd
  simp [PyData.depth]
theorem dp_ints {K : PySem.W.Frag} {H : Hp} : ∀ ns : List Int, DpAll K H (ns.map V.int) (ns.map PyData.int)
  | [] => .nil
  | n :: r => .cons (.int n) (dp_ints r)
/-! ## a comprehension: what is made so far, and a word that does not look at the new list -/
theorem lcW {J : It} {n : Nat} {G : Hp → Prop} {Y : Nat → Hp → V → Hp → Prop} (w : Walk J n G Y) {g : TG} {tt : TT} {te : TE} {vs : List Nat} {σ : L2.St} {H1 : Hp} {D : Addr} {Qd : Hp → Prop}
    (I : Nat → List V → Hp → Prop) (stab : ∀ i acc H o, I i acc H → I i acc (upd H D o)) (hG : ∀ i acc H, i ≤ n → I i acc H → G H) (h0 : I 0 [] H1) (len : ∀ i acc H, I i acc H → acc.length ≤ 90000)
    (hs : ∀ i x acc H H', i < n → I i acc H → H D = some (.lst acc) → Y i H x H' → ∀ (K1 : V → Hp → Prop) (K2 : Hp → Prop), (∀ y H4, H4 D = some (.lst acc) → I (i + 1) (acc ++ [y]) H4 → K1 y H4) → (∀ H3, H3 D = some (.lst acc) → I (i + 1) acc H3 → K2 H3) →
      g x (wipe σ vs) H' fun σ2 H2 => wipe σ2 vs = wipe σ vs ∧ tt σ2 H2 fun b H3 => if b = true then te σ2 H3 K1 else K2 H3)
    (hd : ∀ acc H, H D = some (.lst acc) → I n acc H → Qd H) :
    ∃ W : Nat → Nat → Hp → Prop, (∃ m, W 0 m (upd H1 D (.lst []))) ∧ ∀ i m H, W i m H →
      (J.stop i H ∧ Qd H) ∨ (J.go i H ∧ ∃ Nx : Hp → Prop, (∀ H', Nx H' → ∃ m', m' < m ∧ W (i + 1) m' H') ∧ ∀ x H', J.yld i H x H' → g x (wipe σ vs) H' fun σ2 H2 => wipe σ2 vs = wipe σ vs ∧ tt σ2 H2 fun b H3 =>
        if b = true then te σ2 H3 fun y H4 => ∃ acc, H4 D = some (.lst acc) ∧ acc.length < sizeLine ∧ Nx (upd H4 D (.lst (acc ++ [y]))) else Nx H3) :=
  lc_it w (fun i H => ∃ acc, H D = some (.lst acc) ∧ I i acc H) ⟨[], upd_same, stab _ _ _ _ h0⟩ (fun i H hi ⟨acc, _, h⟩ => hG i acc H hi h)
    (fun i x H H' hi ⟨acc, e, h⟩ y => hs i x acc H H' hi h e y _ _
      (fun y H4 e4 h4 => ⟨acc, e4, sz_lt (by have := len _ _ _ h; omega), acc ++ [y], upd_same, stab _ _ _ _ h4⟩) fun H3 e3 h3 => ⟨acc, e3, h3⟩)
    fun H ⟨acc, e, h⟩ => hd acc H e h
/-! ## what is read stays -/
theorem sqL_kp {K : PySem.W.Frag} {p a : Addr} {H H' : Hp} {xs : List V} (k : Kp p H H') (hp : ∀ o, H p = some o → (∀ ys, o ≠ .lst ys) ∧ ∀ u ys, o ≠ .frz u (.lst ys)) (h : SqL K H a xs) : SqL K H' a xs := by
  rcases h with (h | ⟨o, h⟩) | h
  · exact .inl (.inl (k a _ (fun e => by rw [e] at h; exact (hp _ h).1 _ rfl) h))
  · exact .inl (.inr ⟨o, k a _ (fun e => by rw [e] at h; exact (hp _ h).2 _ _ rfl) h⟩)
  · exact .inr h
theorem sqT_kp {K : PySem.W.Frag} {p a : Addr} {H H' : Hp} {xs : List V} (k : Kp p H H') (hp : ∀ o, H p = some o → (∀ ys, o ≠ .tup ys) ∧ ∀ u ys, o ≠ .frz u (.tup ys)) (h : SqT K H a xs) : SqT K H' a xs := by
  rcases h with (h | ⟨o, h⟩) | h
  · exact .inl (.inl (k a _ (fun e => by rw [e] at h; exact (hp _ h).1 _ rfl) h))
  · exact .inl (.inr ⟨o, k a _ (fun e => by rw [e] at h; exact (hp _ h).2 _ _ rfl) h⟩)
  · exact .inr h
theorem sqT_same {K : PySem.W.Frag} {a : Addr} {H H' : Hp} {xs : List V} (k : Same H H') (h : SqT K H a xs) : SqT K H' a xs := by
  rcases h with (h | ⟨o, h⟩) | h
  · exact .inl (.inl (k _ _ h))
  · exact .inl (.inr ⟨o, k _ _ h⟩)
  · exact .inr h
theorem cutL_take (l : List Nat) (n : Nat) : cutL l none (some (n : Int)) = l.take n := by
  unfold cutL
  rw [HT.sIx_none, HT.sIx_nat]
  simp only [List.drop_zero, Nat.sub_zero]
  by_cases h : n ≤ l.length
  · rw [Nat.min_eq_left h]
  · rw [Nat.min_eq_right (by omega), List.take_of_length_le (Nat.le_refl _), List.take_of_length_le (by omega)]
theorem cutL_drop (l : List Nat) (n : Nat) : cutL l (some (n : Int)) none = l.drop n := by
  unfold cutL
  rw [HT.sIx_none, HT.sIx_nat]
  by_cases h : n ≤ l.length
  · rw [Nat.min_eq_left h, List.take_of_length_le (by simp)]
  · rw [Nat.min_eq_right (by omega), List.drop_of_length_le (Nat.le_refl _), List.drop_of_length_le (by omega)]; simp
theorem cutL_mid (l : List Nat) (m n : Nat) : cutL l (some (m : Int)) (some (n : Int)) = (l.drop m).take (n - m) := by
  unfold cutL
  rw [HT.sIx_nat, HT.sIx_nat]
  by_cases h : m ≤ l.length
  · rw [Nat.min_eq_left h]
    by_cases h2 : n ≤ l.length
    · rw [Nat.min_eq_left h2]
    · have e1 : min n l.length = l.length := by omega
      rw [e1, List.take_of_length_le (by simp), List.take_of_length_le (by simp; omega)]
  · have e1 : min m l.length = l.length := by omega
    rw [e1, List.drop_of_length_le (Nat.le_refl _), List.drop_of_length_le (by omega)]; simp
theorem cutV_take (l : List V) (n : Nat) : cutV l none (some (n : Int)) = l.take n := by
  unfold cutV
  rw [HT.sIx_none, HT.sIx_nat]
  simp only [List.drop_zero, Nat.sub_zero]
  by_cases h : n ≤ l.length
  · rw [Nat.min_eq_left h]
  · rw [Nat.min_eq_right (by omega), List.take_of_length_le (Nat.le_refl _), List.take_of_length_le (by omega)]
theorem cutV_drop (l : List V) (n : Nat) : cutV l (some (n : Int)) none = l.drop n := by
  unfold cutV
  rw [HT.sIx_none, HT.sIx_nat]
  by_cases h : n ≤ l.length
  · rw [Nat.min_eq_left h, List.take_of_length_le (by simp)]
  · rw [Nat.min_eq_right (by omega), List.drop_of_length_le (Nat.le_refl _), List.drop_of_length_le (by omega)]; simp
/-- texts of one sign, joined -/
theorem wjoin1 (l : List Nat) : joinL [] (l.map fun c => [c]) = l := by
  cases l with
  | nil => rfl
  | cons a r =>
    rw [List.map_cons, joinL_cons]
    have : ∀ r : List Nat, ((r.map fun c => [c]).map fun p => [] ++ p).flatten = r := fun r => by
      induction r with
      | nil => rfl
      | cons b r ih => simp at ih ⊢; exact ih
    rw [this]; rfl
theorem sum_one {α : Type} : ∀ l : List α, (l.map fun _ => 1).sum = l.length
  | [] => rfl
  | a :: r => by
    rw [List.map_cons, List.sum_cons, sum_one r, List.length_cons]
    omega
theorem len_ones (l : List Nat) : (((l.map fun s => [s])).map List.length).sum + ((l.map fun s => [s]) : List (List Nat)).length * (tl (sx [])).length = l.length := by
  have e : ((l.map fun s => [s])).map List.length = l.map fun _ => 1 := by simp [List.map_map, Function.comp_def]
  rw [e, sum_one]
  rfl
theorem rep_length (l : List Nat) (n : Int) : (repS l n).length = n.toNat * l.length := by
  unfold repS
  simp
/-- the law's own def: its binding, then what it keeps over any base -/
theorem Df.law {P : Program} {w : World} {K : PySem.W.Frag} {mg : Str → Option Value} {x : Str} {st : Stmt} {ps N : List Str} {k : Nat} {sp : Sp} {fa : Addr} (D : Df K mg x st ps) (hfa : mg x = some (.ref fa)) (S : FnScope N ps (defScope st))
    (len : ∀ vs H Q E, sp vs H Q E → vs.length = ps.length)
    (hbody : ∀ (base : Heap) (f : Addr) (cdv : Value) (A : Around) (outer : List Env) (s : Shared) (H : Hp) (vs : List V) (Q : VK) (E : XK), Room k (A.deeper (envOfC x (defScope st) s.heap.objs.size f cdv)) → sp vs H Q E →
      ∃ t, PSs (cxOf CX0 P w K mg base N x (defScope st) f cdv A outer s H E).nox (defBody st) t ∧ t { nx := fun _ H' => Q .non H', rt := Q } (start N vs) H) :
    ∃ fd : FuncData, (∀ (s : Shared) (us : List Value), us.length = ps.length → BindsTo s fd ⟨us, []⟩ (ps.zip us)) ∧ ∀ base : Heap, FnOk P w K mg base CX0 (k + 1) fa fd ps sp := by
  obtain ⟨f, fd, F, hm, hb⟩ := D
  rw [hfa] at hm
  cases hm
  exact ⟨fd, fun s us hl => .of_eq (hb us hl), fun base => F.ok S len (hbody base fa)⟩
end Wk

namespace Wk
open PySem PySem.Spec PyProof.Rows L2
open TL (tl len_tl ext_tl tl_append mk_tl)

/-! ## what an iterator over a text, a list, a tuple draws -/
structure Drw (P : Program) (w : World) (K : PySem.W.Frag) (it : Addr) (n : Nat) (ys : Nat → Option V) (G : Hp → Prop) (S : Nat → Heap → Prop) : Prop where
  obj : ∀ i h, S i h → ∃ o, h.get? it = some o ∧ ∀ v, o.data ≠ .cell v
  keep : ∀ i h h', S i h → (∀ o, h.get? it = some o → h'.get? it = some o) → S i h'
  drw : ∀ (X : Cx), X.prog = P → X.w = w → X.K = K → ∀ (pins : List (Addr × Obj)) (σ : L2.St) (H : Hp) (s : Shared), Inv X pins σ H s → G H → (∃ i, S i s.heap) → FpOk X pins H it →
    ∃ (fp : List Addr) (PV : Nat → Value → Prop) (St : Nat → Heap → Prop), (∀ A : Around, A.handled = none → Draws P w A it fp n PV St) ∧ it ∈ fp ∧ (∀ b ∈ fp, b = it ∨ ¬ FpOk X pins H b) ∧
      (∀ i, S i s.heap → St i s.heap) ∧ (∀ i h', St i h' → S i h') ∧ ∀ i v, PV i v → ∃ y, ys i = some y ∧ RelV y v
theorem not_fp {X : Cx} {pins : List (Addr × Obj)} {σ : L2.St} {H : Hp} {s : Shared} (I : Inv X pins σ H s) {a : Addr} (h : (∃ u, Rd H a u) ∨ ∃ o, X.K.lookup a = some o) : ¬ FpOk X pins H a := by
  rintro ⟨f0, _, _, f3, _⟩
  rcases h with ⟨u, h | ⟨o, h⟩⟩ | ⟨o, h⟩
  · rw [f0] at h; cases h
  · rw [f0] at h; cases h
  · have hb : X.base.get? a = some o := I.ok.mod.kin a o h
    rcases f3 with f3 | f3
    · exact I.ok.noex a o hb f3
    · exact absurd (Nat.lt_of_lt_of_le (Heap.lt_size (I.ok.bs a o hb).1) f3) (Nat.lt_irrefl _)
theorem drw_text {P : Program} {w : World} {K : PySem.W.Frag} (it : Addr) (z : Str) (t : Tok) : Drw P w K it (tl z).length (fun i => (tl z)[i]?.map fun c => tx [c]) (fun _ => True) (fun i h => h.IsStrIter it (strIterType z) z t i) where
  obj := fun i h ⟨o, e, c, d⟩ => ⟨o, e, fun v q => by rw [d] at q; cases q⟩
  keep := fun i h h' ⟨o, e, r⟩ k => ⟨o, k o e, r⟩
  drw := fun X hP hw hK pins σ H s I hG hS hF => by
    subst hP hw hK
    refine ⟨[it], fun i v => ∃ c u, z.cps[i]? = some c ∧ v = .str ⟨#[c]⟩ u, fun i h => h.IsStrIter it (strIterType z) z t i, fun A hA => ?_, by simp, fun b hb => .inl (by simpa using hb), fun i h => h, fun i h' h => h, fun i v hv => ?_⟩
    · have := Draws.text (prog := X.prog) (w := X.w) hA it z t
      rw [show z.cps.size = (tl z).length by simp] at this
      exact this
    · obtain ⟨c, u, hc, rfl⟩ := hv
      refine ⟨tx [c], ?_, ⟨u, rfl⟩⟩
      rw [show (tl z)[i]? = some c by rw [← hc]; simp]
      rfl
theorem drw_list {P : Program} {w : World} {K : PySem.W.Frag} (it a : Addr) (xs : List V) : Drw P w K it xs.length (fun i => xs[i]?) (fun H => SqL K H a xs) (fun i h => h.IsListIter it a i) where
  obj := fun i h ⟨o, e, c, d⟩ => ⟨o, e, fun v q => by rw [d] at q; cases q⟩
  keep := fun i h h' st k => st.at k
  drw := fun X hP hw hK pins σ H s I hG hS hF => by
    subst hP hw hK
    obtain ⟨its, rv, p, _⟩ := I.list hG
    have na : ¬ FpOk X pins H a := not_fp I (by
      rcases hG with h | ⟨o, _, _, h, _⟩
      · exact .inl ⟨_, h⟩
      · exact .inr ⟨o, h⟩)
    have hne : a ≠ it := fun e => na (by rw [e]; exact hF)
    have hl := rv.length
    refine ⟨[it, a], fun i v => its.toArray[i]? = some v, fun i h => h.IsListIter it a i ∧ h.IsList a its.toArray, fun A hA => ?_, by simp, fun b hb => ?_, fun i h => ⟨h, p.isList⟩, fun i h' h => h.1, fun i v hv => ?_⟩
    · have := Draws.list (prog := X.prog) (w := X.w) hA it a hne its.toArray
      rw [show its.toArray.size = xs.length by simp [hl]] at this
      exact this
    · have e : b = it ∨ b = a := by simpa using hb
      rcases e with e | e
      · exact .inl e
      · exact .inr (by rw [e]; exact na)
    · have hlt : i < xs.length := by
        have := (Array.getElem?_eq_some_iff.mp hv).1
        simp at this
        omega
      obtain ⟨u, hu, ru⟩ := rv.get (List.getElem?_eq_getElem hlt)
      have : u = v := by
        have q : its.toArray[i]? = some u := by simpa using hu
        have hv : its.toArray[i]? = some v := hv
        rw [q] at hv
        exact Option.some.inj hv
      subst this
      exact ⟨_, List.getElem?_eq_getElem hlt, ru⟩
theorem drw_tup {P : Program} {w : World} {K : PySem.W.Frag} (it a : Addr) (xs : List V) : Drw P w K it xs.length (fun i => xs[i]?) (fun H => SqT K H a xs) (fun i h => h.IsTupleIter it a i) where
  obj := fun i h ⟨o, e, c, d⟩ => ⟨o, e, fun v q => by rw [d] at q; cases q⟩
  keep := fun i h h' st k => st.at k
  drw := fun X hP hw hK pins σ H s I hG hS hF => by
    subst hP hw hK
    obtain ⟨its, rv, p, _⟩ := I.tuple hG
    have na : ¬ FpOk X pins H a := not_fp I (by
      rcases hG with h | ⟨o, _, _, h, _⟩
      · exact .inl ⟨_, h⟩
      · exact .inr ⟨o, h⟩)
    have hne : a ≠ it := fun e => na (by rw [e]; exact hF)
    have hl := rv.length
    refine ⟨[it, a], fun i v => its.toArray[i]? = some v, fun i h => h.IsTupleIter it a i ∧ h.IsTuple a its.toArray, fun A hA => ?_, by simp, fun b hb => ?_, fun i h => ⟨h, p⟩, fun i h' h => h.1, fun i v hv => ?_⟩
    · have := Draws.tuple (prog := X.prog) (w := X.w) hA it a hne its.toArray
      rw [show its.toArray.size = xs.length by simp [hl]] at this
      exact this
    · have e : b = it ∨ b = a := by simpa using hb
      rcases e with e | e
      · exact .inl e
      · exact .inr (by rw [e]; exact na)
    · have hlt : i < xs.length := by
        have := (Array.getElem?_eq_some_iff.mp hv).1
        simp at this
        omega
      obtain ⟨u, hu, ru⟩ := rv.get (List.getElem?_eq_getElem hlt)
      have : u = v := by
        have q : its.toArray[i]? = some u := by simpa using hu
        have hv : its.toArray[i]? = some v := hv
        rw [q] at hv
        exact Option.some.inj hv
      subst this
      exact ⟨_, List.getElem?_eq_getElem hlt, ru⟩
/-- pairs of two sources -/
def ItG (n1 n2 : Nat) (ys1 ys2 : Nat → Option V) (G1 G2 : Hp → Prop) : It :=
  ⟨fun i H => i < min n1 n2 ∧ G1 H ∧ G2 H, fun i H v H' => ∃ T x y, v = .ref T ∧ H T = none ∧ H' = upd H T (.tup [x, y]) ∧ ys1 i = some x ∧ ys2 i = some y, fun i H => i = min n1 n2 ∧ G1 H ∧ G2 H⟩
theorem walk_G {n1 n2 : Nat} {ys1 ys2 : Nat → Option V} {G1 G2 : Hp → Prop} : Walk (ItG n1 n2 ys1 ys2 G1 G2) (min n1 n2) (fun H => G1 H ∧ G2 H) (YPair ys1 ys2) :=
  ⟨fun _ _ hi q => ⟨hi, q.1, q.2⟩, fun _ q => ⟨rfl, q.1, q.2⟩, fun _ _ _ _ _ _ y => y⟩
section
variable {P : Program} {w : World} {K : PySem.W.Frag} {elts : List Expr} {kk : Nat} {tpos : Pos} {n1 n2 : Nat} {ys1 ys2 : Nat → Option V} {G1 G2 : Hp → Prop} {S1 S2 : Nat → Heap → Prop}
theorem turn_G {I0 : Nat} (D1 : Drw P w K I0 n1 ys1 G1 S1) (D2 : Drw P w K (I0 + 1) n2 ys2 G2 S2) :
    Turn P w K (.Tuple elts kk tpos) (ItG n1 n2 ys1 ys2 G1 G2) [I0 + 4, I0 + 2, I0 + 3, I0, I0 + 1] (I0 + 4)
      (fun i h => IsZip h (I0 + 4) (I0 + 2) (I0 + 3) .none ∧ IsTupOf2 h (I0 + 2) (.ref I0) (.ref (I0 + 1)) ∧ (∃ a1 a2, IsTupOf2 h (I0 + 3) a1 a2) ∧ S1 i h ∧ S2 i h) := by
  have sub : ∀ b : Nat, b ∉ [I0 + 4, I0 + 2, I0 + 3, I0, I0 + 1] → b ∉ [I0 + 4, I0 + 3, I0, I0 + 1] := fun b hb hm => hb (by simp at hm ⊢; omega)
  have five : ∀ {c : Nat}, c ∈ [I0 + 4, I0 + 2, I0 + 3, I0, I0 + 1] → c = I0 + 4 ∨ c = I0 + 2 ∨ c = I0 + 3 ∨ c = I0 ∨ c = I0 + 1 := fun h => by simpa using h
  -- the cells of one state
  have sepd : ∀ (X : Cx) (pins : List (Addr × Obj)) (H : Hp) (fp1 fp2 : List Addr), (∀ b ∈ [I0 + 4, I0 + 2, I0 + 3, I0, I0 + 1], FpOk X pins H b) → I0 ∈ fp1 → I0 + 1 ∈ fp2 →
      (∀ b ∈ fp1, b = I0 ∨ ¬ FpOk X pins H b) → (∀ b ∈ fp2, b = I0 + 1 ∨ ¬ FpOk X pins H b) → ZipSep2 (I0 + 4) (I0 + 2) (I0 + 3) I0 (I0 + 1) fp1 fp2 := fun X pins H fp1 fp2 hf m1 m2 s1 s2 => by
    have out1 : ∀ b : Nat, b ∈ [I0 + 4, I0 + 2, I0 + 3, I0, I0 + 1] → b ≠ I0 → b ∉ fp1 := fun b hb hn hm => (s1 b hm).elim hn fun z => z (hf b hb)
    have out2 : ∀ b : Nat, b ∈ [I0 + 4, I0 + 2, I0 + 3, I0, I0 + 1] → b ≠ I0 + 1 → b ∉ fp2 := fun b hb hn hm => (s2 b hm).elim hn fun z => z (hf b hb)
    exact
      { TIz := by show (I0 + 2 : Nat) ≠ I0 + 4; omega
        TOz := by show (I0 + 3 : Nat) ≠ I0 + 4; omega
        TITO := by show (I0 + 2 : Nat) ≠ I0 + 3; omega
        TIi1 := by show (I0 + 2 : Nat) ≠ I0; omega
        mem1 := m1
        zf1 := out1 _ (by simp) (by omega)
        Tf1 := out1 _ (by simp) (by omega)
        TIi2 := by show (I0 + 2 : Nat) ≠ I0 + 1; omega
        mem2 := m2
        zf2 := out2 _ (by simp) (by omega)
        Tf2 := out2 _ (by simp) (by omega)
        sep1_2 := out2 _ (by simp) (by omega)
        sep2_1 := out1 _ (by simp) (by omega) }
  exact
  { mem := by simp
    obj := fun i h st c hc => by
      obtain ⟨hz, hTI, ⟨x, y, hTO⟩, h1, h2⟩ := st
      rcases five hc with q | q | q | q | q
      · rw [q]; exact ⟨_, hz, fun v q => nomatch q⟩
      · rw [q]; exact ⟨_, hTI, fun v q => nomatch q⟩
      · rw [q]; exact ⟨_, hTO, fun v q => nomatch q⟩
      · rw [q]; exact D1.obj i h h1
      · rw [q]; exact D2.obj i h h2
    keep := fun i h h' st k => by
      obtain ⟨hz, hTI, ⟨x, y, hTO⟩, h1, h2⟩ := st
      exact ⟨k _ (by simp) _ hz, k _ (by simp) _ hTI, ⟨x, y, k _ (by simp) _ hTO⟩, D1.keep _ _ _ h1 fun o q => k _ (by simp) o q, D2.keep _ _ _ h2 fun o q => k _ (by simp) o q⟩
    item := by
      intro X hP hw hK hc i pins s σ H E I hf st hg
      obtain ⟨hlt, g1, g2⟩ := hg
      obtain ⟨fp1, PV1, St1, dr1, m1, sp1, to1, of1, val1⟩ := D1.drw X hP hw hK pins σ H s I g1 ⟨i, st.2.2.2.1⟩ (hf _ (by simp))
      obtain ⟨fp2, PV2, St2, dr2, m2, sp2, to2, of2, val2⟩ := D2.drw X hP hw hK pins σ H s I g2 ⟨i, st.2.2.2.2⟩ (hf _ (by simp))
      subst hP hw hK
      have Sp := sepd X pins H fp1 fp2 hf m1 m2 sp1 sp2
      have hA : X.A.in1.handled = none := by
        have := I.ok.hd hc
        first | exact this | (show X.A.handled = none; exact this)
      have W := WalksT.zipD2 (prog := X.prog) (w := X.w) (A := X.A) Sp (dr1 _ hA) (dr2 _ hA)
      obtain ⟨hz, hTI, hTO, h1, h2⟩ := st
      refine W.item i s _ _ hlt ⟨hz, hTI, hTO, to1 i h1, to2 i h2⟩ fun T vals h' tk hPt hT hTup hMid hk => ?_
      obtain ⟨x1, x2, p1, p2, rfl⟩ := hPt
      obtain ⟨y1, e1, r1⟩ := val1 i x1 p1
      obtain ⟨y2, e2, r2⟩ := val2 i x2 p2
      have ap := W.apart i T h' hMid
      refine ⟨.ref T, rfl, W.go elts kk tpos i T { s with heap := h', toks := tk } _ _ hMid fun h'' st'' hk'' => ?_⟩
      have hT'' : IsTup h'' T #[x1, x2] := by
        obtain ⟨o, ho, r⟩ := hTup
        exact ⟨o, hk'' T o ap ho, r⟩
      have new : ObjOk X.prog X.w (upd H T (.tup [y1, y2])) h'' T (.tup [y1, y2]) := ⟨by show 2 ≤ sizeLine; decide, [x1, x2], .cons r1 (.cons r2 .nil), hT''⟩
      have I1 : Inv X pins σ (upd H T (.tup [y1, y2])) { s with heap := h'', toks := tk } :=
        I.turnedNew (ch := [I0 + 4, I0 + 2, I0 + 3, I0, I0 + 1]) (fun c o hb q => hk'' c o (sub c hb) (hk c o (sub c hb) q)) hf hT new
      obtain ⟨a, b, c, d1, d2⟩ := st''
      refine ⟨.ref T, _, I1, rfl, ⟨T, y1, y2, rfl, I.hok.fresh hT, rfl, e1, e2⟩, ⟨a, b, c, of1 _ _ d1, of2 _ _ d2⟩, fun c hcm => ?_⟩
      have hlt : c < s.heap.objs.size := by
        rcases five hcm with q | q | q | q | q
        · rw [q]; exact Heap.lt_size hz
        · rw [q]; exact Heap.lt_size hTI
        · rw [q]; obtain ⟨_, _, e⟩ := hTO; exact Heap.lt_size e
        · rw [q]; obtain ⟨_, e, _⟩ := D1.obj _ _ h1; exact Heap.lt_size e
        · rw [q]; obtain ⟨_, e, _⟩ := D2.obj _ _ h2; exact Heap.lt_size e
      rw [upd_ne (Nat.ne_of_lt (Nat.lt_of_lt_of_le hlt hT))]
      exact (hf c hcm).1
    done := by
      intro X hP hw hK hc i pins s σ H E I hf st hg
      obtain ⟨hlt, g1, g2⟩ := hg
      obtain ⟨fp1, PV1, St1, dr1, m1, sp1, to1, of1, val1⟩ := D1.drw X hP hw hK pins σ H s I g1 ⟨i, st.2.2.2.1⟩ (hf _ (by simp))
      obtain ⟨fp2, PV2, St2, dr2, m2, sp2, to2, of2, val2⟩ := D2.drw X hP hw hK pins σ H s I g2 ⟨i, st.2.2.2.2⟩ (hf _ (by simp))
      subst hP hw hK
      have Sp := sepd X pins H fp1 fp2 hf m1 m2 sp1 sp2
      have hA : X.A.in1.handled = none := by
        have := I.ok.hd hc
        first | exact this | (show X.A.handled = none; exact this)
      have W := WalksT.zipD2 (prog := X.prog) (w := X.w) (A := X.A) Sp (dr1 _ hA) (dr2 _ hA)
      obtain ⟨hz, hTI, hTO, h1, h2⟩ := st
      subst hlt
      refine W.done s _ _ ⟨hz, hTI, hTO, to1 _ h1, to2 _ h2⟩ fun h' tk hk => ⟨rfl, I.turnedL (ch := [I0 + 4, I0 + 2, I0 + 3, I0, I0 + 1]) (fun c o hb q => hk c o (sub c hb) q) hf⟩
    self := fun A i s Q E st h => wpAny_pyIter_zip st.1 h }
end
/-- a text, a list, a tuple as a source: how many, what, while what stands -/
inductive SrcV (K : PySem.W.Frag) (H : Hp) : V → Nat → (Nat → Option V) → (Hp → Prop) → Prop
  | text (z : Str) : SrcV K H (.str z) (tl z).length (fun i => (tl z)[i]?.map fun c => tx [c]) (fun _ => True)
  | list {a : Addr} {xs : List V} (h : SqL K H a xs) : SrcV K H (.ref a) xs.length (fun i => xs[i]?) (fun H => SqL K H a xs)
  | tup {a : Addr} {xs : List V} (h : SqT K H a xs) : SrcV K H (.ref a) xs.length (fun i => xs[i]?) (fun H => SqT K H a xs)
/-- how it begins, as the library asks it -/
theorem SrcV.begins {X : Cx} {pins : List (Addr × Obj)} {σ : L2.St} {H : Hp} {s : Shared} {v : V} {u : Value} {n : Nat} {ys : Nat → Option V} {G : Hp → Prop} (I : Inv X pins σ H s) (h : SrcV X.K H v n ys G) (r : RelV v u) :
    ∃ (o : Obj) (B : Heap → Prop), Begins u o B ∧ B s.heap ∧ ∀ it : Addr, ∃ S : Nat → Heap → Prop, Drw X.prog X.w X.K it n ys G S ∧ ∀ h' : Heap, h'.get? it = some o → S 0 h' := by
  cases h with
  | text z =>
    obtain ⟨t, rfl⟩ := r
    exact ⟨_, _, begins_text z t, trivial, fun it => ⟨_, drw_text it z t, fun h' e => ⟨_, e, rfl, rfl⟩⟩⟩
  | @list a xs hq =>
    cases r
    obtain ⟨its, rv, p, _⟩ := I.list hq
    exact ⟨_, _, begins_list a its.toArray, p.isList, fun it => ⟨_, drw_list it a xs, fun h' e => ⟨_, e, rfl, rfl⟩⟩⟩
  | @tup a xs hq =>
    cases r
    obtain ⟨its, rv, p, _⟩ := I.tuple hq
    exact ⟨_, _, begins_tuple a its.toArray, p, fun it => ⟨_, drw_tup it a xs, fun h' e => ⟨_, e, rfl, rfl⟩⟩⟩
def iZipG (K : PySem.W.Frag) (ta : TA) : TI := fun σ H R => ta σ H fun vs H1 => ∃ v1 v2 n1 n2 ys1 ys2 G1 G2, vs = [v1, v2] ∧ SrcV K H1 v1 n1 ys1 G1 ∧ SrcV K H1 v2 n2 ys2 G2 ∧ R (ItG n1 n2 ys1 ys2 G1 G2) H1
theorem pi_zipG {X : Cx} {e e2 : Expr} {ta : TA} {p pos tpos : Pos} {elts : List Expr} {kk : Nat} (hg : Gl X "zip") (hm : X.mg "zip" = none) (ha : PA X [e, e2] ta)
    (hs : starEach [e, e2] X.env = (false, eval e X.env) :: starEach [e2] X.env := by rfl) (hpl : (backTo pos (starEach [e2] X.env)).any (·.1) = false := by rfl) :
    PI X (.Tuple elts kk tpos) (.Call (.Name "zip" p) [e, e2] [] pos) (iZipG X.K ta) := by
  refine ⟨fun pins s σ H R I h => ?_⟩
  refine Call_ (ld_blt I hg hm PyProof.Rows.boot_zip (PyProof.Rows.callWith_type1 (thn (ha.run pos pins s σ H _ I h) fun us s1 ⟨vs, H1, I1, r1, q1⟩ => ?_) hs hpl))
  obtain ⟨v1, v2, n1, n2, ys1, ys2, G1, G2, ex, sc1, sc2, q⟩ := q1
  subst ex
  obtain ⟨u1, u2, rfl, rv1, rv2⟩ := vals2 r1
  obtain ⟨o1, B1, b1, hb1, d1⟩ := sc1.begins I1 rv1
  obtain ⟨o2, B2, b2, hb2, d2⟩ := sc2.begins I1 rv2
  refine zip_begins2 b1 b2 hb1 hb2 fun h' hz hTI hTO g1 g2 hsz hk => wpAny_pyIter_zip hz ?_
  obtain ⟨S1, D1, st1⟩ := d1 s1.heap.objs.size
  obtain ⟨S2, D2, st2⟩ := d2 (s1.heap.objs.size + 1)
  have I2 : Inv X pins σ H1 { s1 with heap := h' } := I1.kept (t' := s1.toks) hk
  refine ⟨s1.heap.objs.size + 4, [s1.heap.objs.size + 4, s1.heap.objs.size + 2, s1.heap.objs.size + 3, s1.heap.objs.size, s1.heap.objs.size + 1], _, _, H1, rfl, I2, turn_G D1 D2, ⟨hz, hTI, ⟨_, _, hTO⟩, st1 h' g1, st2 h' g2⟩, fun c hcm => ?_, q⟩
  have e' : c = s1.heap.objs.size + 4 ∨ c = s1.heap.objs.size + 2 ∨ c = s1.heap.objs.size + 3 ∨ c = s1.heap.objs.size ∨ c = s1.heap.objs.size + 1 := by simpa using hcm
  have hle : s1.heap.objs.size ≤ c := by
    rcases e' with z | z | z | z | z <;> (rw [z]; first | exact Nat.le_refl _ | exact Nat.le_add_right _ _)
  exact I1.fpOk hle (I1.hok.fresh hle)
end Wk

/-! own: the set of a text's signs, and how many they are -/
namespace WkS
open PySem PySem.Spec PyProof.Rows L2
open TL (tl len_tl ext_tl tl_append mk_tl)
/-- the texts met so far, the latest ahead -/
def met (val : Nat → Str) : Nat → List Str
  | 0 => []
  | i + 1 => if (met val i).any (· == val i) then met val i else val i :: met val i
theorem met_len (val : Nat → Str) : ∀ i, (met val i).length ≤ i
  | 0 => Nat.le_refl _
  | i + 1 => by
    have := met_len val i
    unfold met
    split
    · omega
    · rw [List.length_cons]; omega
theorem met_step (val : Nat → Str) (i : Nat) (k : Str) : ((met val i).any (· == k) || decide (k = val i)) = (met val (i + 1)).any (· == k) := by
  rw [met]
  by_cases h : (met val i).any (· == val i) = true
  · rw [if_pos h]
    by_cases e : k = val i
    · rw [e, h]; rfl
    · rw [decide_eq_false e, Bool.or_false]
  · rw [if_neg h, List.any_cons, Bool.or_comm]
    congr 1
    rw [Bool.eq_iff_iff, decide_eq_true_iff, beq_iff_eq]
    exact ⟨fun e => e.symm, fun e => e.symm⟩
theorem met_many (val : Nat → Str) (i : Nat) : (if (met val i).any (· == val i) then (met val i).length else (met val i).length + 1) = (met val (i + 1)).length := by
  rw [met]
  split <;> simp
theorem met_mem (val : Nat → Str) : ∀ (i : Nat) (x : Str), x ∈ met val i ↔ ∃ j, j < i ∧ val j = x
  | 0, x => by simp [met]
  | i + 1, x => by
    have ih := met_mem val i
    rw [met]
    by_cases h : (met val i).any (· == val i) = true
    · rw [if_pos h, ih]
      obtain ⟨y, hy, ey⟩ := List.any_eq_true.mp h
      rw [beq_iff_eq.mp ey] at hy
      obtain ⟨j0, h0, e0⟩ := (ih _).mp hy
      constructor
      · rintro ⟨j, hj, e⟩
        exact ⟨j, by omega, e⟩
      · rintro ⟨j, hj, e⟩
        by_cases ej : j = i
        · subst ej
          exact ⟨j0, h0, by rw [e0, e]⟩
        · exact ⟨j, by omega, e⟩
    · rw [if_neg h, List.mem_cons, ih]
      constructor
      · rintro (e | ⟨j, hj, e⟩)
        · exact ⟨i, by omega, e.symm⟩
        · exact ⟨j, by omega, e⟩
      · rintro ⟨j, hj, e⟩
        by_cases ej : j = i
        · subst ej; exact .inl e.symm
        · exact .inr ⟨j, by omega, e⟩
/-- all new: just as many as there are -/
theorem met_full (val : Nat → Str) : ∀ i, (met val i).length = i ↔ ∀ j k, j < k → k < i → val j ≠ val k
  | 0 => ⟨fun _ j k _ h => absurd h (Nat.not_lt_zero _), fun _ => rfl⟩
  | i + 1 => by
    have ih := met_full val i
    have hl := met_len val i
    rw [met]
    by_cases h : (met val i).any (· == val i) = true
    · rw [if_pos h]
      obtain ⟨y, hy, ey⟩ := List.any_eq_true.mp h
      rw [beq_iff_eq.mp ey] at hy
      obtain ⟨j0, h0, e0⟩ := (met_mem val i _).mp hy
      exact ⟨fun q => by omega, fun q => absurd e0 (q j0 i h0 (Nat.lt_succ_self _))⟩
    · rw [if_neg h, List.length_cons]
      have hn : ∀ j, j < i → val j ≠ val i := fun j hj e => h (List.any_eq_true.mpr ⟨val i, (met_mem val i _).mpr ⟨j, hj, e⟩, beq_self_eq_true _⟩)
      constructor
      · intro q j k hj hk
        by_cases ek : k = i
        · subst ek; exact hn j hj
        · exact ih.mp (by omega) j k hj (by omega)
      · intro q
        rw [ih.mpr fun j k hj hk => q j k hj (by omega)]
section
variable {prog : Program} {w : World} {A : Around} {R : Result → Shared → Prop} {it : Addr} {own wrt : List Addr} {gg : Array GenState → Array GenState → Prop} {m : Nat} {Pi : Nat → Value → Prop} {Sti : Nat → Shared → Prop}
theorem fill (W : WalksS prog w A.in1 it own wrt gg m Pi Sti) (z : Addr) (hz : z ∉ own) (val : Nat → Str) (hv : ∀ i v, Pi i v → ∃ t, v = .str (val i) t) (hm : m + 1 < scanBound) :
    ∀ (d i : Nat) (s : Shared), m - i = d → i ≤ m → Sti i s → s.heap.SetOf (PySem.strKind prog w) z (fun x => (met val i).any (· == x)) (met val i).length →
      (∀ s', Moved (z :: wrt) gg s s' → s'.heap.SetOf (PySem.strKind prog w) z (fun x => (met val m).any (· == x)) (met val m).length → R (.ok (.ret .none)) s') →
      codeAny (model prog w) A (.builtin "set.update.loop" ⟨[.ref z, .ref it], []⟩) R s := by
  have hzw : z ∉ wrt := fun h => hz (W.sub _ h)
  have wide : ∀ b ∈ wrt, b ∈ z :: wrt := fun b hb => .tail _ hb
  intro d
  induction d with
  | zero =>
    intro i s hd hi st hS fin
    obtain rfl : i = m := by omega
    refine codeAny_builtin PyProof.Rows.F.entry_set_update_loop ?_
    rw [Around.under_plainId PyProof.Rows.F.plain_set_update_loop _]
    show wpAny _ A.in1 (pyNext (.ref it) >>= _) _ _ s
    refine wpAny_bind (W.done s _ _ st fun s' mv => ?_)
    show wpAny _ A.in1 (ret Value.none) _ _ s'
    refine wpAny_pure (fin s' (mv.mono wide) ?_)
    obtain ⟨ob, es, ep, tb, e, more⟩ := hS
    exact ⟨ob, es, ep, tb, mv.heap z _ hzw e, more⟩
  | succ d ih =>
    intro i s hd hi st hS fin
    have hlt : i < m := by omega
    refine codeAny_builtin PyProof.Rows.F.entry_set_update_loop ?_
    rw [Around.under_plainId PyProof.Rows.F.plain_set_update_loop _]
    show wpAny _ A.in1 (pyNext (.ref it) >>= _) _ _ s
    refine wpAny_bind (W.item i s _ _ hlt st fun v s' pv st' mv => ?_)
    obtain ⟨t, rfl⟩ := hv i v pv
    have hS1 : s'.heap.SetOf (PySem.strKind prog w) z (fun x => (met val i).any (· == x)) (met val i).length := by
      obtain ⟨ob, es, ep, tb, e, more⟩ := hS
      exact ⟨ob, es, ep, tb, mv.heap z _ hzw e, more⟩
    show wpAny _ A.in1 (holding [Value.str (val i) t] (setAdd z (.str (val i) t)) >>= _) _ _ s'
    refine wpAny_bind (wpAny_holding ?_)
    unfold setAdd
    refine wpAny_holding (wpAny_bind ((PySem.strKind prog w).pyHash (k := val i) (strKind_is _ _ _ _) ?_))
    have room := met_len val i
    refine wpAny_setAddHashed_of (knd := PySem.strKind prog w) (s := { s' with toks := s'.toks + 1 }) (strKind_is _ _ _ _) rfl hS1 (by omega) fun h' sb hS2 => ?_
    have hS3 : h'.SetOf (PySem.strKind prog w) z (fun x => (met val (i + 1)).any (· == x)) (met val (i + 1)).length := SetOf_congr hS2 (met_step val i) (met_many val i)
    refine wpAny_pure ⟨plainId_quiet PyProof.Rows.F.plain_set_update_loop _, ih (i + 1) _ (by omega) hlt (W.frame _ s' _ _ st' (Nat.le_succ _) fun b hb o e => ?_) hS3 fun s2 mv2 hS4 => fin s2 (Moved.trans W.gtrans ((mv.mono wide).then_heap (Nat.le_succ _) fun b o hb e => ?_) mv2) hS4⟩
    · rw [sb.2 b fun e2 => hz (by rw [← e2]; exact hb)]
      exact e
    · rw [sb.2 b fun e2 => hb (by rw [e2]; exact .head _)]
      exact e
end
/-- the sign at a place, as a text -/
def sgn (x : Str) (i : Nat) : Str := ⟨#[(tl x).getD i 0]⟩
section
variable {prog : Program} {w : World} {A : Around} {E : Value → Shared → Prop} {s : Shared}
set_option maxHeartbeats 3200000 in
theorem new_of_text {x : Str} {t : Tok} {Q : Value → Shared → Prop} (quiet : A.handled = none) (few : x.cps.size + 1 < scanBound)
    (go : ∀ (h' : Heap) (tk : Nat), h'.SetOf (PySem.strKind prog w) s.heap.objs.size (fun k => (met (sgn x) x.cps.size).any (· == k)) (met (sgn x) x.cps.size).length →
      (∀ b o, b < s.heap.objs.size → s.heap.get? b = some o → h'.get? b = some o) → Q (.ref s.heap.objs.size) { s with heap := h', toks := tk }) :
    wpAny (model prog w) A (call (.type "set") [.str x t]) Q E s := by
  obtain ⟨cc, ctl, r0⟩ := PySem.F.called_set.mro
  have r1 := PySem.F.called_set.made
  have r2 := PySem.F.called_set.sub
  refine wpAny_call (codeAny_of_tree ?_)
  show wpAny _ _ (callAny (.type "set") _) _ _ _
  refine wpAny_pure ⟨Code.quiet_builtin _ (by decide +kernel), codeAny_builtin PySem.F.entry_type_call ?_⟩
  rw [Around.under_plain (weight_type_call_type "set" [.str x t] []) rfl]
  have r3 := PySem.F.called_set.notType
  have r4 := PySem.F.called_set.canCreate
  have r5 := PySem.F.typeCall_set_1 (.str x t)
  repeat (any_goals (first | assumption | wp_step))

  refine codeAny_mono (code_set_new_1 (.str x t) (E := E) (Q₁ := fun r s1 => ∃ fol : Bool, r = .ref s.heap.objs.size ∧ s1 = { s with heap := s.heap.push { cls := .type "set", dict := none, data := .set #[] 0 (.fresh 0 0 fol) } }) fun fol => ⟨fol, rfl, rfl⟩) fun r s1 hr => ?_
  cases r with
  | error e => exact hr
  | ok fl =>
    cases fl with
    | ret ob =>
      obtain ⟨fol, rfl, rfl⟩ := hr
      have q0 : (s.heap.push { cls := .type "set", dict := none, data := .set #[] 0 (.fresh 0 0 fol) }).get? s.heap.objs.size = some { cls := .type "set", dict := none, data := .set #[] 0 (.fresh 0 0 fol) } := Heap.get?_push_size _ rfl
      have q1 : Shared.TypeIs { s with heap := s.heap.push { cls := .type "set", dict := none, data := .set #[] 0 (.fresh 0 0 fol) } } (.ref s.heap.objs.size) "set" := ⟨_, q0, rfl⟩
      have q2 := PySem.F.called_set.init.lookup
      have q3 := PySem.F.called_set.init.bind (.ref s.heap.objs.size)
      repeat (any_goals (first | assumption | wp_step))

      refine codeAny_mono (codeAny_call_builtin (R := wants (fun r s2 => r = .none ∧ ∃ h' tk, s2 = { s with heap := h', toks := tk } ∧
          h'.SetOf (PySem.strKind prog w) s.heap.objs.size (fun k => (met (sgn x) x.cps.size).any (· == k)) (met (sgn x) x.cps.size).length ∧
          (∀ b o, b < s.heap.objs.size → s.heap.get? b = some o → h'.get? b = some o)) E) PySem.F.called_set.init.plain PySem.F.entry_set_init (check_set_init_1 q1 ?_)) fun r2 s2 hr2 => ?_
      · have u1 := PySem.F.sub_str_set
        have u2 := PySem.F.sub_str_frozenset
        have u3 : (Value.type "str" == Value.type "dict") = false := by decide
        unfold Builtin.«set.__init__» noKeywords Builtin.Frozenset.updateFrom
        generalize hPI : pyIter = PI
        wp_walk
        subst hPI

        refine wpAny_pyIter_str fun o St hW hst => ?_
        refine wpAny_bind (wpAny_runValue ?_)
        have hz : s.heap.objs.size ∉ [(s.heap.push { cls := .type "set", dict := none, data := .set #[] 0 (.fresh 0 0 fol) }).objs.size] := by
          rw [Heap.size_push, List.mem_singleton]
          exact Nat.ne_of_lt (Nat.lt_succ_self _)
        refine fill (hW _ (by simp [quiet])).toS s.heap.objs.size hz (sgn x) ?vals few (x.cps.size - 0) 0 _ (by omega) (Nat.zero_le _) hst ?first ?last
        case vals =>
          rintro i v ⟨c, u, hc, rfl⟩
          refine ⟨u, ?_⟩
          have e : (tl x)[i]? = some c := by
            show x.cps.toList[i]? = some c
            rw [Array.getElem?_toList]
            exact hc
          unfold sgn
          rw [List.getD_eq_getElem?_getD, e]
          rfl
        case first =>
          have hget : ((s.heap.push { cls := .type "set", dict := none, data := .set #[] 0 (.fresh 0 0 fol) }).push o).get? s.heap.objs.size = some { cls := .type "set", dict := none, data := .set #[] 0 (.fresh 0 0 fol) } := Heap.get?_push_of_some _ q0
          exact SetOf_congr ((setObjOf_fresh (knd := PySem.strKind prog w) fol).setOf hget (by unfold scanBound; omega)) (fun _ => rfl) rfl
        case last =>
          intro s3 mv hS3
          obtain ⟨h3, g3, d3, tk3, os3⟩ := s3
          obtain rfl : g3 = s.gens := mv.gens
          obtain rfl : d3 = s.drawn := mv.drawn
          obtain rfl : os3 = s.os := mv.os
          show wpAny _ _ _ _ _ _
          refine wpAny_pure ?_
          show wpAny _ _ (ret Value.none) _ _ _
          refine wpAny_pure ⟨rfl, h3, tk3, rfl, hS3, fun b o2 hb e => ?_⟩
          refine mv.heap b o2 ?_ (Heap.get?_push_of_some _ (Heap.get?_push_of_some _ e))
          rw [Heap.size_push, List.mem_cons, List.mem_singleton]
          rintro (q | q) <;> rw [q] at hb
          · exact Nat.lt_irrefl _ hb
          · exact Nat.lt_irrefl _ (Nat.lt_trans (Nat.lt_succ_self _) hb)

      · cases r2 with
        | error e => exact hr2
        | ok fl2 =>
          cases fl2 with
          | ret r3 =>
            obtain ⟨rfl, h', tk, rfl, hS5, kp⟩ := hr2
            repeat (any_goals (first | assumption | wp_step))
            exact go _ _ hS5 kp
          | _ => exact hr2.elim
    | _ => exact hr.elim
end
/-- how many signs a text has, each once -/
def distN (l : List Nat) : Nat := (met (sgn (Wk.sx l)) l.length).length
theorem distN_le (l : List Nat) : distN l ≤ l.length := met_len _ _
theorem distN_all (l : List Nat) : distN l = l.length ↔ l.Nodup := by
  unfold distN
  rw [met_full]
  unfold List.Nodup
  rw [List.pairwise_iff_getElem]
  constructor
  · intro h i j hi hj hij q
    refine h i j hij hj ?_
    show (⟨#[l.getD i 0]⟩ : Str) = ⟨#[l.getD j 0]⟩
    rw [List.getD_eq_getElem?_getD, List.getD_eq_getElem?_getD, List.getElem?_eq_getElem hi, List.getElem?_eq_getElem hj, q]
  · intro h i j hij hj q
    refine h i j (by omega) hj hij ?_
    have q1 : (⟨#[l.getD i 0]⟩ : Str) = ⟨#[l.getD j 0]⟩ := q
    have q2 : [l.getD i 0] = [l.getD j 0] := congrArg tl q1
    have q3 : l.getD i 0 = l.getD j 0 := List.head_eq_of_cons_eq q2
    rw [List.getD_eq_getElem?_getD, List.getD_eq_getElem?_getD, List.getElem?_eq_getElem (by omega), List.getElem?_eq_getElem hj] at q3
    exact q3
/-- len(set(text)) -/
def tSigns (ta : TE) : TE := fun σ H Q => ta σ H fun x H1 => match x with
  | .str z => (tl z).length ≤ 4000 ∧ Q (.int (distN (tl z) : Nat)) H1
  | _ => False
section
variable {X : Cx}
theorem pe_signs {a : Expr} {ta : TE} {p p2 q pos : Pos} (hc : X.calm = true) (hg : Gl X "len") (hm : X.mg "len" = none) (hg2 : Gl X "set") (hm2 : X.mg "set" = none) (ha : PE X a ta)
    (na : starEach [a] X.env = (false, eval a X.env) :: starEach [] X.env := by rfl) : PE X (.Call (.Name "len" p) [.Call (.Name "set" p2) [a] [] q] [] pos) (tSigns ta) := by
  refine ⟨fun pins s σ H Q I h => ?_⟩
  refine Call_ (ld_blt I hg hm boot_len ?_)
  refine PyProof.Rows.callWith_builtin1 (PyProof.Rows.args_cons ?_ rfl) rfl rfl
  refine Call_ (ld_blt I hg2 hm2 boot_set ?_)
  refine PyProof.Rows.callWith_type1 (PyProof.Rows.args_cons (thn (ha.run pins s σ H _ I h) fun v s1 ⟨x, H1, I1, r, g⟩ => PyProof.Rows.args_nil ?_) na) na rfl
  cases x with
  | str z =>
    obtain ⟨t, rfl⟩ := r
    obtain ⟨few, g⟩ := g
    have few2 : z.cps.size ≤ 4000 := few
    refine new_of_text (I1.ok.hd hc) (by unfold scanBound; omega) fun h' tk hS kp => PyProof.Rows.args_nil ?_
    obtain ⟨o, es, ep, tb, ho, hex, hd, _, _, _, hf, hn⟩ := hS
    have I2 : Inv X pins σ H1 { s1 with heap := h', toks := tk } := I1.kept fun b o e => kp b o (Heap.lt_size e) e
    have hle : (met (sgn z) z.cps.size).length ≤ z.cps.size := met_len _ _
    have ed : (met (sgn z) z.cps.size).length = distN (tl z) := rfl
    refine call_len_set ho hex hd hf (by rw [hn]; omega) ⟨.int (distN (tl z) : Nat), H1, I2.tok _, ⟨_, by rw [hn, ed]⟩, g⟩
  | _ => exact False.elim g
end
end WkS

/-! own: enumerate over a text, a list, a tuple; isinstance; tuple(..); is None -/
namespace PySem
theorem meets_enum1 {v : Value} {ob : Obj} {Bg : Heap → Prop} (B : Begins v ob Bg) : Meets (Builtin.«enumerate.__new__» ⟨[.type "enumerate", v], []⟩) (fun _ R s => Bg s.heap ∧
      R (.ok (.ret (.ref (s.heap.push ob).objs.size))) { s with heap := (s.heap.push ob).push { cls := .type "enumerate", data := .fields #[.none, .bool false, .ref s.heap.objs.size, rawInt 0, .none, .none] } }) :=
  .of_wp fun prog w A R s h => by
    obtain ⟨hp, gs, dr, tk, sy⟩ := s
    obtain ⟨h1, h⟩ := h
    have hsub := sub_enumerate
    have road : ∀ {A' : Around} {E : Value → Shared → Prop} {Q : Value → Shared → Prop}, Q (.ref hp.objs.size) ⟨hp.push ob, gs, dr, tk, sy⟩ → wpAny (model prog w) A' (pyIter v) Q E ⟨hp, gs, dr, tk, sy⟩ :=
      fun q => B.iter prog w _ _ ⟨hp, gs, dr, tk, sy⟩ _ h1 q
    wp_walk using road
    refine wpAny_stack_any fun st => wpAny_pure ?_
    split
    · rename_i c _ _ _ _ _
      cases (c == Value.type "enumerate") <;> (wp_walk using road; exact ⟨_, rfl, h⟩)
    · wp_walk using road
      exact ⟨_, rfl, h⟩
theorem enum_one {prog : Program} {w : World} {A : Around} {E : Value → Shared → Prop} {s : Shared} {v : Value} {ob : Obj} {Bg : Heap → Prop} {Q : Value → Shared → Prop} (B : Begins v ob Bg) (h1 : Bg s.heap)
    (go : ∀ h', IsEnum h' (s.heap.objs.size + 1) s.heap.objs.size 0 .none → h'.get? s.heap.objs.size = some ob → (∀ b o, s.heap.get? b = some o → h'.get? b = some o) → Q (.ref (s.heap.objs.size + 1)) { s with heap := h' }) :
    wpAny (model prog w) A (call (.type "enumerate") [v]) Q E s := by
  refine callType_new F.called_enumerate (by decide) (F.typeCall_enumerate_1 _) (F.newCall_enumerate_1 _) (fun obj => F.args_object_init_2 obj _) F.entry_enumerate_new (meets_enum1 B) ⟨h1, ?_⟩
  have ez : (s.heap.push ob).objs.size = s.heap.objs.size + 1 := Heap.size_push ..
  show _ ∧ _
  rw [ez]
  have at1 : IsEnum ((s.heap.push ob).push { cls := .type "enumerate", data := .fields #[.none, .bool false, .ref s.heap.objs.size, rawInt 0, .none, .none] }) (s.heap.objs.size + 1) s.heap.objs.size 0 .none := by
    have q := Heap.get?_push_size (s.heap.push ob) (o := { cls := .type "enumerate", data := .fields #[.none, .bool false, .ref s.heap.objs.size, rawInt 0, .none, .none] }) rfl
    rw [ez] at q
    exact q
  exact ⟨⟨_, at1, rfl⟩, go _ at1 (Heap.get?_push_of_some _ (Heap.get?_push_size _ B.free)) fun b o x => Heap.get?_push_of_some _ (Heap.get?_push_of_some _ x)⟩
end PySem
namespace Wk
open PySem PySem.Spec PyProof.Rows L2
open TL (tl len_tl ext_tl tl_append mk_tl)
/-- places and what stands there -/
def ItE (n : Nat) (ys : Nat → Option V) (G : Hp → Prop) : It :=
  ⟨fun i H => i < n ∧ G H, fun i H v H' => ∃ T x, v = .ref T ∧ H T = none ∧ H' = upd H T (.tup [.int (i : Nat), x]) ∧ ys i = some x, fun i H => i = n ∧ G H⟩
def YEn (ys : Nat → Option V) (i : Nat) (H : Hp) (v : V) (H' : Hp) : Prop := ∃ T x, v = .ref T ∧ H T = none ∧ H' = upd H T (.tup [.int (i : Nat), x]) ∧ ys i = some x
theorem walk_E {n : Nat} {ys : Nat → Option V} {G : Hp → Prop} : Walk (ItE n ys G) n G (YEn ys) :=
  ⟨fun _ _ hi q => ⟨hi, q⟩, fun _ q => ⟨rfl, q⟩, fun _ _ _ _ _ _ y => y⟩
theorem turn_E {P : Program} {w : World} {K : PySem.W.Frag} {elts : List Expr} {kk : Nat} {tpos : Pos} {n : Nat} {ys : Nat → Option V} {G : Hp → Prop} {S : Nat → Heap → Prop} {I0 : Nat} (D : Drw P w K I0 n ys G S) :
    Turn P w K (.Tuple elts kk tpos) (ItE n ys G) [I0 + 1, I0] (I0 + 1) (fun i h => (∃ old, IsEnum h (I0 + 1) I0 ((i : Nat) : Int) old) ∧ S i h) where
  mem := by simp
  obj := fun i h st c hc => by
    obtain ⟨⟨old, he⟩, hs⟩ := st
    have e : c = I0 + 1 ∨ c = I0 := by simpa using hc
    rcases e with q | q
    · rw [q]; exact ⟨_, he, fun v q => nomatch q⟩
    · rw [q]; exact D.obj i h hs
  keep := fun i h h' st k => by
    obtain ⟨⟨old, he⟩, hs⟩ := st
    exact ⟨⟨old, k _ (by simp) _ he⟩, D.keep _ _ _ hs fun o q => k _ (by simp) o q⟩
  item := by
    intro X hP hw hK hc i pins s σ H E I hf st hg
    obtain ⟨hlt, g⟩ := hg
    obtain ⟨fp, PV, St, dr, m, sp, to, of, val⟩ := D.drw X hP hw hK pins σ H s I g ⟨i, st.2⟩ (hf _ (by simp))
    subst hP hw hK
    have hA : X.A.in1.handled = none := by
      have := I.ok.hd hc
      first | exact this | (show X.A.handled = none; exact this)
    have out : I0 + 1 ∉ fp := fun q => (sp _ q).elim (fun e => absurd e (Nat.succ_ne_self _)) fun z => z (hf _ (by simp))
    have W := WalksT.enumerateD (prog := X.prog) (w := X.w) (A := X.A) (dr _ hA) (I0 + 1) (Nat.succ_ne_self _) out m
    obtain ⟨he, hs⟩ := st
    refine W.item i s _ _ hlt ⟨he, to i hs⟩ fun T vals h' tk hPt hT hTup hMid hk => ?_
    obtain ⟨t, x, px, rfl⟩ := hPt
    obtain ⟨y, ey, ry⟩ := val i x px
    have ap := W.apart i T h' hMid
    refine ⟨.ref T, rfl, W.go elts kk tpos i T { s with heap := h', toks := tk } _ _ hMid fun h2 st2 hk2 => ?_⟩
    have hT2 : IsTup h2 T #[.int (i : Nat) t, x] := by
      obtain ⟨o, ho, r⟩ := hTup
      exact ⟨o, hk2 T o ap ho, r⟩
    have new : ObjOk X.prog X.w (upd H T (.tup [.int (i : Nat), y])) h2 T (.tup [.int (i : Nat), y]) := ⟨by show 2 ≤ sizeLine; decide, [.int (i : Nat) t, x], .cons ⟨_, rfl⟩ (.cons ry .nil), hT2⟩
    have I1 : Inv X pins σ (upd H T (.tup [.int (i : Nat), y])) { s with heap := h2, toks := tk } :=
      I.turnedNew (ch := [I0 + 1, I0]) (fun c o hb q => hk2 c o hb (hk c o hb q)) hf hT new
    refine ⟨.ref T, _, I1, rfl, ⟨T, y, rfl, I.hok.fresh hT, rfl, ey⟩, ⟨st2.1, of _ _ st2.2⟩, fun c hcm => ?_⟩
    have hlt2 : c < s.heap.objs.size := by
      have e : c = I0 + 1 ∨ c = I0 := by simpa using hcm
      rcases e with q | q
      · rw [q]; obtain ⟨_, e⟩ := he; exact Heap.lt_size e
      · rw [q]; obtain ⟨_, e, _⟩ := D.obj _ _ hs; exact Heap.lt_size e
    rw [upd_ne (Nat.ne_of_lt (Nat.lt_of_lt_of_le hlt2 hT))]
    exact (hf c hcm).1
  done := by
    intro X hP hw hK hc i pins s σ H E I hf st hg
    obtain ⟨rfl, g⟩ := hg
    obtain ⟨fp, PV, St, dr, m, sp, to, of, val⟩ := D.drw X hP hw hK pins σ H s I g ⟨i, st.2⟩ (hf _ (by simp))
    subst hP hw hK
    have hA : X.A.in1.handled = none := by
      have := I.ok.hd hc
      first | exact this | (show X.A.handled = none; exact this)
    have out : I0 + 1 ∉ fp := fun q => (sp _ q).elim (fun e => absurd e (Nat.succ_ne_self _)) fun z => z (hf _ (by simp))
    have W := WalksT.enumerateD (prog := X.prog) (w := X.w) (A := X.A) (dr _ hA) (I0 + 1) (Nat.succ_ne_self _) out m
    obtain ⟨he, hs⟩ := st
    exact W.done s _ _ ⟨he, to _ hs⟩ fun h' tk hk => ⟨rfl, I.turnedL (ch := [I0 + 1, I0]) (fun c o hb q => hk c o hb q) hf⟩
  self := fun A i s Q E st h => by
    obtain ⟨⟨old, he⟩, _⟩ := st
    exact wpAny_pyIter_enum he h
def iEnumG (K : PySem.W.Frag) (ta : TA) : TI := fun σ H R => ta σ H fun vs H1 => ∃ v n ys G, vs = [v] ∧ SrcV K H1 v n ys G ∧ R (ItE n ys G) H1
theorem pi_enumG {X : Cx} {e : Expr} {ta : TA} {p pos tpos : Pos} {elts : List Expr} {kk : Nat} (hg : Gl X "enumerate") (hm : X.mg "enumerate" = none) (ha : PA X [e] ta)
    (hs : starEach [e] X.env = [(false, eval e X.env)] := by rfl) : PI X (.Tuple elts kk tpos) (.Call (.Name "enumerate" p) [e] [] pos) (iEnumG X.K ta) := by
  refine ⟨fun pins s σ H R I h => ?_⟩
  refine Call_ (ld_blt I hg hm boot_enumerate (PyProof.Rows.callWith_type1 (thn (ha.run pos pins s σ H _ I h) fun us s1 ⟨vs, H1, I1, r1, q1⟩ => ?_) hs rfl))
  obtain ⟨v, n, ys, G, rfl, sc, q⟩ := q1
  obtain ⟨u, rfl, rv⟩ := vals1 r1
  obtain ⟨o1, B1, b1, hb1, d1⟩ := sc.begins I1 rv
  refine enum_one b1 hb1 fun h' he g1 hk => wpAny_pyIter_enum he ?_
  obtain ⟨S1, D1, st1⟩ := d1 s1.heap.objs.size
  have I2 : Inv X pins σ H1 { s1 with heap := h' } := I1.kept (t' := s1.toks) hk
  refine ⟨s1.heap.objs.size + 1, [s1.heap.objs.size + 1, s1.heap.objs.size], _, _, H1, rfl, I2, turn_E D1, ⟨⟨_, he⟩, st1 h' g1⟩, fun c hcm => ?_, q⟩
  have e' : c = s1.heap.objs.size + 1 ∨ c = s1.heap.objs.size := by simpa using hcm
  have hle : s1.heap.objs.size ≤ c := by
    rcases e' with z | z <;> (rw [z]; first | exact Nat.le_refl _ | exact Nat.le_add_right _ _)
  exact I1.fpOk hle (I1.hok.fresh hle)
/-! ## of what type -/
/-- isinstance(x, c): the type, and what the library says of the two -/
def rIsi1 (K : PySem.W.Frag) : List V → Hp → VK → Prop := fun xs H Q => match xs with
  | [x, .ty c] => ∃ t b, TyX K H x (.type t) ∧ kitB t c = some b ∧ Q (.bl b) H
  | [x, .ref C] => ∃ t b, TyX K H x t ∧ PySem.W.kitOne K t (.ref C) = some b ∧ Q (.bl b) H
  | _ => False
def rTup1 (K : PySem.W.Frag) : List V → Hp → VK → Prop := fun xs H Q => match xs with
  | [.ref p] => ∃ ys, (SqL K H p ys ∧ ∀ l, H l = none → Q (.ref l) (upd H l (.tup ys))) ∨ (SqT K H p ys ∧ Q (.ref p) H)
  | _ => False
def rIsNone : R2 := fun x y H Q => y = .non ∧ Q (.bl (decide (x = .non))) H
def rNotNone : R2 := fun x y H Q => y = .non ∧ Q (.bl (!decide (x = .non))) H
section
variable {X : Cx}
theorem call_isi1 : CallR X (.builtin "isinstance") (rIsi1 X.K) := by
  intro pins s σ H xs us Q I r h
  refine call_isi pins s σ H xs us Q I r ?_
  unfold rIsi1 at h
  split at h
  · obtain ⟨t, b, h1, h2, h3⟩ := h
    exact ⟨_, _, _, _, b, rfl, .ty _, h1, kit_ty h2, h3⟩
  · obtain ⟨t, b, h1, h2, h3⟩ := h
    exact ⟨_, _, _, _, b, rfl, .own _, h1, h2, h3⟩
  · exact False.elim h
theorem call_tup1 : CallR X (.type "tuple") (rTup1 X.K) := by
  intro pins s σ H xs us Q I r h
  refine call_tuple_of pins s σ H xs us Q I r ?_
  unfold rTup1 at h
  split at h
  · obtain ⟨ys, h⟩ := h
    exact ⟨_, ys, rfl, h⟩
  · exact False.elim h
end
theorem kb_str : kitB "str" "str" = some true := by decide +kernel
theorem kb_int_str : kitB "int" "str" = some false := by decide +kernel
theorem kb_bool_str : kitB "bool" "str" = some false := by decide +kernel
theorem kb_non_str : kitB "NoneType" "str" = some false := by decide +kernel
theorem kb_list_str : kitB "list" "str" = some false := by decide +kernel
theorem kb_tuple_str : kitB "tuple" "str" = some false := by decide +kernel
theorem kb_dict_str : kitB "dict" "str" = some false := by decide +kernel
theorem kb_list : kitB "list" "list" = some true := by decide +kernel
theorem kb_tuple : kitB "tuple" "tuple" = some true := by decide +kernel
theorem tyx_list {K : PySem.W.Frag} {H : Hp} {a : Addr} {xs : List V} (h : SqL K H a xs) : TyX K H (.ref a) (.type "list") := by
  rcases h with (h | ⟨o, h⟩) | ⟨o, its, m, h2, h3, _⟩
  · exact .base (.lst h)
  · exact .base (.frz h)
  · exact .kList h2 h3
theorem tyx_tup {K : PySem.W.Frag} {H : Hp} {a : Addr} {xs : List V} (h : SqT K H a xs) : TyX K H (.ref a) (.type "tuple") := by
  rcases h with (h | ⟨o, h⟩) | ⟨o, its, m, h2, h3, _⟩
  · exact .base (.tup h)
  · exact .fTuple h
  · exact .kTuple h2 h3
/-! ## a written tuple as a global -/
def GT (K : PySem.W.Frag) (mg : Str → Option Value) (x : Str) (xs : List V) : Prop := ∃ a, mg x = some (.ref a) ∧ ∀ H : Hp, SqT K H a xs
theorem gt_mk {K : PySem.W.Frag} {h : Heap} {mg : Str → Option Value} {x : Str} {xs : List V} {a : Addr} {od : Option Addr} {its : Array Value} {n : Nat} {sl : Array (Option Value)} (X : K.In h) (G : h.Ns mainGlobals mg)
    (e : PySem.W.nsIn K mainGlobals x = some (some (.ref a))) (l : K.lookup a = some ⟨.type "tuple", od, .seq its n, sl⟩) (hs : its.size ≤ sizeLine) (r : Vals xs its.toList) : GT K mg x xs :=
  ⟨a, PySem.W.mg_of X G e, fun _ => .inr ⟨_, its, n, l, rfl, rfl, hs, r⟩⟩
def tGT (K : PySem.W.Frag) (xs : List V) : TE := fun _ H Q => ∀ a, SqT K H a xs → Q (.ref a) H
theorem pe_gt {X : Cx} {x : Str} {xs : List V} {pos : Pos} (hg : Gl X x) (h : GT X.K X.mg x xs) (hd : (x == ("__debug__" : Str)) = false) : PE X (.Name x pos) (tGT X.K xs) := by
  obtain ⟨a, e, q⟩ := h
  refine ⟨fun pins s σ H Q I hq => (pe_glob (v := .ref a) (u := .ref a) hg e (show Value.ref a = Value.ref a from rfl) hd).run pins s σ H Q I (hq a (q H))⟩
def GV (mg : Str → Option Value) (x : Str) (v : V) : Prop := ∃ u, mg x = some u ∧ RelV v u
theorem pe_gv {X : Cx} {x : Str} {v : V} {pos : Pos} (hg : Gl X x) (h : GV X.mg x v) (hd : (x == ("__debug__" : Str)) = false) : PE X (.Name x pos) (tC v) := by
  obtain ⟨u, e, r⟩ := h
  exact pe_glob hg e r hd
/-! ## a def with defaults behind -/
def DfD (K : PySem.W.Frag) (mg : Str → Option Value) (x : Str) (st : Stmt) (ps : List Str) (dvs : List V) : Prop :=
  ∃ f fd, FunD K x x (defArgs st) (defBody st) (defScope st) dvs [] f fd ∧ mg x = some (.ref f) ∧ Binds K fd ps [] ∧ ∃ ds, Vals dvs ds ∧ Binds K fd ps ds
theorem dfd_mk {K : PySem.W.Frag} {h : Heap} {mg : Str → Option Value} {x : Str} {st : Stmt} {ps : List Str} {dvs : List V} {f T : Addr} {oc tc : Value} {od an td : Option Addr} {osl tsl : Array (Option Value)} {kV doc pm cdv ct : Value} {its : List Value} {n m : Nat}
    (X : K.In h) (G : h.Ns mainGlobals mg) (a : PySem.W.nsIn K mainGlobals x = some (some (.ref f)))
    (l : K.lookup f = some ⟨oc, od, .func (PySem.W.fnOf x x (defArgs st) (defBody st) (defScope st) (.ref T) kV doc pm an cdv ct), osl⟩) (lT : K.lookup T = some ⟨tc, td, .seq its.toArray n, tsl⟩)
    (c : PySem.W.codeIn K cdv x = true) (k : PySem.W.keepIn K (.ref f) = true) (rv : Vals dvs its) (hd : dvs ≠ []) (hm : m + dvs.length = ps.length)
    (b1 : ∀ (T : Addr) (kV doc pm : Value) (an : Option Addr) (cdv ct : Value) (us its : List Value), us.length = ps.length → its.length = dvs.length →
      ∃ k, bindArgs (PySem.W.fnOf x x (defArgs st) (defBody st) (defScope st) (.ref T) kV doc pm an cdv ct) ⟨us, []⟩ = seqItems? (.ref T) >>= k ∧ k (some its.toArray) = pure (ps.zip (us ++ its.drop dvs.length)))
    (b0 : ∀ (T : Addr) (kV doc pm : Value) (an : Option Addr) (cdv ct : Value) (us its : List Value), us.length = m → its.length = dvs.length →
      ∃ k, bindArgs (PySem.W.fnOf x x (defArgs st) (defBody st) (defScope st) (.ref T) kV doc pm an cdv ct) ⟨us, []⟩ = seqItems? (.ref T) >>= k ∧ k (some its.toArray) = pure (ps.zip (us ++ its.drop 0))) : DfD K mg x st ps dvs := by
  have F : FunD K x x (defArgs st) (defBody st) (defScope st) dvs [] f _ := ⟨⟨oc, od, .ref T, kV, doc, pm, an, cdv, ct, osl, rfl, l, c, .inr ⟨hd, T, _, its, n, rfl, lT, rfl, rv⟩, .inl rfl⟩, k⟩
  refine ⟨f, _, F, PySem.W.mg_of X G a, ?_, ?_⟩
  · obtain ⟨ds, r, b⟩ := F.binds1 ps.length dvs.length hd (by omega) b1
    rw [List.drop_length] at r
    cases r
    exact b
  · exact F.binds1 m 0 hd (by omega) b0
structure CalD (P : Program) (w : World) (K : PySem.W.Frag) (mg : Str → Option Value) (base : Heap) (x : Str) (ps : List Str) (k : Nat) (dvs : List V) (sp : Sp) : Prop where
  ex : ∃ f fd ds, FnOk P w K mg base CX0 k f fd ps sp ∧ mg x = some (.ref f) ∧ PySem.W.keepIn K (.ref f) = true ∧ Binds K fd ps [] ∧ Vals dvs ds ∧ Binds K fd ps ds
theorem DfD.cal {P : Program} {w : World} {K : PySem.W.Frag} {mg : Str → Option Value} {base : Heap} {x : Str} {st : Stmt} {ps N : List Str} {k : Nat} {dvs : List V} {sp : Sp} (D : DfD K mg x st ps dvs) (S : FnScope N ps (defScope st))
    (len : ∀ vs H Q E, sp vs H Q E → vs.length = ps.length)
    (hbody : ∀ (f : Addr) (cdv : Value) (A : Around) (outer : List Env) (s : Shared) (H : Hp) (vs : List V) (Q : VK) (E : XK), Room k (A.deeper (envOfC x (defScope st) s.heap.objs.size f cdv)) → sp vs H Q E →
      ∃ t, PSs (cxOf CX0 P w K mg base N x (defScope st) f cdv A outer s H E).nox (defBody st) t ∧ t { nx := fun _ H' => Q .non H', rt := Q } (start N vs) H) : CalD P w K mg base x ps (k + 1) dvs sp := by
  obtain ⟨f, fd, F, hm, hb, ds, r, b⟩ := D
  exact ⟨f, fd, ds, F.ok S len fun cdv A outer s H vs Q E hr hsp => (hbody f cdv A outer s H vs Q E hr hsp).elim fun t h => ⟨t, h.1.nox, h.2⟩, hm, F.kp, hb, r, b⟩
section
variable {X : Cx} {x : Str} {ps : List Str} {k : Nat} {dvs : List V} {sp : Sp} {e : Expr} {es : List Expr} {t : TA} {p pos : Pos}
theorem CalD.call (c : CalD X.prog X.w X.K X.mg X.base x ps k dvs sp) (hr : Room k X.A) (hg : Gl X x) (ha : PA X (e :: es) t)
    (hdb : (x == ("__debug__" : Str)) = false := by decide) (he : starEach (e :: es) X.env = (false, eval e X.env) :: starEach es X.env := by rfl) (hpl : (backTo pos (starEach es X.env)).any (·.1) = false := by rfl) :
    PE X (.Call (.Name x p) (e :: es) [] pos) (tCall sp [] E0 t) := by
  obtain ⟨f, fd, ds, F, hm, hk, hb, _, _⟩ := c.ex
  exact pe_call F hr hg hm hk hb .nil pass0 ha hdb he hpl
theorem CalD.callD (c : CalD X.prog X.w X.K X.mg X.base x ps k dvs sp) (hr : Room k X.A) (hg : Gl X x) (ha : PA X (e :: es) t)
    (hdb : (x == ("__debug__" : Str)) = false := by decide) (he : starEach (e :: es) X.env = (false, eval e X.env) :: starEach es X.env := by rfl) (hpl : (backTo pos (starEach es X.env)).any (·.1) = false := by rfl) :
    PE X (.Call (.Name x p) (e :: es) [] pos) (tCall sp dvs E0 t) := by
  obtain ⟨f, fd, ds, F, hm, hk, _, r, hb⟩ := c.ex
  exact pe_call F hr hg hm hk hb r pass0 ha hdb he hpl
end
/-! ## while, with no word on the test -/
theorem while_w {c : TT} {tb : TS} {D : Ends} {σ : L2.St} {H : Hp} (Pv : L2.St → Hp → Prop) (μ : L2.St → Hp → Nat) (h0 : Pv σ H)
    (hs : ∀ σ H, Pv σ H → c σ H fun b H1 => if b = true then ∃ N : L2.St → Hp → Prop, (∀ σ' H', N σ' H' → ∃ m', m' < μ σ H ∧ (m' = μ σ' H' ∧ Pv σ' H')) ∧ tb { D with nx := N, ct := N, bk := D.nx } σ H1 else D.nx σ H1) : tWhile c tb D σ H :=
  ⟨fun m σ H => m = μ σ H ∧ Pv σ H, ⟨_, rfl, h0⟩, fun m σ H h => by
    obtain ⟨rfl, p⟩ := h
    exact hs σ H p⟩
/-- the next round, if all is kept and the measure fell -/
def Nxt (Pv : L2.St → Hp → Prop) (μ : L2.St → Hp → Nat) (m : Nat) : L2.St → Hp → Prop := fun σ' H' => Pv σ' H' ∧ μ σ' H' < m
theorem Nxt.ok {Pv : L2.St → Hp → Prop} {μ : L2.St → Hp → Nat} {m : Nat} : ∀ σ' H', Nxt Pv μ m σ' H' → ∃ m', m' < m ∧ (m' = μ σ' H' ∧ Pv σ' H') := fun _ _ h => ⟨_, h.2, rfl, h.1⟩
end Wk

namespace WkA
open PySem PySem.Spec PyProof.Rows L2 Wk
open TL (tl len_tl ext_tl tl_append mk_tl)
def t__law_pen (K : PySem.W.Frag) : TS :=
  (tRet (tDisp [((tC (tx [99, 101, 108, 108, 115])), (tCB (rList1 K) (tCons (tSl (rCut K) (tVar 0) tNoPart (tPart (tC (.int 63)))) tNil))), ((tC (tx [111, 112, 101, 110, 101, 100])), (tC (.int 0))), ((tC (tx [108, 101, 102, 116])), (tC (.int 0)))]))
def t__law_draw (K : PySem.W.Frag) : TS :=
  (tSeq (tIfS (tTest (tOp (rMore) (tDGet (tVar 0) (tC (tx [108, 101, 102, 116]))) (tC (.int 0)))) (tSeq (tAsg (tOp (rRest) (tCB (rInt1) (tCons (tDGet (tVar 0) (tC (tx [108, 101, 102, 116]))) tNil)) (tVar 1)) (gName 2))
    (tSeq (sDPut (tVar 0) (tC (tx [108, 101, 102, 116])) (tOp (rOver) (tDGet (tVar 0) (tC (tx [108, 101, 102, 116]))) (tVar 1)))
    (tRet (tVar 2)))) tNext)
    (tSeq (tPar 3 4 (tCons (tDGet (tVar 0) (tC (tx [111, 112, 101, 110, 101, 100]))) (tCons (tDGet (tVar 0) (tC (tx [99, 101, 108, 108, 115]))) tNil)))
    (tSeq (sDPut (tVar 0) (tC (tx [111, 112, 101, 110, 101, 100])) (tOp (rPlus K) (tVar 3) (tC (.int 1))))
    (tSeq (tIfS (tTest (tOp (rEqq K) (tVar 4) (tLst tNil))) (tRet (tOp (rRest) (tCB (rInt1) (tCons (tOp (rPlus K) (tOp (rTimes K) (tC (.int 7)) (tVar 3)) (tC (.int 3))) tNil)) (tVar 1))) tNext)
    (tSeq (tAsg (tOp (rItem K) (tVar 4) (tOp (rRest) (tCB (rInt1) (tCons (tVar 3) tNil)) (tCB (rLen K) (tCons (tVar 4) tNil)))) (gName 5))
    (tSeq (tIfS (tAnd (tTest (tOp (rLess) (tVar 3) (tCB (rLen K) (tCons (tVar 4) tNil)))) (tTest (tOp (rMeq) (tCB (rAbs) (tCons (tVar 5) tNil)) (tOp (rPower) (tC (.int 10)) (tC (.int 18)))))) (tSeq (sDPut (tVar 0) (tC (tx [108, 101, 102, 116])) (tOp (rOver) (tOp (rMinus) (tCB (rAbs) (tCons (tVar 5) tNil)) (tOp (rPower) (tC (.int 10)) (tC (.int 18)))) (tVar 1)))
    (tRet (tOp (rRest) (tCB (rInt1) (tCons (tOp (rMinus) (tCB (rAbs) (tCons (tVar 5) tNil)) (tOp (rPower) (tC (.int 10)) (tC (.int 18)))) tNil)) (tVar 1)))) tNext)
    (tSeq (tAsg (tOp (rRest) (tCB (rInt1) (tCons (tOp (rPlus K) (tOp (rPlus K) (tOp (rPlus K) (tOp (rTimes K) (tOp (rRest) (tCB (rInt1) (tCons (tVar 5) tNil)) (tC (.int 4294965521))) (tC (.int 43793))) (tOp (rTimes K) (tOp (rTimes K) (tC (.int 25999)) (tVar 3)) (tVar 3))) (tOp (rTimes K) (tC (.int 839)) (tVar 3))) (tC (.int 67))) tNil)) (tC (.int 4294965583))) (gName 6))
    (tSeq (tAsg (tOp (rRest) (tCB (rInt1) (tCons (tOp (rPlus K) (tOp (rPlus K) (tOp (rTimes K) (tVar 6) (tVar 6)) (tOp (rTimes K) (tC (.int 40163)) (tVar 6))) (tOp (rTimes K) (tC (.int 31)) (tVar 3))) tNil)) (tC (.int 4294965511))) (gName 6))
    (tRet (tOp (rRest) (tCB (rInt1) (tCons (tOp (rOver) (tOp (rRest) (tCB (rInt1) (tCons (tOp (rTimes K) (tVar 6) (tOp (rPlus K) (tVar 6) (tC (.int 60289)))) tNil)) (tC (.int 4294965491))) (tC (.int 128))) tNil)) (tVar 1)))))))))))
def t__law_pick (K : PySem.W.Frag) (s__law_draw : Sp) : TS :=
  (tRet (tOp (rItem K) (tVar 1) (tCall s__law_draw [] E0 (tCons (tVar 0) (tCons (tCB (rLen K) (tCons (tVar 1) tNil)) tNil)))))
def t__law_letters (K : PySem.W.Frag) (s__law_draw : Sp) (s__law_pick : Sp) : TS :=
  (tSeq (tAsg (tTup (tCons (tC (tx [97, 98, 99, 100, 101, 102, 103, 104, 105, 106, 107, 108, 109, 110, 111, 112, 113, 114, 115, 116, 117, 118, 119, 120, 121, 122])) (tCons (tCall s__law_draw [] E0 (tCons (tVar 0) (tCons (tC (.int 26)) tNil))) tNil))) (gTup K 2 (gCons (gName 1) (gCons (gName 2) gNil))))
    (tSeq (tAsg (tCall s__law_pick [] E0 (tCons (tVar 0) (tCons (tLst (tCons (tC (.int 1)) (tCons (tC (.int 3)) (tCons (tC (.int 5)) (tCons (tC (.int 7)) (tCons (tC (.int 9)) (tCons (tC (.int 11)) (tCons (tC (.int 15)) (tCons (tC (.int 17)) (tCons (tC (.int 19)) (tCons (tC (.int 21)) (tCons (tC (.int 23)) (tCons (tC (.int 25)) tNil))))))))))))) tNil))) (gName 3))
    (tRet (tM1 (rJoin K) (tC (tx [])) (tLc (iRng1 (tCons (tOp (rPlus K) (tC (.int 2)) (tCall s__law_draw [] E0 (tCons (tVar 0) (tCons (tC (.int 3)) tNil)))) tNil)) (gName 4) tYes (tOp (rItem K) (tVar 1) (tOp (rRest) (tCB (rInt1) (tCons (tOp (rPlus K) (tVar 2) (tOp (rTimes K) (tVar 3) (tVar 4))) tNil)) (tC (.int 26)))) [4])))))
def t__law_word (K : PySem.W.Frag) (s__law_draw : Sp) (s__law_pick : Sp) : TS :=
  (tSeq (tPar 3 4 (tCons (tCall s__law_draw [] E0 (tCons (tVar 0) (tCons (tC (.int 4)) tNil))) (tCons (tCall s__law_draw [] E0 (tCons (tVar 0) (tCons (tVar 2) tNil))) tNil)))
    (tSeq (tAsg (tM1 (rJoin K) (tC (tx [])) (tLc (iRng1 (tCons (tOp (rPlus K) (tC (.int 1)) (tCall s__law_draw [] E0 (tCons (tVar 0) (tCons (tC (.int 3)) tNil)))) tNil)) (gName 7) tYes (tCall s__law_pick [] E0 (tCons (tVar 0) (tCons (tVar 1) tNil))) [7])) (gName 5))
    (tSeq (tAsg (tSl (rCut K) (tOp (rTimes K) (tVar 5) (tVar 2)) tNoPart (tPart (tVar 2))) (gName 6))
    (tSeq (tIfS (tTest (tOp (rEqq K) (tVar 3) (tC (.int 0)))) (tRet (tM1 (rJoin K) (tC (tx [])) (tLc (iRng1 (tCons (tVar 2) tNil)) (gName 7) tYes (tCall s__law_pick [] E0 (tCons (tVar 0) (tCons (tVar 1) tNil))) [7]))) tNext)
    (tRet (tIf (tTest (tOp (rEqq K) (tVar 3) (tC (.int 1)))) (tOp (rPlus K) (tOp (rPlus K) (tSl (rCut K) (tVar 6) tNoPart (tPart (tVar 4))) (tCall s__law_pick [] E0 (tCons (tVar 0) (tCons (tVar 1) tNil)))) (tSl (rCut K) (tVar 6) (tPart (tOp (rPlus K) (tVar 4) (tC (.int 1)))) tNoPart)) (tVar 6)))))))
abbrev n__law_pen : List Str := ["_law_script"]
abbrev n__law_draw : List Str := ["_law_pen_here", "_law_many", "_law_digit", "_law_k", "_law_cells", "_law_cell", "_law_mix"]
abbrev n__law_pick : List Str := ["_law_pen_here", "_law_some"]
abbrev n__law_letters : List Str := ["_law_pen_here", "_law_small", "_law_first", "_law_pace", "_law_k"]
abbrev n__law_word : List Str := ["_law_pen_here", "_law_letters_here", "_law_width", "_law_way", "_law_at", "_law_piece", "_law_word_here", "_law_k"]
def t__law_draw_rest (K : PySem.W.Frag) : TS :=
  (tSeq (tAsg (tOp (rRest) (tCB (rInt1) (tCons (tOp (rPlus K) (tOp (rPlus K) (tOp (rPlus K) (tOp (rTimes K) (tOp (rRest) (tCB (rInt1) (tCons (tVar 5) tNil)) (tC (.int 4294965521))) (tC (.int 43793))) (tOp (rTimes K) (tOp (rTimes K) (tC (.int 25999)) (tVar 3)) (tVar 3))) (tOp (rTimes K) (tC (.int 839)) (tVar 3))) (tC (.int 67))) tNil)) (tC (.int 4294965583))) (gName 6))
    (tSeq (tAsg (tOp (rRest) (tCB (rInt1) (tCons (tOp (rPlus K) (tOp (rPlus K) (tOp (rTimes K) (tVar 6) (tVar 6)) (tOp (rTimes K) (tC (.int 40163)) (tVar 6))) (tOp (rTimes K) (tC (.int 31)) (tVar 3))) tNil)) (tC (.int 4294965511))) (gName 6))
    (tRet (tOp (rRest) (tCB (rInt1) (tCons (tOp (rOver) (tOp (rRest) (tCB (rInt1) (tCons (tOp (rTimes K) (tVar 6) (tOp (rPlus K) (tVar 6) (tC (.int 60289)))) tNil)) (tC (.int 4294965491))) (tC (.int 128))) tNil)) (tVar 1)))))
/-! ## the pen: a dict of the cells, how many were opened, what is left -/
def kC : Key := Sum.inr (sx [99, 101, 108, 108, 115])
def kO : Key := Sum.inr (sx [111, 112, 101, 110, 101, 100])
def kL : Key := Sum.inr (sx [108, 101, 102, 116])
theorem nCO : ¬ kC = kO := by decide +kernel
theorem nCL : ¬ kC = kL := by decide +kernel
theorem nOL : ¬ kO = kL := by decide +kernel
theorem nOC : ¬ kO = kC := by decide +kernel
theorem nLC : ¬ kL = kC := by decide +kernel
theorem nLO : ¬ kL = kO := by decide +kernel
def penD (c : Addr) (k l : Int) : List (Key × V) := [(kC, .ref c), (kO, .int k), (kL, .int l)]
theorem penD_C (c : Addr) (k l : Int) : valV (penD c k l) kC = some (.ref c) := valV_pos rfl
theorem penD_O (c : Addr) (k l : Int) : valV (penD c k l) kO = some (.int k) := by
  unfold penD
  rw [valV_neg nCO, valV_pos rfl]
theorem penD_L (c : Addr) (k l : Int) : valV (penD c k l) kL = some (.int l) := by
  unfold penD
  rw [valV_neg nCL, valV_neg nOL, valV_pos rfl]
theorem putK_O (c : Addr) (k l j : Int) : putK (penD c k l) kO (.int j) = penD c j l := by
  unfold putK penD
  simp [nCO, nLO]
theorem putK_L (c : Addr) (k l j : Int) : putK (penD c k l) kL (.int j) = penD c k j := by
  unfold putK penD
  simp [nCL, nOL]
/-- a pen at p over the cells at c, with which at most n cells were opened -/
def Pen (p c : Addr) (H : Hp) (n : Nat) : Prop := ∃ (k l : Int) (ns : List Int), H p = some (.dK (penD c k l)) ∧ H c = some (.lst (ns.map V.int)) ∧ ns.length ≤ 63 ∧ 0 ≤ k ∧ k ≤ n ∧ 0 ≤ l
section
variable {p c q : Addr} {H H1 H' : Hp} {n m : Nat} {o : HO}
theorem Pen.mono (h : Pen p c H n) (l : n ≤ m) : Pen p c H m := by
  obtain ⟨k, j, ns, h1, h2, h3, h4, h5, h6⟩ := h
  exact ⟨k, j, ns, h1, h2, h3, h4, by omega, h6⟩
theorem Pen.same (h : Pen p c H n) (s : Same H H') : Pen p c H' n := by
  obtain ⟨k, j, ns, h1, h2, r⟩ := h
  exact ⟨k, j, ns, s _ _ h1, s _ _ h2, r⟩
theorem Pen.at (h : Pen p c H n) : ∃ o, H p = some o := by
  obtain ⟨k, j, ns, h1, _⟩ := h
  exact ⟨_, h1⟩
theorem Pen.ne (h : Pen p c H n) (hq : H q = none) : q ≠ p ∧ q ≠ c := by
  obtain ⟨k, j, ns, h1, h2, _⟩ := h
  exact ⟨fun e => (by rw [e, h1] at hq; cases hq), fun e => (by rw [e, h2] at hq; cases hq)⟩
theorem Pen.put (h : Pen p c H n) (h1 : q ≠ p) (h2 : q ≠ c) : Pen p c (upd H q o) n := by
  obtain ⟨k, j, ns, e1, e2, r⟩ := h
  exact ⟨k, j, ns, by rw [upd_ne h1.symm]; exact e1, by rw [upd_ne h2.symm]; exact e2, r⟩
theorem Pen.new (h : Pen p c H n) (hq : H q = none) : Pen p c (upd H q o) n := h.put (h.ne hq).1 (h.ne hq).2
theorem Pen.dict (h : Pen p c H n) : ∀ o, H p = some o → (∀ ys, o ≠ .lst ys) ∧ ∀ u ys, o ≠ .frz u (.lst ys) := fun o e => by
  obtain ⟨k, j, ns, h1, _⟩ := h
  rw [h1] at e
  cases e
  exact ⟨fun ys z => (by cases z), fun u ys z => (by cases z)⟩
theorem Pen.dict2 (h : Pen p c H n) : ∀ o, H p = some o → (∀ ys, o ≠ .tup ys) ∧ ∀ u ys, o ≠ .frz u (.tup ys) := fun o e => by
  obtain ⟨k, j, ns, h1, _⟩ := h
  rw [h1] at e
  cases e
  exact ⟨fun ys z => (by cases z), fun u ys z => (by cases z)⟩
theorem Pen.ne_l {xs : List V} (h : Pen p c H n) (hq : H q = some (.lst xs)) : q ≠ p := fun e => by
  rw [e] at hq
  exact (h.dict _ hq).1 _ rfl
theorem Pen.ne_t {xs : List V} (h : Pen p c H n) (hq : H q = some (.tup xs)) : q ≠ p := fun e => by
  rw [e] at hq
  exact (h.dict2 _ hq).1 _ rfl
/-- the state behind some draws: the pen still one, all else as it was -/
structure Pn (p c : Addr) (H : Hp) (n : Nat) (H' : Hp) : Prop where
  pen : Pen p c H' n
  kp : Kp p H H'
theorem Pn.trans (a : Pn p c H n H1) (b : Pn p c H1 m H') : Pn p c H m H' := ⟨b.pen, a.kp.trans b.kp⟩
theorem Pn.new (a : Pn p c H n H') (h : H' q = none) : Pn p c H n (upd H' q o) := ⟨a.pen.new h, a.kp.new h⟩
/-- a thing changes that was not there at the beginning -/
theorem Pn.put (a : Pn p c H n H') (b : Pen p c H m) (h : H q = none) : Pn p c H n (upd H' q o) := ⟨a.pen.put (b.ne h).1 (b.ne h).2, a.kp.mut h⟩
theorem Pn.mono (a : Pn p c H n H') (l : n ≤ m) : Pn p c H m H' := ⟨a.pen.mono l, a.kp⟩
theorem Pn.refl (h : Pen p c H n) : Pn p c H n H := ⟨h, Kp.refl p H⟩
theorem Pn.same (h : Pen p c H n) (s : Same H H') : Pn p c H n H' := ⟨h.same s, Kp.of s⟩
theorem Pn.then (a : Pn p c H n H1) (s : Same H1 H') : Pn p c H n H' := a.trans (Pn.same a.pen s)
theorem Pn.back (a : Pn p c H n H') (h : H' q = none) : H q = none := a.kp.free a.pen.at h
theorem Pn.lst {xs : List V} (a : Pn p c H n H') (b : Pen p c H m) (h : H q = some (.lst xs)) : H' q = some (.lst xs) := a.kp _ _ (b.ne_l h) h
theorem Pn.tup {xs : List V} (a : Pn p c H n H') (b : Pen p c H m) (h : H q = some (.tup xs)) : H' q = some (.tup xs) := a.kp _ _ (b.ne_t h) h
theorem Pn.sqL {K : PySem.W.Frag} {xs : List V} (a : Pn p c H n H') (b : Pen p c H m) (h : SqL K H q xs) : SqL K H' q xs := sqL_kp a.kp b.dict h
theorem Pn.sqT {K : PySem.W.Frag} {xs : List V} (a : Pn p c H n H') (b : Pen p c H m) (h : SqT K H q xs) : SqT K H' q xs := sqT_kp a.kp b.dict2 h
end

/-! ## a number drawn -/
def spDraw : Sp := fun vs H Q _ => ∃ (p c : Addr) (n : Nat) (b : Int), vs = [.ref p, .int b] ∧ Pen p c H n ∧ n < 2 ^ 30 ∧ 0 < b ∧ b < 2 ^ 62 ∧
  ∀ (r : Int) (H' : Hp), 0 ≤ r → r < b → Pn p c H (n + 1) H' → Q (.int r) H'
theorem small_div {b : Int} (h0 : 0 < b) (h1 : b < 2 ^ 62) : ∀ i : Int, CDivW i b := fun i => wide_div (b := 62) h0 (by omega) (by decide) (by decide)
theorem mod_ok {b r : Int} (h0 : 0 < b) : 0 ≤ r % b ∧ r % b < b := ⟨Int.emod_nonneg r (by omega), Int.emod_lt_of_pos r h0⟩
theorem mulw {i j : Int} (hi : i.natAbs < 2 ^ 200) (hj : j.natAbs < 2 ^ 200) : CMulW i j := wide_mul hi hj (by decide) (by decide) (by decide)
theorem rd_draw (K : PySem.W.Frag) (vs : List V) (H : Hp) (Q : VK) (E : XK) (h : spDraw vs H Q E) : t__law_draw K { nx := fun _ H' => Q .non H', rt := Q } (start n__law_draw vs) H := by
  obtain ⟨p, c, n, b, rfl, ⟨k, l, ns, hp, hc, hlen, k0, kn, l0⟩, hn, b0, bb, q⟩ := h
  have gC : ∀ {H : Hp} {k l : Int}, H p = some (.dK (penD c k l)) → DGet H p (kV kC) (some (.ref c)) := fun {H k l} e => by rw [← penD_C c k l]; exact DGet.k e
  have gO : ∀ {H : Hp} {k l : Int}, H p = some (.dK (penD c k l)) → DGet H p (kV kO) (some (.int k)) := fun {H k l} e => by rw [← penD_O c k l]; exact DGet.k e
  have gL : ∀ {H : Hp} {k l : Int}, H p = some (.dK (penD c k l)) → DGet H p (kV kL) (some (.int l)) := fun {H k l} e => by rw [← penD_L c k l]; exact DGet.k e
  have pO : ∀ {H : Hp} {k l j : Int}, H p = some (.dK (penD c k l)) → DPut H p (kV kO) (.int j) (upd H p (.dK (penD c j l))) := fun {H k l j} e => by rw [← putK_O c k l j]; exact DPut.k e (by show 3 < sizeLine; decide)
  have pL : ∀ {H : Hp} {k l j : Int}, H p = some (.dK (penD c k l)) → DPut H p (kV kL) (.int j) (upd H p (.dK (penD c k j))) := fun {H k l j} e => by rw [← putK_L c k l j]; exact DPut.k e (by show 3 < sizeLine; decide)
  have ncp : c ≠ p := ne_of hc hp (by intro z; cases z)
  have dv := small_div b0 bb
  -- the ways out: a rest by b, the pen behind it
  have out : ∀ (z : Int) (H' : Hp) (k' l' : Int), H' p = some (.dK (penD c k' l')) → H' c = some (.lst (ns.map V.int)) → 0 ≤ k' → k' ≤ n + 1 → 0 ≤ l' → Kp p H H' → Q (.int (z % b)) H' :=
    fun z H' k' l' e1 e2 e3 e4 e5 kp => q _ _ (mod_ok b0).1 (mod_ok b0).2 ⟨⟨k', l', ns, e1, e2, hlen, e3, by omega, e5⟩, kp⟩
  have kpp : ∀ (o : HO), Kp p H (upd H p o) := fun o b' u nb e => by rw [upd_ne nb]; exact e
  refine ⟨.ref p, rfl, p, .int l, rfl, gL hp, _, rfl, iteD (fun hl => ?_) (fun hl => ?_)⟩
  · -- a digit of what is left
    refine ⟨.ref p, rfl, p, .int l, rfl, gL hp, .int b, rfl, b0, ?_⟩
    refine ⟨.ref p, rfl, p, .int l, rfl, gL hp, .int b, rfl, dv l, .ref p, rfl, p, _, rfl, pL hp, _, rfl, ?_⟩
    exact out l _ k (l / b) upd_same (by rw [upd_ne ncp]; exact hc) k0 (by omega) (Int.ediv_nonneg l0 (by omega)) (kpp _)
  · refine ⟨.ref p, rfl, p, .int k, rfl, gO hp, .ref p, rfl, p, .ref c, rfl, gC hp, _, _, rfl, ?_⟩
    refine ⟨.int k, rfl, .ref p, rfl, p, _, rfl, pO hp, ?_⟩
    generalize hH1 : upd H p (.dK (penD c (k + 1) l)) = H1
    have hp1 : H1 p = some (.dK (penD c (k + 1) l)) := by rw [← hH1]; exact upd_same
    have hc1 : H1 c = some (.lst (ns.map V.int)) := by rw [← hH1, upd_ne ncp]; exact hc
    have kp1 : Kp p H H1 := by rw [← hH1]; exact kpp _
    clear hH1
    refine ⟨.ref c, rfl, Nat.zero_le _, fun e he => ?_⟩
    have nep : p ≠ e := ne_of_none hp1 he
    have nec : c ≠ e := ne_of_none hc1 he
    refine ⟨.list (ns.map PyData.int), .list [], .lst (SqL.of (by rw [upd_ne nec]; exact hc1)) (dp_ints ns), .lst (SqL.of upd_same) .nil, ?_, _, rfl, ?_⟩
    · simp only [PyData.depth, depth_ints, PyData.depthAll]; decide
    generalize hH2 : upd H1 e (.lst []) = H2
    have hp2 : H2 p = some (.dK (penD c (k + 1) l)) := by rw [← hH2, upd_ne nep]; exact hp1
    have hc2 : H2 c = some (.lst (ns.map V.int)) := by rw [← hH2, upd_ne nec]; exact hc1
    have kp2 : Kp p H H2 := by rw [← hH2]; exact kp1.new he
    clear hH2
    refine iteB (fun hz => ?_) (fun hz => ?_)
    · refine ⟨.int k, rfl, mulw (by decide) (by omega), .int b, rfl, b0, ?_⟩
      exact out _ H2 (k + 1) l hp2 hc2 (by omega) (by omega) l0 kp2
    · have hne : ns ≠ [] := fun e => by rw [e] at hz; simp [PyData.eqv, PyData.eqvAll] at hz
      have hpos : 0 < ns.length := by
        cases ns with
        | nil => exact absurd rfl hne
        | cons a r => exact Nat.succ_pos _
      have hix : ∃ j : Nat, k % (((ns.map V.int).length : Nat) : Int) = (j : Int) ∧ j < ns.length := by
        have hl : (((ns.map V.int).length : Nat) : Int) = (ns.length : Int) := by rw [List.length_map]
        rw [hl]
        have h1 := Int.emod_nonneg k (show (ns.length : Int) ≠ 0 by omega)
        have h2 := Int.emod_lt_of_pos k (show (0 : Int) < ns.length by omega)
        exact ⟨(k % (ns.length : Int)).toNat, by omega, by omega⟩
      obtain ⟨j, hj, hjl⟩ := hix
      have hat : atI (ns.map V.int) (k % (((ns.map V.int).length : Nat) : Int)) = some (V.int ns[j]) := by
        rw [hj]
        exact atI_nat (by rw [List.getElem?_map, List.getElem?_eq_getElem hjl]; rfl)
      refine ⟨.ref c, rfl, .int k, rfl, .ref c, rfl, ns.map V.int, .inl (SqL.of hc2), by rw [List.length_map]; omega, ns.map V.int, V.int ns[j], .inl (SqL.of hc2), hat, ?_⟩
      generalize ns[j] = cell
      have fin : ∀ (b' : Bool), b' = true ∨ b' = false := fun b' => by cases b' <;> simp
      -- the rest of the body, where the cell is not a large one
      have mixed : ∀ (k' : Int), k' = k → t__law_draw_rest K { nx := fun _ H' => Q .non H', rt := Q } [some (.ref p), some (.int b), none, some (.int k), some (.ref c), some (.int cell), none] H2 := fun k' _ => by
        have c1 := mod_ok (b := 4294965521) (r := cell) (by decide)
        have h1 : (25999 * k * k).natAbs < 2 ^ 200 := by
          rw [Int.natAbs_mul, Int.natAbs_mul]
          have e1 : k.natAbs < 2 ^ 40 := by omega
          calc 25999 * k.natAbs * k.natAbs ≤ 25999 * 2 ^ 40 * 2 ^ 40 := Nat.mul_le_mul (Nat.mul_le_mul (Nat.le_refl _) (by omega)) (by omega)
            _ < 2 ^ 200 := by decide
        refine ⟨.int cell, rfl, by decide, mulw (by omega) (by decide), .int k, rfl, mulw (by decide) (by omega), .int k, rfl, mulw (by omega) (by omega), .int k, rfl, mulw (by decide) (by omega), by decide, ?_⟩
        generalize (cell % 4294965521 * 43793 + 25999 * k * k + 839 * k + 67) = z1
        have c2 := mod_ok (b := 4294965583) (r := z1) (by decide)
        generalize z1 % 4294965583 = m1 at c2
        refine ⟨.int m1, rfl, .int m1, rfl, mulw (by omega) (by omega), .int m1, rfl, mulw (by decide) (by omega), .int k, rfl, mulw (by decide) (by omega), by decide, ?_⟩
        generalize (m1 * m1 + 40163 * m1 + 31 * k) = z2
        have c3 := mod_ok (b := 4294965511) (r := z2) (by decide)
        generalize z2 % 4294965511 = m2 at c3
        refine ⟨.int m2, rfl, .int m2, rfl, mulw (by omega) (by omega), by decide, small_div (by decide) (by decide) _, .int b, rfl, b0, ?_⟩
        exact out _ H2 (k + 1) l hp2 hc2 (by omega) (by omega) l0 kp2
      refine ⟨.int k, rfl, .ref c, rfl, ns.map V.int, .inl (SqL.of hc2), _, rfl, iteD (fun hk => ?_) (fun hk => ?_)⟩
      · refine ⟨.int cell, rfl, ⟨by decide, by decide, by decide⟩, _, rfl, iteD (fun hg => ?_) (fun hg => ?_)⟩
        · refine ⟨.int cell, rfl, ⟨by decide, by decide, by decide⟩, .int b, rfl, dv _, .ref p, rfl, p, _, rfl, pL hp2, .int cell, rfl, ⟨by decide, by decide, by decide⟩, .int b, rfl, b0, ?_⟩
          refine out _ _ (k + 1) _ upd_same (by rw [upd_ne ncp]; exact hc2) (by omega) (by omega) (Int.ediv_nonneg ?_ (by omega)) (fun b' u nb e => by rw [upd_ne nb]; exact kp2 b' u nb e)
          have e : (10 : Int) ^ (Int.toNat 18) = 1000000000000000000 := by decide
          rw [e] at hg ⊢
          omega
        · exact mixed k rfl
      · exact mixed k rfl

/-! ## one of some things: of a list, a tuple, a text -/
def spPick (K : PySem.W.Frag) : Sp := fun vs H Q _ => ∃ (p c : Addr) (n : Nat), Pen p c H n ∧ n < 2 ^ 30 ∧
  ((∃ (a : Addr) (xs : List V), vs = [.ref p, .ref a] ∧ (SqL K H a xs ∨ SqT K H a xs) ∧ 0 < xs.length ∧ xs.length ≤ 100000 ∧ ∀ (v : V) (H' : Hp), v ∈ xs → Pn p c H (n + 1) H' → Q v H') ∨
   (∃ l : List Nat, vs = [.ref p, tx l] ∧ 0 < l.length ∧ l.length ≤ 100000 ∧ ∀ (s : Nat) (H' : Hp), s ∈ l → Pn p c H (n + 1) H' → Q (tx [s]) H'))
theorem at_in {α : Type} {xs : List α} {r : Int} (h0 : 0 ≤ r) (h1 : r < (xs.length : Nat)) : ∃ v, atI xs r = some v ∧ v ∈ xs := by
  obtain ⟨j, rfl⟩ : ∃ j : Nat, r = j := ⟨r.toNat, by omega⟩
  have hj : j < xs.length := by omega
  exact ⟨xs[j], atI_nat (List.getElem?_eq_getElem hj), List.getElem_mem hj⟩
theorem rd_pick (K : PySem.W.Frag) (vs : List V) (H : Hp) (Q : VK) (E : XK) (h : spPick K vs H Q E) : t__law_pick K spDraw { nx := fun _ H' => Q .non H', rt := Q } (start n__law_pick vs) H := by
  obtain ⟨p, c, n, hp, hn, ⟨a, xs, rfl, hx, h0, h1, q⟩ | ⟨l, rfl, h0, h1, q⟩⟩ := h
  · refine ⟨.ref a, rfl, .ref p, rfl, .ref a, rfl, xs, hx, p, c, n, _, rfl, hp, hn, by omega, by omega, fun r H' r0 r1 hP => ?_⟩
    obtain ⟨v, hv, hm⟩ := at_in r0 r1
    exact ⟨xs, v, hx.imp (fun h => hP.sqL hp h) (fun h => hP.sqT hp h), hv, q v H' hm hP⟩
  · refine ⟨tx l, rfl, .ref p, rfl, tx l, rfl, h1, p, c, n, _, rfl, hp, hn, by show (0 : Int) < (l.length : Nat); omega, by show ((l.length : Nat) : Int) < 2 ^ 62; omega, fun r H' r0 r1 hP => ?_⟩
    obtain ⟨v, hv, hm⟩ := at_in (xs := l) r0 r1
    exact ⟨h1, v, hv, q v H' hm hP⟩
/-! ## a new pen -/
def spPen (K : PySem.W.Frag) : Sp := fun vs H Q _ => ∃ (a : Addr) (ns : List Int), vs = [.ref a] ∧ SqL K H a (ns.map V.int) ∧ ns.length ≤ 63 ∧
  ∀ (p c : Addr) (H' : Hp), H p = none → H c = none → Same H H' → Pen p c H' 0 → Q (.ref p) H'
theorem rd_pen (K : PySem.W.Frag) (vs : List V) (H : Hp) (Q : VK) (E : XK) (h : spPen K vs H Q E) : t__law_pen K { nx := fun _ H' => Q .non H', rt := Q } (start n__law_pen vs) H := by
  obtain ⟨a, ns, rfl, hx, hl, q⟩ := h
  intro p hp
  have s1 : Same H (upd H p (.dK [])) := Same.new hp
  refine ⟨.ref a, rfl, 63, rfl, .inl ⟨a, ns.map V.int, rfl, s1.seq hx, fun b hb => ?_⟩⟩
  have hb0 : H b = none := s1.free hb
  refine ⟨_, .inl (SqL.of upd_same), fun c hc => ?_⟩
  have hcut : cutV (ns.map V.int) none (some 63) = ns.map V.int := by
    have := cutV_take (ns.map V.int) 63
    rw [List.take_of_length_le (by rw [List.length_map]; exact hl)] at this
    exact this
  rw [hcut] at hc ⊢
  have npb : p ≠ b := fun e => by rw [e, upd_same] at hb; cases hb
  have npc : p ≠ c := fun e => by
    rw [← e, upd_ne npb, upd_same] at hc
    cases hc
  have nbc : b ≠ c := fun e => by rw [e, upd_same] at hc; cases hc
  have hc0 : H c = none := by
    rw [upd_ne nbc.symm, upd_ne npc.symm] at hc
    exact hc
  refine ⟨?_, [(kC, .ref c), (kO, .int 0), (kL, .int 0)], rfl, by simp, ?_⟩
  · rw [upd_ne npc, upd_ne npb, upd_same]
  · have hm : mergeK [] [(kC, V.ref c), (kO, .int 0), (kL, .int 0)] = penD c 0 0 := by
      simp [mergeK, putK, penD, nCO, nCL, nOL]
    rw [hm]
    refine q p c _ hp hc0 ?_ ⟨0, 0, ns, upd_same, ?_, hl, Int.le_refl _, Int.le_refl _, Int.le_refl _⟩
    · exact Same.mut (Same.mut (Same.mut (Same.new' (Same.refl H) hp) hb0) hc0) hp
    · rw [upd_ne npc.symm, upd_same]
/-! ## letters -/
def LetOk (L : List Nat) : Prop := 2 ≤ L.length ∧ L.length ≤ 4 ∧ L.Nodup ∧ ∀ c ∈ L, 97 ≤ c ∧ c ≤ 122
def spLetters : Sp := fun vs H Q _ => ∃ (p c : Addr) (n : Nat), vs = [.ref p] ∧ Pen p c H n ∧ n < 2 ^ 29 ∧ ∀ (L : List Nat) (H' : Hp), LetOk L → Pn p c H (n + 3) H' → Q (tx L) H'
def abc : List Nat := [97, 98, 99, 100, 101, 102, 103, 104, 105, 106, 107, 108, 109, 110, 111, 112, 113, 114, 115, 116, 117, 118, 119, 120, 121, 122]
def paces : List Int := [1, 3, 5, 7, 9, 11, 15, 17, 19, 21, 23, 25]
def letAt (f g : Int) (k : Nat) : Nat := 97 + ((f + g * (k : Int)) % 26).toNat
theorem abc_at (z : Int) : atI abc (z % 26) = some (97 + (z % 26).toNat) := by
  have h1 := Int.emod_nonneg z (show (26 : Int) ≠ 0 by decide)
  have h2 := Int.emod_lt_of_pos z (show (0 : Int) < 26 by decide)
  have e : z % 26 = (((z % 26).toNat : Nat) : Int) := by omega
  generalize (z % 26).toNat = j at e ⊢
  rw [e]
  have hj : j < 26 := by omega
  refine atI_nat ?_
  have : ∀ j : Nat, j < 26 → abc[j]? = some (97 + j) := by decide
  exact this j hj
theorem letters_ok (f g : Int) (m : Nat) (hf0 : 0 ≤ f) (hf1 : f < 26) (hg : g ∈ paces) (hm : 2 ≤ m) (hm2 : m ≤ 4) : LetOk ((List.range m).map (letAt f g)) := by
  refine ⟨by simp; exact hm, by simp; exact hm2, ?_, fun c hc => ?_⟩
  · have key : ∀ f' : Nat, f' < 26 → ∀ g ∈ paces, ((List.range 4).map (letAt (f' : Int) g)).Nodup := by decide +kernel
    have h4 := key f.toNat (by omega) g hg
    rw [show ((f.toNat : Nat) : Int) = f by omega] at h4
    refine List.Nodup.sublist ?_ h4
    exact List.Sublist.map _ (List.range_sublist.mpr hm2)
  · obtain ⟨k, _, rfl⟩ := List.mem_map.mp hc
    unfold letAt
    have h1 := Int.emod_nonneg (f + g * (k : Int)) (show (26 : Int) ≠ 0 by decide)
    have h2 := Int.emod_lt_of_pos (f + g * (k : Int)) (show (0 : Int) < 26 by decide)
    omega
theorem rd_letters (K : PySem.W.Frag) (vs : List V) (H : Hp) (Q : VK) (E : XK) (h : spLetters vs H Q E) : t__law_letters K spDraw (spPick K) { nx := fun _ H' => Q .non H', rt := Q } (start n__law_letters vs) H := by
  obtain ⟨p, c, n, rfl, hp, hn, q⟩ := h
  refine ⟨.ref p, rfl, p, c, n, 26, rfl, hp, by omega, by decide, by decide, fun f H1 f0 f1 P1 => ?_⟩
  refine ⟨by show 2 ≤ sizeLine; decide, fun t ht => ⟨t, _, rfl, SqT.of upd_same, rfl, _, _, rfl, _, _, rfl, rfl, ?_⟩⟩
  refine ⟨.ref p, rfl, by show 12 ≤ sizeLine; decide, fun a ha => ?_⟩
  have P3 := (P1.new (o := .tup [tx abc, .int f]) ht).new (o := .lst (paces.map V.int)) ha
  refine ⟨p, c, n + 1, P3.pen, by omega, .inl ⟨a, paces.map V.int, rfl, .inl (SqL.of upd_same), by decide, by decide, fun v H4 hv P4 => ?_⟩⟩
  obtain ⟨g, hg, rfl⟩ := List.mem_map.mp hv
  replace P4 := P3.trans P4
  clear P3 P1
  refine ⟨⟨_, rfl⟩, ?_⟩
  refine ⟨.ref p, rfl, p, c, n + 1 + 1, 3, rfl, P4.pen, by omega, by decide, by decide, fun r H5 r0 r1 P5 => ?_⟩
  replace P5 := P4.trans P5
  refine ⟨_, rfl, by omega, by omega, fun D hD => ?_⟩
  have hD0 : H D = none := P5.back hD
  refine lcW walk_range (I := fun i acc H' => i ≤ 4 ∧ acc = ((List.range i).map (letAt f g)).map (fun s => tx [s]) ∧ Pn p c H (n + 3) H') (fun i acc H' o h => ⟨h.1, h.2.1, h.2.2.put hp hD0⟩) (fun _ _ _ _ _ => trivial) ⟨by decide, rfl, P5⟩ (fun i acc H' h => ?len)
    (fun i x acc H' H'' hi hI hacc y K1 K2 k1 k2 => ?step) (fun acc H' hacc hI => ?fin)
  case len =>
    rw [h.2.1, List.length_map, List.length_map, List.length_range]
    have := h.1
    omega
  case step =>
    obtain ⟨rfl, rfl⟩ := y
    obtain ⟨hi4, rfl, hP⟩ := hI
    have gb : ∀ g ∈ paces, g.natAbs < 2 ^ 200 := by decide
    refine ⟨rfl, tx abc, rfl, .int f, rfl, .int g, rfl, _, rfl, mulw (gb g hg) (by omega), by decide, by decide, _, abc_at _, ?_⟩
    refine k1 _ _ hacc ⟨by omega, ?_, hP⟩
    rw [List.range_succ, List.map_append, List.map_append, Int.zero_add]
    rfl
  case fin =>
    obtain ⟨h4, rfl, hP⟩ := hI
    refine ⟨((List.range (2 + r).toNat).map (letAt f g)).map fun s => [s], .inl (SqL.of ?_), ?_, ?_⟩
    · rw [hacc]
      simp [List.map_map, Function.comp_def]
    · rw [len_ones, List.length_map, List.length_range]
      omega
    · rw [tl_sx, wjoin1]
      exact q _ _ (letters_ok f g _ f0 f1 hg (by omega) h4) hP
/-! ## a word -/
/-- letters of L -/
def AllIn (L l : List Nat) : Prop := ∀ s ∈ l, s ∈ L
def spWord : Sp := fun vs H Q _ => ∃ (p c : Addr) (n : Nat) (L : List Nat) (m : Int), vs = [.ref p, tx L, .int m] ∧ Pen p c H n ∧ n < 2 ^ 29 ∧ 0 < L.length ∧ L.length ≤ 100 ∧ 1 ≤ m ∧ m ≤ 100 ∧
  ∀ (l : List Nat) (H' : Hp), (l.length : Int) = m → AllIn L l → Pn p c H (n + 200) H' → Q (tx l) H'
/-- "".join([pick(pen, letters) for k in range(j)]) : the place s of k, the pen's and the letters' places -/
theorem picked {K : PySem.W.Frag} {p c : Addr} {H0 : Hp} {n0 : Nat} (hp : Pen p c H0 n0) {L : List Nat} (hL : 0 < L.length) (hL2 : L.length ≤ 100000) {σ : L2.St} {ip iL s : Nat} (j : Int) (hj : 0 ≤ j) (hj2 : j ≤ 90000) {H : Hp} {n : Nat} (P : Pn p c H0 n H) (hn : n + j.toNat < 2 ^ 30)
    (e1 : ((wipe σ [s]).set s (some (V.int 0)))[ip]? = some (some (.ref p))) (e2 : ∀ z, ((wipe σ [s]).set s (some (V.int z)))[ip]? = some (some (.ref p))) (e3 : ∀ z, ((wipe σ [s]).set s (some (V.int z)))[iL]? = some (some (tx L)))
    (e4 : ∀ z, wipe ((wipe σ [s]).set s (some (V.int z))) [s] = wipe σ [s])
    {Q : V → Hp → Prop} (q : ∀ (l : List Nat) (H' : Hp), (l.length : Int) = j → AllIn L l → Pn p c H0 (n + j.toNat) H' → Q (tx l) H') :
    ∀ D, H D = none → ∃ W : Nat → Nat → Hp → Prop, (∃ m, W 0 m (upd H D (.lst []))) ∧ ∀ i m H, W i m H →
      ((Itr 0 j.toNat).stop i H ∧ rJoin K (tx []) [.ref D] H Q) ∨ ((Itr 0 j.toNat).go i H ∧ ∃ Nx : Hp → Prop, (∀ H', Nx H' → ∃ m', m' < m ∧ W (i + 1) m' H') ∧ ∀ x H', (Itr 0 j.toNat).yld i H x H' → gName s x (wipe σ [s]) H' fun σ2 H2 => wipe σ2 [s] = wipe σ [s] ∧ tYes σ2 H2 fun b H3 =>
        if b = true then tCall (spPick K) [] E0 (tCons (tVar ip) (tCons (tVar iL) tNil)) σ2 H3 fun y H4 => ∃ acc, H4 D = some (.lst acc) ∧ acc.length < sizeLine ∧ Nx (upd H4 D (.lst (acc ++ [y]))) else Nx H3) := by
  intro D hD
  have hD0 : H0 D = none := P.back hD
  refine lcW walk_range (I := fun i acc H' => i ≤ j.toNat ∧ ∃ l : List Nat, l.length = i ∧ AllIn L l ∧ acc = l.map (fun s => tx [s]) ∧ Pn p c H0 (n + i) H') (fun i acc H' o h => ⟨h.1, ?st⟩) (fun _ _ _ _ _ => trivial) ⟨Nat.zero_le _, [], rfl, ?nil, rfl, P⟩ (fun i acc H' h => ?len)
    (fun i x acc H' H'' hi hI hacc y K1 K2 k1 k2 => ?step) (fun acc H' hacc hI => ?fin)
  case st =>
    obtain ⟨_, l, h1, h2, h3, h4⟩ := h
    exact ⟨l, h1, h2, h3, h4.put hp hD0⟩
  case nil => exact fun s hs => by cases hs
  case len =>
    obtain ⟨h0, l, h1, _, rfl, _⟩ := h
    rw [List.length_map]
    omega
  case step =>
    obtain ⟨rfl, rfl⟩ := y
    obtain ⟨h0, l, h1, h2, rfl, h4⟩ := hI
    refine ⟨e4 _, .ref p, e2 _, tx L, e3 _, p, c, n + i, h4.pen, by omega, .inr ⟨L, rfl, hL, hL2, fun s' H4 hs P4 => ?_⟩⟩
    have hDp := hp.ne hD0
    refine k1 _ _ (P4.kp D _ hDp.1 hacc) ⟨by omega, l ++ [s'], by simp [h1], ?_, by simp, h4.trans P4⟩
    intro z hz
    rcases List.mem_append.mp hz with hz | hz
    · exact h2 z hz
    · rw [List.mem_singleton.mp hz]; exact hs
  case fin =>
    obtain ⟨h0, l, h1, h2, rfl, h4⟩ := hI
    refine ⟨l.map fun s => [s], .inl (SqL.of ?_), ?_, ?_⟩
    · rw [hacc]
      simp [List.map_map, Function.comp_def]
    · rw [len_ones]
      omega
    · rw [tl_sx, wjoin1]
      exact q l H' (by omega) h2 h4
theorem allIn_cut {L l : List Nat} (h : AllIn L l) (lo hi : Option Int) : AllIn L (cutL l lo hi) := fun s hs => h s (List.mem_of_mem_drop (List.mem_of_mem_take hs))
theorem allIn_app {L l m : List Nat} (h : AllIn L l) (k : AllIn L m) : AllIn L (l ++ m) := fun s hs => (List.mem_append.mp hs).elim (h s) (k s)
theorem allIn_rep {L l : List Nat} (h : AllIn L l) (n : Int) : AllIn L (repS l n) := fun s hs => by
  unfold repS at hs
  obtain ⟨x, hx, hs⟩ := List.mem_flatten.mp hs
  rw [List.eq_of_mem_replicate hx] at hs
  exact h s hs
theorem rd_word (K : PySem.W.Frag) (vs : List V) (H : Hp) (Q : VK) (E : XK) (h : spWord vs H Q E) : t__law_word K spDraw (spPick K) { nx := fun _ H' => Q .non H', rt := Q } (start n__law_word vs) H := by
  obtain ⟨p, c, n, L, m, rfl, hp, hn, l0, l1, m0, m1, q⟩ := h
  refine ⟨.ref p, rfl, p, c, n, 4, rfl, hp, by omega, by decide, by decide, fun way H1 w0 w1 P1 => ?_⟩
  refine ⟨.ref p, rfl, .int m, rfl, p, c, n + 1, m, rfl, P1.pen, by omega, by omega, by omega, fun at_ H2 a0 a1 P2 => ?_⟩
  replace P2 := P1.trans P2
  clear P1
  refine ⟨_, _, rfl, ⟨_, rfl⟩, .ref p, rfl, p, c, n + 1 + 1, 3, rfl, P2.pen, by omega, by decide, by decide, fun r H3 r0 r1 P3 => ?_⟩
  replace P3 := P2.trans P3
  clear P2
  refine ⟨_, rfl, by omega, by omega, picked (ip := 0) (iL := 1) hp l0 (by omega) (1 + r) (by omega) (by omega) P3 (by omega) rfl (fun _ => rfl) (fun _ => rfl) (fun _ => rfl) fun piece H4 hl hpc P4 => ?_⟩
  -- (piece * width)[:width]
  refine ⟨tx piece, rfl, .int m, rfl, ⟨by omega, by omega, by show piece.length ≤ 1000; omega⟩, .int m, rfl, _, rfl, ?_, ?_⟩
  · simp only [tl_sx, rep_length]
    have : m.toNat * piece.length ≤ 100 * 100 := Nat.mul_le_mul (by omega) (by omega)
    omega
  simp only [tl_sx]
  have hw : ∀ w : List Nat, w = cutL (repS piece m) none (some m) → (w.length : Int) = m ∧ AllIn L w := fun w e => by
    obtain ⟨k, rfl⟩ : ∃ k : Nat, m = k := ⟨m.toNat, by omega⟩
    rw [cutL_take] at e
    subst e
    refine ⟨?_, fun s hs => allIn_rep hpc _ s (List.mem_of_mem_take hs)⟩
    rw [List.length_take, rep_length]
    have h1 : 1 ≤ piece.length := by omega
    have h2 : k ≤ k * piece.length := Nat.le_mul_of_pos_right k h1
    simp only [Int.toNat_natCast]
    omega
  obtain ⟨w1l, w1a⟩ := hw _ rfl
  generalize cutL (repS piece m) none (some m) = word at w1l w1a
  refine ⟨.int way, rfl, rfl, _, rfl, iteD (fun hway => ?_) (fun hway => ?_)⟩
  · refine ⟨⟨_, rfl⟩, .int m, rfl, _, rfl, by omega, by omega, picked (ip := 0) (iL := 1) hp l0 (by omega) m (by omega) (by omega) P4 (by omega) rfl (fun _ => rfl) (fun _ => rfl) (fun _ => rfl) fun l H5 hl5 ha P5 => ?_⟩
    exact q l H5 hl5 ha (P5.mono (by omega))
  · refine ⟨.int way, rfl, rfl, _, rfl, iteD (fun hway => ?_) (fun hway => ?_)⟩
    · refine ⟨tx word, rfl, .int at_, rfl, _, rfl, by show word.length ≤ 100000; omega, .ref p, rfl, tx L, rfl, p, c, _, P4.pen, by omega, .inr ⟨L, rfl, l0, by omega, fun s H5 hs P5 => ?_⟩⟩
      obtain ⟨k, rfl⟩ : ∃ k : Nat, at_ = k := ⟨at_.toNat, by omega⟩
      have e1 : ((k : Int) + 1) = ((k + 1 : Nat) : Int) := by omega
      refine ⟨?_, tx word, rfl, .int k, rfl, _, rfl, by show word.length ≤ 100000; omega, ?_, ?_⟩
      · rw [tl_sx, tl_sx, tl_sx, cutL_take, List.length_take]
        simp; omega
      · rw [tl_sx, tl_sx, tl_sx, tl_sx, tl_sx, cutL_take, e1, cutL_drop]
        simp; omega
      · rw [tl_sx, tl_sx, tl_sx, tl_sx, tl_sx]
        refine q _ _ ?_ ?_ ((P4.trans P5).mono (by omega))
        · rw [cutL_take, e1, cutL_drop]
          simp; omega
        · refine allIn_app (allIn_app (allIn_cut w1a _ _) ?_) (allIn_cut w1a _ _)
          intro z hz
          rw [List.mem_singleton.mp hz]
          exact hs
    · exact ⟨tx word, rfl, q word H4 w1l w1a (P4.mono (by omega))⟩
/-! ## how many arguments -/
theorem len_draw : ∀ vs H Q E, spDraw vs H Q E → vs.length = 2 := by
  rintro _ _ _ _ ⟨_, _, _, _, rfl, _⟩; rfl
theorem len_pick (K : PySem.W.Frag) : ∀ vs H Q E, spPick K vs H Q E → vs.length = 2 := by
  rintro _ _ _ _ ⟨_, _, _, _, _, ⟨_, _, rfl, _⟩ | ⟨_, rfl, _⟩⟩ <;> rfl
theorem len_pen (K : PySem.W.Frag) : ∀ vs H Q E, spPen K vs H Q E → vs.length = 1 := by
  rintro _ _ _ _ ⟨_, _, rfl, _⟩; rfl
theorem len_letters : ∀ vs H Q E, spLetters vs H Q E → vs.length = 1 := by
  rintro _ _ _ _ ⟨_, _, _, rfl, _⟩; rfl
theorem len_word : ∀ vs H Q E, spWord vs H Q E → vs.length = 3 := by
  rintro _ _ _ _ ⟨_, _, _, _, _, rfl, _⟩; rfl
end WkA

namespace WkP
open PySem PySem.Spec PyProof.Rows L2 Wk WkS WkA
open TL (tl len_tl ext_tl tl_append mk_tl)
def t_check_letters (K : PySem.W.Frag) : TS :=
  (tSeq (tIfS (tOr (tNot (tTruth K (tCB (rIsi1 K) (tCons (tVar 0) (tCons (tC (.ty "str")) tNil))))) (tOr (tNot (tTest (tChain (rLeq) (rLeq) (tC (.int 2)) (tCB (rLen K) (tCons (tVar 0) tNil)) (tC (.int 4))))) (tTest (tOp (rLess) (WkS.tSigns (tVar 0)) (tCB (rLen K) (tCons (tVar 0) tNil)))))) tNever tNext)
    (tIfS (tNot (tTruth K (tCB (rAll K) (tCons (tLc (iAny K (tVar 0)) (gName 1) tYes (tOp (rInn K) (tVar 1) (tC (tx [97, 98, 99, 100, 101, 102, 103, 104, 105, 106, 107, 108, 109, 110, 111, 112, 113, 114, 115, 116, 117, 118, 119, 120, 121, 122]))) [1]) tNil)))) tNever tNext))
def t_is_word (K : PySem.W.Frag) : TS :=
  (tSeq (tIfS (tOr (tNot (tTruth K (tCB (rIsi1 K) (tCons (tVar 1) (tCons (tC (.ty "str")) tNil))))) (tNot (tTest (tChain (rLeq) (rLeq) (tC (.int 1)) (tCB (rLen K) (tCons (tVar 1) tNil)) (tC (.int 8)))))) (tRet (tC (.bl false))) tNext)
    (tRet (tCB (rAll K) (tCons (tLc (iAny K (tVar 1)) (gName 2) tYes (tOp (rInn K) (tVar 2) (tVar 0)) [2]) tNil))))
def t_check_words (K : PySem.W.Frag) (s_check_letters : Sp) (s_is_word : Sp) : TS :=
  (tSeq (tDrop (tCall s_check_letters [] E0 (tCons (tVar 0) tNil)))
    (tSeq (tFor (iEnumG K (tCons (tVar 1) tNil)) (gTup K 2 (gCons (gName 2) (gCons (gName 3) gNil))) (tIfS (tOr (tTest (tOp (rEqq K) (tVar 2) (tC (.int 3)))) (tOr (tNot (tTruth K (tCall s_is_word [] E0 (tCons (tVar 0) (tCons (tVar 3) tNil))))) (tOr (tTest (tOp (rNeq K) (tCB (rLen K) (tCons (tVar 3) tNil)) (tCB (rLen K) (tCons (tOp (rItem K) (tVar 1) (tC (.int 0))) tNil)))) (tTest (tOp (rInn K) (tVar 3) (tSl (rCut K) (tVar 1) tNoPart (tPart (tVar 2)))))))) tNever tNext))
    (tIfS (tTest (tOp (rEqq K) (tCB (rLen K) (tCons (tVar 1) tNil)) (tC (.int 0)))) tNever tNext)))
def t_check_text (K : PySem.W.Frag) : TS :=
  (tSeq (tIfS (tNot (tTruth K (tCB (rIsi1 K) (tCons (tVar 1) (tCons (tC (.ty "str")) tNil))))) tNever tNext)
    (tFor (iEnumG K (tCons (tVar 1) tNil)) (gTup K 2 (gCons (gName 2) (gCons (gName 3) gNil))) (tIfS (tTest (tOp (rNin K) (tVar 3) (tVar 0))) tNever tNext)))
def t_all_places (K : PySem.W.Frag) : TS :=
  (tSeq (tPar 2 3 (tCons (tCB (rLen K) (tCons (tOp (rItem K) (tVar 0) (tC (.int 0))) tNil)) (tCons (tLst tNil) tNil)))
    (tSeq (tFor (iRng1 (tCons (tOp (rPlus K) (tOp (rMinus) (tCB (rLen K) (tCons (tVar 1) tNil)) (tVar 2)) (tC (.int 1))) tNil)) (gName 4) (tFor (iEnumG K (tCons (tVar 0) tNil)) (gTup K 2 (gCons (gName 5) (gCons (gName 6) gNil))) (tIfS (tTest (tOp (rEqq K) (tSl (rCut K) (tVar 1) (tPart (tVar 4)) (tPart (tOp (rPlus K) (tVar 4) (tVar 2)))) (tVar 6))) (tDrop (tBM K "list" rAppend (tVar 3) (tCons (tTup (tCons (tVar 4) (tCons (tVar 5) tNil))) tNil))) tNext)))
    (tRet (tVar 3))))
def t_wanted (K : PySem.W.Frag) (s_check_words : Sp) (s_check_text : Sp) (s_all_places : Sp) : TS :=
  (tSeq (tDrop (tCall s_check_words [] E0 (tCons (tVar 0) (tCons (tVar 1) tNil))))
    (tSeq (tDrop (tCall s_check_text [] E0 (tCons (tVar 0) (tCons (tVar 2) tNil))))
    (tSeq (tIfS (tOr (tNot (tTruth K (tCB (rIsi1 K) (tCons (tVar 3) (tCons (tC (.ty "str")) tNil))))) (tTest (tOp (rNin K) (tVar 3) (tGT K [(tx [97, 108, 108]), (tx [97, 112, 97, 114, 116]), (tx [102, 105, 114, 115, 116])])))) tNever tNext)
    (tSeq (tAsg (tCall s_all_places [] E0 (tCons (tVar 1) (tCons (tVar 2) tNil))) (gName 4))
    (tSeq (tIfS (tTest (tOp (rEqq K) (tVar 3) (tC (tx [102, 105, 114, 115, 116])))) (tRet (tSl (rCut K) (tVar 4) tNoPart (tPart (tC (.int 1))))) tNext)
    (tSeq (tIfS (tTest (tOp (rEqq K) (tVar 3) (tC (tx [97, 108, 108])))) (tRet (tVar 4)) tNext)
    (tSeq (tPar 5 6 (tCons (tLst tNil) (tCons (tC (.int 0)) tNil)))
    (tSeq (tFor (iAny K (tVar 4)) (gTup K 2 (gCons (gName 7) (gCons (gName 8) gNil))) (tIfS (tTest (tOp (rMeq) (tVar 7) (tVar 6))) (tSeq (tDrop (tBM K "list" rAppend (tVar 5) (tCons (tTup (tCons (tVar 7) (tCons (tVar 8) tNil))) tNil)))
    (tAsg (tOp (rPlus K) (tVar 7) (tCB (rLen K) (tCons (tOp (rItem K) (tVar 1) (tC (.int 0))) tNil))) (gName 6))) tNext))
    (tRet (tVar 5))))))))))
abbrev n_check_letters : List Str := ["letters", "letter"]
abbrev n_is_word : List Str := ["letters", "value", "letter"]
abbrev n_check_words : List Str := ["letters", "words", "place", "word"]
abbrev n_check_text : List Str := ["letters", "text", "place", "letter"]
abbrev n_all_places : List Str := ["words", "text", "width", "found", "place", "number", "word"]
abbrev n_wanted : List Str := ["letters", "words", "text", "wish", "found", "kept", "end", "place", "number"]
theorem same_no {v : V} {A B : Prop} (h : B) : if (!decide (v = v)) = true then A else B := by
  rw [decide_eq_true rfl, if_neg (by decide)]
  exact h
/-! ## what stays equal while things are laid anew -/
mutual
theorem dp_same {K : PySem.W.Frag} {H H' : Hp} (s : Same H H') : ∀ {v : V} {d : PyData}, Dp K H v d → Dp K H' v d
  | _, _, .non => .non
  | _, _, .bl b => .bl b
  | _, _, .int i => .int i
  | _, _, .str x => .str x
  | _, _, .lst h k => .lst (s.seq h) (dpa_same s k)
  | _, _, .tup h k => .tup (sqT_same s h) (dpa_same s k)
theorem dpa_same {K : PySem.W.Frag} {H H' : Hp} (s : Same H H') : ∀ {vs : List V} {ds : List PyData}, DpAll K H vs ds → DpAll K H' vs ds
  | _, _, .nil => .nil
  | _, _, .cons h k => .cons (dp_same s h) (dpa_same s k)
end
theorem dpa_len {K : PySem.W.Frag} {H : Hp} : ∀ {vs : List V} {ds : List PyData}, DpAll K H vs ds → vs.length = ds.length
  | _, _, .nil => rfl
  | _, _, .cons _ k => congrArg Nat.succ (dpa_len k)
theorem dpa_get {K : PySem.W.Frag} {H : Hp} : ∀ {vs : List V} {ds : List PyData} {i : Nat} {v : V}, DpAll K H vs ds → vs[i]? = some v → ∃ d, ds[i]? = some d ∧ Dp K H v d
  | _, _, 0, _, .cons h _, e => by simp at e; subst e; exact ⟨_, rfl, h⟩
  | _, _, i + 1, v, .cons _ k, e => by
    obtain ⟨d, h1, h2⟩ := dpa_get (i := i) (v := v) k (by simpa using e)
    exact ⟨d, by simpa using h1, h2⟩
theorem dpa_app {K : PySem.W.Frag} {H : Hp} : ∀ {vs ws : List V} {ds es : List PyData}, DpAll K H vs ds → DpAll K H ws es → DpAll K H (vs ++ ws) (ds ++ es)
  | _, _, _, _, .nil, k => k
  | _, _, _, _, .cons h r, k => .cons h (dpa_app r k)
theorem dpa_take {K : PySem.W.Frag} {H : Hp} : ∀ (n : Nat) {vs : List V} {ds : List PyData}, DpAll K H vs ds → DpAll K H (vs.take n) (ds.take n)
  | 0, _, _, _ => by rw [List.take_zero, List.take_zero]; exact .nil
  | n + 1, _, _, .nil => .nil
  | n + 1, _, _, .cons h r => .cons h (dpa_take n r)
/-- pairs of places -/
def pd (q : Nat × Nat) : PyData := .tuple [.int (q.1 : Nat), .int (q.2 : Nat)]
theorem pd_inv {K : PySem.W.Frag} {H : Hp} {v : V} {q : Nat × Nat} (h : Dp K H v (pd q)) : ∃ t, v = .ref t ∧ SqT K H t [.int (q.1 : Nat), .int (q.2 : Nat)] := by
  unfold pd at h
  cases h with
  | tup h k =>
    cases k with
    | cons h1 k =>
      cases k with
      | cons h2 k =>
        cases k
        cases h1
        cases h2
        exact ⟨_, rfl, h⟩
theorem pd_new {K : PySem.W.Frag} {H : Hp} {t : Addr} {a b : Nat} (h : H t = some (.tup [.int (a : Nat), .int (b : Nat)])) : Dp K H (.ref t) (pd (a, b)) := .tup (SqT.of h) (.cons (.int _) (.cons (.int _) .nil))
theorem pd_depth (q : Nat × Nat) : (pd q).depth ≤ 1 := by
  unfold pd
  simp [PyData.depth, PyData.depthAll]
theorem prs_depth : ∀ ps : List (Nat × Nat), PyData.depthAll (ps.map pd) ≤ 1
  | [] => by simp [PyData.depthAll]
  | p :: r => by
    have h1 := pd_depth p
    have h2 := prs_depth r
    rw [List.map_cons, PyData.depthAll]
    exact Nat.max_le.mpr ⟨h1, h2⟩
theorem prs_noB : ∀ ps : List (Nat × Nat), noB.all (ps.map pd) = true
  | [] => rfl
  | p :: r => by
    show (noB (pd p) && noB.all (r.map pd)) = true
    rw [prs_noB r]; rfl
/-- a list of pairs stands at a -/
def Prs (K : PySem.W.Frag) (H : Hp) (a : Addr) (ps : List (Nat × Nat)) : Prop := ∃ xs, H a = some (.lst xs) ∧ DpAll K H xs (ps.map pd)
theorem Prs.same {K : PySem.W.Frag} {H H' : Hp} {a : Addr} {ps : List (Nat × Nat)} (s : Same H H') (h : Prs K H a ps) : Prs K H' a ps := by
  obtain ⟨xs, h1, h2⟩ := h
  exact ⟨xs, s _ _ h1, dpa_same s h2⟩
theorem Prs.dp {K : PySem.W.Frag} {H : Hp} {a : Addr} {ps : List (Nat × Nat)} (h : Prs K H a ps) : Dp K H (.ref a) (.list (ps.map pd)) := by
  obtain ⟨xs, h1, h2⟩ := h
  exact .lst (SqL.of h1) h2
theorem Prs.len {K : PySem.W.Frag} {H : Hp} {a : Addr} {ps : List (Nat × Nat)} (h : Prs K H a ps) : ∃ xs, H a = some (.lst xs) ∧ DpAll K H xs (ps.map pd) ∧ xs.length = ps.length := by
  obtain ⟨xs, h1, h2⟩ := h
  exact ⟨xs, h1, h2, by rw [dpa_len h2, List.length_map]⟩
theorem kp_upd {b : Addr} {H : Hp} (o : HO) : Kp b H (upd H b o) := fun c u n e => by
  rw [upd_ne n]
  exact e
theorem dpa_upd {K : PySem.W.Frag} {H : Hp} {b : Addr} {ys zs : List V} (hb : H b = some (.lst ys)) : ∀ {ps : List (Nat × Nat)} {xs : List V}, DpAll K H xs (ps.map pd) → DpAll K (upd H b (.lst zs)) xs (ps.map pd)
  | [], _, h => by
    cases h
    exact .nil
  | p :: r, _, h => by
    cases h with
    | cons h1 h2 =>
      obtain ⟨t, rfl, ht⟩ := pd_inv h1
      refine .cons (.tup (sqT_kp (kp_upd _) (fun o e => ?_) ht) (.cons (.int _) (.cons (.int _) .nil))) (dpa_upd hb h2)
      rw [hb] at e
      cases e
      exact ⟨fun _ => (fun z => by cases z), fun _ _ => (fun z => by cases z)⟩
theorem Prs.push {K : PySem.W.Frag} {H : Hp} {b : Addr} {xs : List V} {ps : List (Nat × Nat)} {v : V} {p : Nat × Nat} (h : Prs K H b ps) (hb : H b = some (.lst xs)) (hv : Dp K H v (pd p)) : Prs K (upd H b (.lst (xs ++ [v]))) b (ps ++ [p]) := by
  obtain ⟨xs2, hb2, hd⟩ := h
  rw [hb] at hb2
  cases hb2
  refine ⟨_, upd_same, ?_⟩
  refine dpa_upd hb ?_
  rw [List.map_append]
  exact dpa_app hd (.cons hv .nil)
/-- both are the same pairs -/
theorem prs_ne {K : PySem.W.Frag} {H : Hp} {a b : Addr} {ps : List (Nat × Nat)} {Q : VK} (h1 : Dp K H (.ref a) (.list (ps.map pd))) (h2 : Dp K H (.ref b) (.list (ps.map pd))) (q : Q (.bl false) H) : rNeq K (.ref a) (.ref b) H Q := by
  refine ⟨_, _, h1, h2, ?_, ?_⟩
  · rw [PyData.depth, Nat.min_self]
    have := prs_depth ps
    omega
  · have e : PyData.eqv (.list (ps.map pd)) (.list (ps.map pd)) = true := eqv_self _ (prs_noB ps)
    rw [e]
    exact q
/-! ## all(x in s for x in t) -/
theorem all_in {K : PySem.W.Frag} {σ : L2.St} {iv s : Nat} {l M : List Nat} {te : TE} {H : Hp} {Q : VK} (e1 : σ[iv]? = some (some (tx l))) (e2 : ∀ x, ((wipe σ [s]).set s (some x))[s]? = some (some x)) (e3 : ∀ x, wipe ((wipe σ [s]).set s (some x)) [s] = wipe σ [s])
    (ht : ∀ x H Q, Q (tx M) H → te ((wipe σ [s]).set s (some x)) H Q) (hl : l.length ≤ 9000) (q : ∀ H', Same H H' → Q (.bl (l.all fun c => decide (c ∈ M))) H') :
    tCB (rAll K) (tCons (tLc (iAny K (tVar iv)) (gName s) tYes (tOp (rInn K) (tVar s) te) [s]) tNil) σ H Q := by
  refine ⟨_, e1, fun D hD => ?_⟩
  refine lcW walk_str (I := fun i acc H' => i ≤ l.length ∧ acc = ((l.take i).map fun c => V.bl (decide (c ∈ M))) ∧ ∀ b u, H b = some u → H' b = some u) (fun i acc H' u h => ⟨h.1, h.2.1, fun b u' e => by rw [upd_ne (ne_of_none e hD)]; exact h.2.2 b u' e⟩) (fun _ _ _ _ _ => trivial) ⟨Nat.zero_le _, rfl, fun _ _ e => e⟩
    (fun i acc H' h => ?len) (fun i x acc H' H2 hi hI hacc y K1 K2 k1 k2 => ?step) (fun acc H' hacc hI => ?fin)
  case len =>
    rw [h.2.1, List.length_map, List.length_take]
    omega
  case step =>
    obtain ⟨rfl, c, hc, rfl⟩ := y
    obtain ⟨hi0, rfl, hI⟩ := hI
    have hc2 : l[i]? = some c := by
      have : l.toArray[i]? = some c := hc
      simpa using this
    have hi2 : i < l.length := (List.getElem?_eq_some_iff.mp hc2).1
    refine ⟨e3 _, _, e2 _, ht _ _ _ ?_⟩
    refine .inl ⟨c, rfl, ?_⟩
    refine k1 _ _ hacc ⟨hi2, ?_, hI⟩
    rw [List.take_add_one, hc2, List.map_append]
    rfl
  case fin =>
    obtain ⟨_, rfl, hI⟩ := hI
    refine ⟨D, l.map fun c => decide (c ∈ M), rfl, SqL.of ?_, ?_⟩
    · rw [hacc, show (sx l).cps.size = l.length from rfl, List.take_of_length_le (Nat.le_refl _), List.map_map]
      rfl
    · rw [List.all_map]
      exact q _ hI
theorem all_in_true {L l : List Nat} (h : AllIn L l) : (l.all fun c => decide (c ∈ L)) = true := List.all_eq_true.mpr fun c hc => decide_eq_true (h c hc)
/-! ## check_letters, is_word -/
def spCl : Sp := fun vs H Q _ => ∃ L, vs = [tx L] ∧ LetOk L ∧ ∀ H', Same H H' → Q .non H'
theorem rd_check_letters (K : PySem.W.Frag) (vs : List V) (H : Hp) (Q : VK) (E : XK) (h : spCl vs H Q E) : t_check_letters K { nx := fun _ H' => Q .non H', rt := Q } (start n_check_letters vs) H := by
  obtain ⟨L, rfl, ⟨l1, l2, nd, ab⟩, q⟩ := h
  have hd : distN L = L.length := (distN_all L).mpr nd
  have e1 : decide ((2 : Int) ≤ ((tl (sx L)).length : Nat)) = true := decide_eq_true (by rw [tl_sx]; omega)
  have e2 : decide (((tl (sx L)).length : Nat) ≤ (4 : Int)) = true := decide_eq_true (by rw [tl_sx]; omega)
  have e3 : decide (((distN (tl (sx L))) : Int) < ((tl (sx L)).length : Nat)) = false := decide_eq_false (by rw [tl_sx, hd]; omega)
  refine ⟨tx L, rfl, _, _, .base (.str _), kb_str, tx L, rfl, by show L.length ≤ 100000; omega, _, rfl, ?_⟩
  rw [e1]
  refine ⟨_, rfl, ?_⟩
  rw [e2]
  refine ⟨tx L, rfl, by show L.length ≤ 4000; omega, tx L, rfl, by show L.length ≤ 100000; omega, _, rfl, ?_⟩
  rw [e3]
  refine all_in (M := abc) rfl (fun _ => rfl) (fun _ => rfl) (fun _ _ _ h => h) (by omega) fun H' S => ?_
  rw [all_in_true fun c hc => ?_]
  · exact q _ S
  · have h := ab c hc
    have key : ∀ c, 97 ≤ c → c ≤ 122 → c ∈ abc := fun c h1 h2 => by
      unfold abc
      simp only [List.mem_cons, List.not_mem_nil, or_false]
      omega
    exact key c h.1 h.2
def spIw : Sp := fun vs H Q _ => ∃ L l, vs = [tx L, tx l] ∧ L.length ≤ 9000 ∧ 1 ≤ l.length ∧ l.length ≤ 8 ∧ AllIn L l ∧ ∀ H', Same H H' → Q (.bl true) H'
theorem rd_is_word (K : PySem.W.Frag) (vs : List V) (H : Hp) (Q : VK) (E : XK) (h : spIw vs H Q E) : t_is_word K { nx := fun _ H' => Q .non H', rt := Q } (start n_is_word vs) H := by
  obtain ⟨L, l, rfl, l0, l1, l2, ha, q⟩ := h
  have e1 : decide ((1 : Int) ≤ ((tl (sx l)).length : Nat)) = true := decide_eq_true (by rw [tl_sx]; omega)
  have e2 : decide (((tl (sx l)).length : Nat) ≤ (8 : Int)) = true := decide_eq_true (by rw [tl_sx]; omega)
  refine ⟨tx l, rfl, _, _, .base (.str _), kb_str, tx l, rfl, by show l.length ≤ 100000; omega, _, rfl, ?_⟩
  rw [e1]
  refine ⟨_, rfl, ?_⟩
  rw [e2]
  refine all_in (M := L) rfl (fun _ => rfl) (fun _ => rfl) (fun _ _ _ h => ⟨_, rfl, h⟩) (by omega) fun H' S => ?_
  rw [all_in_true ha]
  exact q _ S
theorem inV_txt (l : List Nat) : ∀ ws : List (List Nat), inV (tx l) (ws.map tx) = true ↔ l ∈ ws
  | [] => by simp [inV]
  | m :: r => by
    have ih := inV_txt l r
    unfold inV at ih ⊢
    rw [List.map_cons, List.any_cons, Bool.or_eq_true, ih, List.mem_cons]
    refine or_congr_left ?_
    show (sx m == sx l) = true ↔ l = m
    rw [beq_iff_eq, str_inj]
    exact ⟨fun e => e.symm, fun e => e.symm⟩
theorem nodup_at {α : Type} {l : List α} (h : l.Nodup) {i j : Nat} (hi : i < l.length) (hj : j < l.length) (e : l[i] = l[j]) : i = j := by
  have h2 := List.pairwise_iff_getElem.mp h
  rcases Nat.lt_trichotomy i j with q | q | q
  · exact absurd e (h2 i j hi hj q)
  · exact q
  · exact absurd e.symm (h2 j i hj hi q)
/-! ## check_words, check_text -/
def WsOk (L : List Nat) (ws : List (List Nat)) (w : Nat) : Prop := 1 ≤ ws.length ∧ ws.length ≤ 3 ∧ 1 ≤ w ∧ w ≤ 8 ∧ (∀ l ∈ ws, l.length = w ∧ AllIn L l) ∧ ws.Nodup
def Seq2 (K : PySem.W.Frag) (H : Hp) (a : Addr) (xs : List V) : Prop := SqL K H a xs ∨ SqT K H a xs
theorem Seq2.same {K : PySem.W.Frag} {H H' : Hp} {a : Addr} {xs : List V} (s : Same H H') (h : Seq2 K H a xs) : Seq2 K H' a xs := h.imp (fun h => s.seq h) fun h => sqT_same s h
theorem src2 {K : PySem.W.Frag} {H : Hp} {a : Addr} {xs : List V} (h : Seq2 K H a xs) : ∃ G : Hp → Prop, ∀ H', Same H H' → SrcV K H' (.ref a) xs.length (fun i => xs[i]?) G ∧ G H' := by
  rcases h with h | h
  · exact ⟨_, fun H' s => ⟨.list (s.seq h), s.seq h⟩⟩
  · exact ⟨_, fun H' s => ⟨.tup (sqT_same s h), sqT_same s h⟩⟩
def spCw (K : PySem.W.Frag) : Sp := fun vs H Q _ => ∃ (L : List Nat) (a : Addr) (ws : List (List Nat)) (w : Nat), vs = [tx L, .ref a] ∧ LetOk L ∧ Seq2 K H a (ws.map tx) ∧ WsOk L ws w ∧ ∀ H', Same H H' → Q .non H'
theorem rd_check_words (K : PySem.W.Frag) (vs : List V) (H : Hp) (Q : VK) (E : XK) (h : spCw K vs H Q E) : t_check_words K spCl spIw { nx := fun _ H' => Q .non H', rt := Q } (start n_check_words vs) H := by
  obtain ⟨L, a, ws, w, rfl, hL, hS, hW, q⟩ := h
  refine ⟨tx L, rfl, L, rfl, hL, fun H1 S1 => ?_⟩
  have hS1 := hS.same S1
  obtain ⟨G, hG⟩ := src2 hS1
  obtain ⟨n1, n2, w1, w2, hall, nd⟩ := hW
  refine ⟨.ref a, rfl, _, _, _, _, rfl, (hG _ (Same.refl H1)).1, ?_⟩
  refine for_it walk_E (fun i σ H' => Same H1 H' ∧ ∃ v2 v3, σ = [some (tx L), some (.ref a), v2, v3]) ⟨Same.refl H1, _, _, rfl⟩ (fun i σ H' _ h => (hG _ h.1).2) ?_ ?_
  · rintro i x σ H' H2 hi ⟨S, v2, v3, rfl⟩ ⟨T, y, rfl, hT, rfl, hy⟩
    have hi : i < ws.length := by simpa using hi
    obtain rfl : tx ws[i] = y := by
      have hy : (ws.map tx)[i]? = some y := hy
      rw [List.getElem?_map, List.getElem?_eq_getElem hi] at hy
      exact Option.some.inj hy
    obtain ⟨hwl, hwa⟩ := hall ws[i] (List.getElem_mem hi)
    have S2 := Same.new' (o := .tup [.int (i : Nat), tx ws[i]]) S hT
    refine ⟨T, _, rfl, SqT.of upd_same, rfl, _, _, rfl, _, _, rfl, rfl, ?_⟩
    refine ⟨.int (i : Nat), rfl, rfl, _, rfl, ?_⟩
    have e3 : decide (V.int (i : Nat) = V.int 3) = false := decide_eq_false fun e => by
      have := V.int.inj e
      omega
    rw [e3]
    refine ⟨tx L, rfl, tx ws[i], rfl, L, ws[i], rfl, by have := hL.2.1; omega, by omega, by omega, hwa, fun H3 S3 => ?_⟩
    replace S3 := S2.trans S3
    have h0 : 0 < ws.length := by omega
    have at0 : atI (ws.map tx) 0 = some (tx ws[0]) := atI_nat (xs := ws.map tx) (j := 0) (by rw [List.getElem?_map, List.getElem?_eq_getElem h0]; rfl)
    have hw0 := (hall ws[0] (List.getElem_mem h0)).1
    refine ⟨tx ws[i], rfl, by rw [tl_sx]; omega, .ref a, rfl, ws.map tx, tx ws[0], hS1.same S3, at0, by rw [tl_sx]; omega, rfl, _, rfl, ?_⟩
    have e4 : (!decide (V.int ((tl (sx ws[i])).length : Nat) = V.int ((tl (sx ws[0])).length : Nat))) = false := by
      rw [tl_sx, tl_sx, hwl, hw0]
      simp
    rw [e4]
    refine ⟨tx ws[i], rfl, .ref a, rfl, .int (i : Nat), rfl, i, rfl, ?_⟩
    have fl : ∀ l : List (List Nat), (l.map tx).all flatV = true := fun l => by
      rw [List.all_map]
      exact List.all_eq_true.mpr fun _ _ => rfl
    have hno : inV (tx ws[i]) ((ws.take i).map tx) = false := by
      rw [Bool.eq_false_iff]
      intro hin
      have := (inV_txt _ _).mp hin
      obtain ⟨j, hj, e⟩ := List.mem_iff_getElem.mp this
      rw [List.getElem_take] at e
      rw [List.length_take] at hj
      exact absurd (nodup_at nd (by omega) hi e) (by omega)
    rcases hS1.same S3 with hS3 | hS3
    · refine .inl ⟨a, _, rfl, hS3, fun b hb => ?_⟩
      rw [cutV_take]
      refine ⟨b, _, rfl, .inl (SqL.of upd_same), rfl, by rw [← List.map_take]; exact fl _, _, rfl, ?_⟩
      rw [← List.map_take, hno]
      exact ⟨Same.new' S3 hb, _, _, rfl⟩
    · refine .inr ⟨a, _, rfl, hS3, ?_, fun b hb => ?_⟩
      · rw [HT.sIx_none, HT.sIx_nat, List.length_map]
        omega
      rw [cutV_take]
      refine ⟨b, _, rfl, .inr (SqT.of upd_same), rfl, by rw [← List.map_take]; exact fl _, _, rfl, ?_⟩
      rw [← List.map_take, hno]
      exact ⟨Same.new' S3 hb, _, _, rfl⟩
  · rintro σ H' ⟨S, v2, v3, rfl⟩
    have h3 : ∃ ys, (SqL K H' a ys ∨ SqT K H' a ys) ∧ ys.length = ws.length := ⟨_, hS1.same S, by simp⟩
    obtain ⟨ys, h3, h4⟩ := h3
    have e : decide (V.int (ys.length : Nat) = V.int 0) = false := decide_eq_false fun e => by
      have := V.int.inj e
      omega
    refine ⟨.ref a, rfl, ys, h3, rfl, _, rfl, ?_⟩
    rw [e]
    exact q _ (S1.trans S)
def spCt : Sp := fun vs H Q _ => ∃ L l, vs = [tx L, tx l] ∧ L.length ≤ 9000 ∧ l.length ≤ 9000 ∧ AllIn L l ∧ ∀ H', Same H H' → Q .non H'
theorem rd_check_text (K : PySem.W.Frag) (vs : List V) (H : Hp) (Q : VK) (E : XK) (h : spCt vs H Q E) : t_check_text K { nx := fun _ H' => Q .non H', rt := Q } (start n_check_text vs) H := by
  obtain ⟨L, l, rfl, l0, l1, ha, q⟩ := h
  refine ⟨tx l, rfl, _, _, .base (.str _), kb_str, ?_⟩
  refine ⟨tx l, rfl, _, _, _, _, rfl, .text _, ?_⟩
  refine for_it walk_E (fun i σ H' => Same H H' ∧ ∃ v2 v3, σ = [some (tx L), some (tx l), v2, v3]) ⟨Same.refl H, _, _, rfl⟩ (fun i σ H' _ h => trivial) ?_ ?_
  · rintro i x σ H' H2 hi ⟨S, v2, v3, rfl⟩ ⟨T, y, rfl, hT, rfl, hy⟩
    have hi : i < l.length := hi
    dsimp only at hy
    rw [tl_sx, List.getElem?_eq_getElem hi] at hy
    obtain rfl : tx [l[i]] = y := Option.some.inj hy
    refine ⟨T, _, rfl, SqT.of upd_same, rfl, _, _, rfl, _, _, rfl, rfl, ?_⟩
    refine ⟨tx [l[i]], rfl, tx L, rfl, .inl ⟨l[i], rfl, _, rfl, ?_⟩⟩
    rw [tl_sx, decide_eq_true (ha _ (List.getElem_mem hi))]
    exact ⟨Same.new' S hT, _, _, rfl⟩
  · rintro σ H' ⟨S, v2, v3, rfl⟩
    exact q _ S
/-! ## the places of words -/
/-- the numbers of the words that stand at a place -/
def hitsK (ws : List (List Nat)) (t : List Nat) (p k : Nat) : List Nat := (List.range k).filter fun k => decide ((t.drop p).take (ws.getD k []).length = ws.getD k [])
def hits (ws : List (List Nat)) (t : List Nat) (p : Nat) : List Nat := hitsK ws t p ws.length
theorem hitsK_succ (ws : List (List Nat)) (t : List Nat) (p k : Nat) : hitsK ws t p (k + 1) = hitsK ws t p k ++ if (t.drop p).take (ws.getD k []).length = ws.getD k [] then [k] else [] := by
  unfold hitsK
  rw [List.range_succ, List.filter_append, List.filter_cons]
  by_cases h : (t.drop p).take (ws.getD k []).length = ws.getD k []
  · rw [if_pos h, if_pos (decide_eq_true h)]; rfl
  · rw [if_neg h, if_neg (by rw [decide_eq_false h]; decide)]; rfl
theorem hitsK_len (ws : List (List Nat)) (t : List Nat) (p k : Nat) : (hitsK ws t p k).length ≤ k := by
  unfold hitsK
  exact Nat.le_trans (List.length_filter_le _ _) (by simp)
def allP (ws : List (List Nat)) (t : List Nat) (n : Nat) : List (Nat × Nat) := (List.range n).flatMap fun p => (hits ws t p).map fun k => (p, k)
theorem allP_succ (ws : List (List Nat)) (t : List Nat) (n : Nat) : allP ws t (n + 1) = allP ws t n ++ (hits ws t n).map fun k => (n, k) := by
  unfold allP
  rw [List.range_succ, List.flatMap_append]
  simp
theorem hits_len (ws : List (List Nat)) (t : List Nat) (p : Nat) : (hits ws t p).length ≤ ws.length := by
  exact hitsK_len _ _ _ _
theorem allP_len (ws : List (List Nat)) (t : List Nat) : ∀ n, (allP ws t n).length ≤ n * ws.length
  | 0 => by simp [allP]
  | n + 1 => by
    rw [allP_succ, List.length_append, List.length_map, Nat.succ_mul]
    have := allP_len ws t n
    have := hits_len ws t n
    omega
theorem hits_none {ws : List (List Nat)} {t : List Nat} {p w : Nat} (h1 : 1 ≤ w) (hw : ∀ l ∈ ws, l.length = w) (h : t.length < p + w) : hits ws t p = [] := by
  unfold hits hitsK
  rw [List.filter_eq_nil_iff]
  intro k hk e
  have hk := List.mem_range.mp hk
  have e := of_decide_eq_true e
  have hl : (ws.getD k []).length = w := hw _ (by rw [List.getD_eq_getElem?_getD, List.getElem?_eq_getElem hk]; exact List.getElem_mem hk)
  have := congrArg List.length e
  rw [List.length_take, List.length_drop, hl] at this
  omega
theorem allP_cut {ws : List (List Nat)} {t : List Nat} {w : Nat} (hw : ∀ l ∈ ws, l.length = w) (h1 : 1 ≤ w) : ∀ n, t.length + 1 - w ≤ n → allP ws t n = allP ws t (t.length + 1 - w)
  | 0, h => by rw [Nat.le_zero.mp h]
  | n + 1, h => by
    by_cases e : t.length + 1 - w = n + 1
    · rw [e]
    · rw [allP_succ, hits_none h1 hw (by omega), allP_cut hw h1 n (by omega)]
      simp
def spAp (K : PySem.W.Frag) : Sp := fun vs H Q _ => ∃ (L : List Nat) (a : Addr) (ws : List (List Nat)) (w : Nat) (t : List Nat), vs = [.ref a, tx t] ∧ Seq2 K H a (ws.map tx) ∧ WsOk L ws w ∧ t.length ≤ 1000 ∧
  ∀ b H', H b = none → Same H H' → Prs K H' b (allP ws t t.length) → Q (.ref b) H'
theorem rd_all_places (K : PySem.W.Frag) (vs : List V) (H : Hp) (Q : VK) (E : XK) (h : spAp K vs H Q E) : t_all_places K { nx := fun _ H' => Q .non H', rt := Q } (start n_all_places vs) H := by
  obtain ⟨L, a, ws, w, t, rfl, hS, hW, ht, q⟩ := h
  obtain ⟨n1, n2, w1, w2, hall, nd⟩ := hW
  have h0 : 0 < ws.length := by omega
  have at0 : atI (ws.map tx) 0 = some (tx ws[0]) := atI_nat (xs := ws.map tx) (j := 0) (by rw [List.getElem?_map, List.getElem?_eq_getElem h0]; rfl)
  have hw0 := (hall ws[0] (List.getElem_mem h0)).1
  refine ⟨.ref a, rfl, ws.map tx, tx ws[0], hS, at0, by rw [tl_sx]; omega, by show 0 ≤ sizeLine; decide, fun b hb => ?_⟩
  have hlen : ((tl (sx ws[0])).length : Int) = (w : Int) := by rw [tl_sx, hw0]
  refine ⟨_, _, rfl, tx t, rfl, by rw [tl_sx]; omega, _, rfl, _, rfl, by rw [tl_sx]; omega, by rw [tl_sx]; omega, ?_⟩
  rw [hlen, tl_sx]
  generalize hN : ((t.length : Int) - (w : Int) + 1).toNat = N
  have hN2 : N = t.length + 1 - w := by omega
  have S0 : Same H (upd H b (.lst [])) := Same.new hb
  obtain ⟨G, hG⟩ := src2 hS
  have hNt : N ≤ 1001 := by omega
  refine for_range (lo := 0) (fun i σ H' => Same H H' ∧ i ≤ N ∧ Prs K H' b (allP ws t i) ∧ ∃ v4 v5 v6, σ = [some (.ref a), some (tx t), some (.int (w : Int)), some (.ref b), v4, v5, v6]) ⟨S0, Nat.zero_le _, ⟨[], upd_same, .nil⟩, _, _, _, rfl⟩ ?_ ?_
  · rintro i σ H1 hi ⟨S1, hiN, hP, v4, v5, v6, rfl⟩
    rw [Int.zero_add]
    refine ⟨.ref a, rfl, _, _, _, _, rfl, (hG _ S1).1, ?_⟩
    refine for_it walk_E (fun k σ H' => Same H H' ∧ Prs K H' b (allP ws t i ++ (hitsK ws t i k).map fun k => (i, k)) ∧ ∃ v5 v6, σ = [some (.ref a), some (tx t), some (.int (w : Int)), some (.ref b), some (.int (i : Int)), v5, v6]) ⟨S1, by
      rw [show hitsK ws t i 0 = [] from rfl, List.map_nil, List.append_nil]
      exact hP, _, _, rfl⟩ (fun i σ H' _ h => (hG _ h.1).2) ?_ ?_
    · rintro k x σ H2 H3 hk ⟨S2, hP2, v5, v6, rfl⟩ ⟨T, y, rfl, hT, rfl, hy⟩
      have hk : k < ws.length := by simpa using hk
      obtain rfl : tx ws[k] = y := by
        have hy : (ws.map tx)[k]? = some y := hy
        rw [List.getElem?_map, List.getElem?_eq_getElem hk] at hy
        exact Option.some.inj hy
      have hwl := (hall ws[k] (List.getElem_mem hk)).1
      have S3 := Same.new' (o := .tup [.int (k : Nat), tx ws[k]]) S2 hT
      have hP3 := hP2.same (Same.new (o := .tup [.int (k : Nat), tx ws[k]]) hT)
      have eD : ws.getD k [] = ws[k] := by rw [List.getD_eq_getElem?_getD, List.getElem?_eq_getElem hk]; rfl
      have hcut : cutL (tl (sx t)) (some (i : Int)) (some ((i : Int) + (w : Int))) = (t.drop i).take w := by
        rw [tl_sx, show (i : Int) + (w : Int) = ((i + w : Nat) : Int) by omega, cutL_mid, show i + w - i = w by omega]
      have hs := hitsK_succ ws t i k
      rw [eD, hwl] at hs
      refine ⟨T, _, rfl, SqT.of upd_same, rfl, _, _, rfl, _, _, rfl, rfl, ?_⟩
      refine ⟨tx t, rfl, _, rfl, _, rfl, .int (i : Int), rfl, .int (w : Int), rfl, _, rfl, by rw [tl_sx]; omega, tx ws[k], rfl, rfl, _, rfl, ?_⟩
      rw [hcut, dec_tx]
      refine iteD (fun he => ?_) (fun he => ?_)
      · rw [if_pos he] at hs
        obtain ⟨xs, hb3, hd3, hl3⟩ := hP3.len
        refine ⟨.ref b, rfl, .inl ⟨rfl, xs, SqL.of hb3⟩, .int (i : Int), rfl, .int (k : Nat), rfl, by show 2 ≤ sizeLine; decide, fun T2 hT2 => ?_⟩
        have nb : b ≠ T2 := ne_of_none hb3 hT2
        have hb4 : (upd (upd H2 T (.tup [.int (k : Nat), tx ws[k]])) T2 (.tup [.int (i : Int), .int (k : Nat)])) b = some (.lst xs) := by rw [upd_ne nb]; exact hb3
        refine ⟨b, xs, .ref T2, rfl, rfl, hb4, sz_lt ?_, ?_⟩
        · rw [hl3, List.length_append, List.length_map]
          have := allP_len ws t i
          have := hitsK_len ws t i k
          have : i * ws.length ≤ 1001 * 3 := Nat.mul_le_mul (by omega) n2
          omega
        · refine ⟨Same.mut (Same.new' S3 hT2) hb, ?_, _, _, rfl⟩
          have := Prs.push ⟨xs, hb4, dpa_same (Same.new hT2) hd3⟩ hb4 (pd_new (a := i) (b := k) upd_same)
          rw [List.append_assoc] at this
          rw [hs, List.map_append]
          exact this
      · rw [if_neg he, List.append_nil] at hs
        rw [← hs] at hP3
        exact ⟨S3, hP3, _, _, rfl⟩
    · rintro σ H2 ⟨S2, hP2, v5, v6, rfl⟩
      refine ⟨S2, hi, ?_, _, _, _, rfl⟩
      rw [allP_succ]
      rw [List.length_map] at hP2
      exact hP2
  · rintro σ H1 ⟨S1, hiN, hP, v4, v5, v6, rfl⟩
    refine ⟨_, rfl, q b H1 hb S1 ?_⟩
    rw [hN2, ← allP_cut (fun l h => (hall l h).1) w1 t.length (by omega)] at hP
    exact hP
/-! ## wanted -/
def apartF (w : Nat) : Nat → List (Nat × Nat) → List (Nat × Nat)
  | _, [] => []
  | e, p :: r => if e ≤ p.1 then p :: apartF w (p.1 + w) r else apartF w e r
theorem apartF_len (w : Nat) : ∀ (ps : List (Nat × Nat)) (e : Nat), (apartF w e ps).length ≤ ps.length
  | [], _ => Nat.le_refl _
  | p :: r, e => by
    rw [apartF]
    split
    · have := apartF_len w r (p.1 + w)
      simp only [List.length_cons]; omega
    · have := apartF_len w r e
      simp only [List.length_cons]; omega
def kAll : List Nat := [97, 108, 108]
def kApart : List Nat := [97, 112, 97, 114, 116]
def kFirst : List Nat := [102, 105, 114, 115, 116]
def wantF (ws : List (List Nat)) (w : Nat) (t wish : List Nat) : List (Nat × Nat) :=
  if wish = kFirst then (allP ws t t.length).take 1 else if wish = kAll then allP ws t t.length else apartF w 0 (allP ws t t.length)
def spWa (K : PySem.W.Frag) : Sp := fun vs H Q _ => ∃ (L : List Nat) (a : Addr) (ws : List (List Nat)) (w : Nat) (t wish : List Nat), vs = [tx L, .ref a, tx t, tx wish] ∧ LetOk L ∧ Seq2 K H a (ws.map tx) ∧ WsOk L ws w ∧ t.length ≤ 1000 ∧ AllIn L t ∧
  (wish = kAll ∨ wish = kApart ∨ wish = kFirst) ∧ ∀ b H', H b = none → Same H H' → Prs K H' b (wantF ws w t wish) → Q (.ref b) H'
/-- the loop over the pairs: one thing kept (slot b), the end (slot e) -/
theorem rd_wanted (K : PySem.W.Frag) (vs : List V) (H : Hp) (Q : VK) (E : XK) (h : spWa K vs H Q E) : t_wanted K (spCw K) spCt (spAp K) { nx := fun _ H' => Q .non H', rt := Q } (start n_wanted vs) H := by
  obtain ⟨L, a, ws, w, t, wish, rfl, hL, hS, hW, ht, ha, hwish, q⟩ := h
  refine ⟨tx L, rfl, .ref a, rfl, L, a, ws, w, rfl, hL, hS, hW, fun H1 S1 => ?_⟩
  refine ⟨tx L, rfl, tx t, rfl, L, t, rfl, by have := hL.2.1; omega, by omega, ha, fun H2 S2 => ?_⟩
  replace S2 := S1.trans S2
  refine ⟨tx wish, rfl, _, _, .base (.str _), kb_str, tx wish, rfl, fun g hg => ?_⟩
  have hin : inV (tx wish) [tx kAll, tx kApart, tx kFirst] = true := (inV_txt wish [kAll, kApart, kFirst]).mpr (by simpa using hwish)
  refine ⟨g, _, rfl, .inr hg, rfl, rfl, _, rfl, ?_⟩
  show if (!(inV (tx wish) [tx kAll, tx kApart, tx kFirst])) = true then _ else _
  rw [hin]
  refine ⟨.ref a, rfl, tx t, rfl, L, a, ws, w, t, rfl, hS.same S2, hW, ht, fun b H3 hb S3 hP => ?_⟩
  have hb0 := S2.free hb
  replace S3 := S2.trans S3
  have hlen : (allP ws t t.length).length ≤ 3000 := by
    have := allP_len ws t t.length
    have : t.length * ws.length ≤ 1000 * 3 := Nat.mul_le_mul ht hW.2.1
    omega
  refine ⟨tx wish, rfl, rfl, _, rfl, ?_⟩
  have w1 : wantF ws w t wish = if wish = kFirst then (allP ws t t.length).take 1 else if wish = kAll then allP ws t t.length else apartF w 0 (allP ws t t.length) := rfl
  refine iteD (fun h1 => ?_) (fun h1 => ?_)
  · have h1 : wish = kFirst := tx_inj.mp h1
    rw [if_pos h1] at w1
    rw [w1] at q
    obtain ⟨xs, hb3, hd3, hl3⟩ := hP.len
    refine ⟨.ref b, rfl, 1, rfl, .inl ⟨b, xs, rfl, SqL.of hb3, fun c hc => ?_⟩⟩
    refine q c _ (S3.free hc) (Same.new' S3 hc) ⟨_, upd_same, ?_⟩
    rw [show cutV xs none (some 1) = xs.take 1 from cutV_take xs 1, List.map_take]
    exact dpa_take 1 (dpa_same (Same.new hc) hd3)
  · have h1 : wish ≠ kFirst := fun e => h1 (tx_inj.mpr e)
    rw [if_neg h1] at w1
    refine ⟨tx wish, rfl, rfl, _, rfl, ?_⟩
    refine iteD (fun h2 => ?_) (fun h2 => ?_)
    · have h2 : wish = kAll := tx_inj.mp h2
      rw [if_pos h2] at w1
      rw [w1] at q
      exact ⟨_, rfl, q b H3 hb0 S3 hP⟩
    · have h2 : wish ≠ kAll := fun e => h2 (tx_inj.mpr e)
      rw [if_neg h2] at w1
      rw [w1] at q
      obtain ⟨n1, n2, m1, m2, hall, nd⟩ := hW
      have h0 : 0 < ws.length := by omega
      have at0 : atI (ws.map tx) 0 = some (tx ws[0]) := atI_nat (xs := ws.map tx) (j := 0) (by rw [List.getElem?_map, List.getElem?_eq_getElem h0]; rfl)
      have hw0 := (hall ws[0] (List.getElem_mem h0)).1
      have hlen0 : ((tl (sx ws[0])).length : Int) = (w : Int) := by rw [tl_sx, hw0]
      obtain ⟨xs, hb3, hd3, hl3⟩ := hP.len
      generalize hps : allP ws t t.length = ps at hd3 hl3 hlen q hP
      refine ⟨by show 0 ≤ sizeLine; decide, fun c hc => ⟨_, _, rfl, .ref b, rfl, .inl ⟨xs, SqL.of (Same.new hc _ _ hb3), ?_⟩⟩⟩
      refine for_list (K := K) (a := b) (xs := xs) (fun i σ H' => Same H3 H' ∧ ∃ (kept : List (Nat × Nat)) (e : Nat) (v7 v8 : Option V), Prs K H' c kept ∧ kept.length ≤ i ∧ kept ++ apartF w e (ps.drop i) = apartF w 0 ps ∧
        σ = [some (tx L), some (.ref a), some (tx t), some (tx wish), some (.ref b), some (.ref c), some (.int (e : Int)), v7, v8]) ⟨Same.new hc, [], 0, _, _, ⟨[], upd_same, .nil⟩, Nat.zero_le _, rfl, rfl⟩ (fun i σ H' _ h => SqL.of (h.1 _ _ hb3)) ?_ ?_
      · rintro i x σ H5 hx ⟨S5, kept, e, v7, v8, hk, hkl, hap, rfl⟩
        have hi : i < ps.length := by rw [← hl3]; exact (List.getElem?_eq_some_iff.mp hx).1
        obtain ⟨d, hd, hdp⟩ := dpa_get hd3 hx
        rw [List.getElem?_map, List.getElem?_eq_getElem hi] at hd
        obtain rfl : pd ps[i] = d := Option.some.inj hd
        obtain ⟨T, rfl, hT⟩ := pd_inv (dp_same S5 hdp)
        refine ⟨T, _, rfl, hT, rfl, _, _, rfl, _, _, rfl, rfl, ?_⟩
        refine ⟨.int (ps[i].1 : Nat), rfl, .int (e : Int), rfl, _, rfl, ?_⟩
        have hdr : ps.drop i = ps[i] :: ps.drop (i + 1) := List.drop_eq_getElem_cons hi
        rw [hdr, apartF] at hap
        refine iteD (fun he => ?_) (fun he => ?_)
        · have he : e ≤ ps[i].1 := by omega
          rw [if_pos he] at hap
          obtain ⟨ys, hc5, hd5, hl5⟩ := hk.len
          refine ⟨.ref c, rfl, .inl ⟨rfl, ys, SqL.of hc5⟩, .int (ps[i].1 : Nat), rfl, .int (ps[i].2 : Nat), rfl, by show 2 ≤ sizeLine; decide, fun T2 hT2 => ?_⟩
          have nb : c ≠ T2 := ne_of_none hc5 hT2
          have hc6 : (upd H5 T2 (.tup [.int (ps[i].1 : Nat), .int (ps[i].2 : Nat)])) c = some (.lst ys) := by rw [upd_ne nb]; exact hc5
          have hk6 := Prs.push (hk.same (Same.new hT2)) hc6 (pd_new (a := ps[i].1) (b := ps[i].2) upd_same)
          have S6 := Same.mut (o := .lst (ys ++ [.ref T2])) (Same.new' (o := .tup [.int (ps[i].1 : Nat), .int (ps[i].2 : Nat)]) S5 hT2) hc
          refine ⟨c, ys, .ref T2, rfl, rfl, hc6, sz_lt (by omega), ?_⟩
          refine ⟨.int (ps[i].1 : Nat), rfl, .ref a, rfl, ws.map tx, tx ws[0], hS.same (S3.trans S6), at0, by rw [tl_sx]; omega, ?_⟩
          refine ⟨S6, kept ++ [ps[i]], ps[i].1 + w, some (.int (ps[i].1 : Nat)), some (.int (ps[i].2 : Nat)), hk6, by rw [List.length_append]; simp; omega, by rw [List.append_assoc]; exact hap, ?_⟩
          rw [hlen0]
          rfl
        · have he : ¬ e ≤ ps[i].1 := by omega
          rw [if_neg he] at hap
          exact ⟨S5, kept, e, _, _, hk, by omega, hap, rfl⟩
      · rintro σ H5 ⟨S5, kept, e, v7, v8, hk, hkl, hap, rfl⟩
        rw [List.drop_of_length_le (by omega), apartF, List.append_nil] at hap
        refine ⟨_, rfl, q c H5 (S3.free hc) (S3.trans S5) ?_⟩
        rw [← hap]
        exact hk
/-! ## how many arguments -/
theorem len_cl : ∀ vs H Q E, spCl vs H Q E → vs.length = 1 := by
  rintro _ _ _ _ ⟨_, rfl, _⟩; rfl
theorem len_iw : ∀ vs H Q E, spIw vs H Q E → vs.length = 2 := by
  rintro _ _ _ _ ⟨_, _, rfl, _⟩; rfl
theorem len_cw (K : PySem.W.Frag) : ∀ vs H Q E, spCw K vs H Q E → vs.length = 2 := by
  rintro _ _ _ _ ⟨_, _, _, _, rfl, _⟩; rfl
theorem len_ct : ∀ vs H Q E, spCt vs H Q E → vs.length = 2 := by
  rintro _ _ _ _ ⟨_, _, rfl, _⟩; rfl
theorem len_ap (K : PySem.W.Frag) : ∀ vs H Q E, spAp K vs H Q E → vs.length = 2 := by
  rintro _ _ _ _ ⟨_, _, _, _, _, rfl, _⟩; rfl
theorem len_wa (K : PySem.W.Frag) : ∀ vs H Q E, spWa K vs H Q E → vs.length = 4 := by
  rintro _ _ _ _ ⟨_, _, _, _, _, _, rfl, _⟩; rfl
end WkP

namespace Wk01
open PySem PySem.Spec PyProof.Rows L2 Wk WkS WkA WkP
open TL (tl len_tl ext_tl tl_append mk_tl)
def t__law_words (K : PySem.W.Frag) (s__law_word : Sp) : TS :=
  (tSeq (tAsg (tLst (tCons (tCall s__law_word [] E0 (tCons (tVar 0) (tCons (tVar 1) (tCons (tVar 2) tNil)))) tNil)) (gName 4))
    (tSeq (tFor (iRng1 (tCons (tOp (rMinus) (tVar 3) (tC (.int 1))) tNil)) (gName 5) (tSeq (tAsg (tCall s__law_word [] E0 (tCons (tVar 0) (tCons (tVar 1) (tCons (tVar 2) tNil)))) (gName 6))
    (tIfS (tTest (tOp (rNin K) (tVar 6) (tVar 4))) (tDrop (tBM K "list" rAppend (tVar 4) (tCons (tVar 6) tNil))) tNext)))
    (tRet (tVar 4))))
def t__law_text (K : PySem.W.Frag) (s__law_draw : Sp) (s__law_pick : Sp) : TS :=
  (tSeq (tPar 4 5 (tCons (tC (tx [])) (tCons (tCall s__law_draw [] E0 (tCons (tVar 0) (tCons (tOp (rPlus K) (tVar 3) (tC (.int 1))) tNil))) tNil)))
    (tSeq (tWhile (tTest (tOp (rLess) (tCB (rLen K) (tCons (tVar 4) tNil)) (tVar 5))) (tSeq (tAsg (tCall s__law_pick [] E0 (tCons (tVar 0) (tCons (tVar 2) tNil))) (gName 6))
    (tSeq (tAsg (tOp (rPlus K) (tSl (rCut K) (tVar 6) tNoPart (tPart (tCall s__law_draw [] E0 (tCons (tVar 0) (tCons (tCB (rLen K) (tCons (tVar 6) tNil)) tNil))))) (tCall s__law_pick [] E0 (tCons (tVar 0) (tCons (tVar 1) tNil)))) (gName 7))
    (tAsg (tOp (rPlus K) (tVar 4) (tCall s__law_pick [] E0 (tCons (tVar 0) (tCons (tLst (tCons (tVar 6) (tCons (tVar 7) (tCons (tCall s__law_pick [] E0 (tCons (tVar 0) (tCons (tVar 1) tNil))) tNil)))) tNil)))) (gName 4)))))
    (tRet (tSl (rCut K) (tVar 4) tNoPart (tPart (tVar 5))))))
def t__law_standing (K : PySem.W.Frag) : TS :=
  (tSeq (tAsg (tLst tNil) (gName 2))
    (tSeq (tFor (iRng1 (tCons (tCB (rLen K) (tCons (tVar 1) tNil)) tNil)) (gName 3) (tAsg (tOp (rPlus K) (tVar 2) (tLc (iRng1 (tCons (tCB (rLen K) (tCons (tVar 0) tNil)) tNil)) (gName 4) (tTest (tOp (rEqq K) (tSl (rCut K) (tVar 1) (tPart (tVar 3)) (tPart (tOp (rPlus K) (tVar 3) (tCB (rLen K) (tCons (tOp (rItem K) (tVar 0) (tVar 4)) tNil))))) (tOp (rItem K) (tVar 0) (tVar 4)))) (tTup (tCons (tVar 3) (tCons (tVar 4) tNil))) [4])) (gName 2)))
    (tRet (tVar 2))))
def t__law_apart (K : PySem.W.Frag) : TS :=
  (tSeq (tPar 2 3 (tCons (tLst tNil) (tCons (tC (.int 0)) tNil)))
    (tSeq (tFor (iAny K (tVar 0)) (gTup K 2 (gCons (gName 4) (gCons (gName 5) gNil))) (tIfS (tTest (tOp (rMeq) (tVar 4) (tVar 3))) (tSeq (tDrop (tBM K "list" rAppend (tVar 2) (tCons (tTup (tCons (tVar 4) (tCons (tVar 5) tNil))) tNil)))
    (tAsg (tOp (rPlus K) (tVar 4) (tVar 1)) (gName 3))) tNext))
    (tRet (tVar 2))))
def t_law (K : PySem.W.Frag) (s_check_words : Sp) (s_wanted : Sp) (s__law_pen : Sp) (s__law_draw : Sp) (s__law_letters : Sp) (s__law_words : Sp) (s__law_text : Sp) (s__law_standing : Sp) (s__law_apart : Sp) : TS :=
  (tSeq (tAsg (tCall s__law_pen [] E0 (tCons (tVar 0) tNil)) (gName 1))
    (tSeq (tFor (iRng1 (tCons (tOp (rPlus K) (tC (.int 4)) (tCB (rMin2) (tCons (tC (.int 6)) (tCons (tCB (rLen K) (tCons (tVar 0) tNil)) tNil)))) tNil)) (gName 2) (tSeq (tPar 3 4 (tCons (tCall s__law_letters [] E0 (tCons (tVar 1) tNil)) (tCons (tOp (rPlus K) (tC (.int 1)) (tCall s__law_draw [] E0 (tCons (tVar 1) (tCons (tC (.int 8)) tNil)))) tNil)))
    (tSeq (tAsg (tCall s__law_words [] E0 (tCons (tVar 1) (tCons (tVar 3) (tCons (tVar 4) (tCons (tOp (rPlus K) (tC (.int 1)) (tCall s__law_draw [] E0 (tCons (tVar 1) (tCons (tC (.int 3)) tNil)))) tNil))))) (gName 5))
    (tSeq (tIfS (tOr (tTest (tOp (rNotNone) (tCall s_check_words [] E0 (tCons (tVar 3) (tCons (tVar 5) tNil))) (tC .non))) (tTest (tOp (rNotNone) (tCall s_check_words [] E0 (tCons (tVar 3) (tCons (tCB (rTup1 K) (tCons (tVar 5) tNil)) tNil))) (tC .non)))) (tRet (tC (.bl false))) tNext)
    (tFor (iRng1 (tCons (tC (.int 3)) tNil)) (gName 6) (tSeq (tAsg (tCall s__law_text [] E0 (tCons (tVar 1) (tCons (tVar 3) (tCons (tVar 5) (tCons (tC (.int 24)) tNil))))) (gName 7))
    (tSeq (tAsg (tCall s__law_standing [] E0 (tCons (tVar 5) (tCons (tVar 7) tNil))) (gName 8))
    (tSeq (tIfS (tOr (tTest (tOp (rNeq K) (tCall s_wanted [(tx [97, 108, 108])] E0 (tCons (tVar 3) (tCons (tVar 5) (tCons (tVar 7) tNil)))) (tVar 8))) (tTest (tOp (rNeq K) (tCall s_wanted [] E0 (tCons (tVar 3) (tCons (tCB (rTup1 K) (tCons (tVar 5) tNil)) (tCons (tVar 7) (tCons (tC (tx [97, 108, 108])) tNil))))) (tVar 8)))) (tRet (tC (.bl false))) tNext)
    (tSeq (tIfS (tTest (tOp (rNeq K) (tCall s_wanted [] E0 (tCons (tVar 3) (tCons (tVar 5) (tCons (tVar 7) (tCons (tC (tx [97, 112, 97, 114, 116])) tNil))))) (tCall s__law_apart [] E0 (tCons (tVar 8) (tCons (tVar 4) tNil))))) (tRet (tC (.bl false))) tNext)
    (tSeq (tAsg (tCall s_wanted [] E0 (tCons (tVar 3) (tCons (tVar 5) (tCons (tVar 7) (tCons (tC (tx [102, 105, 114, 115, 116])) tNil))))) (gName 9))
    (tSeq (tIfS (tOr (tTest (tOp (rNeq K) (tVar 9) (tSl (rCut K) (tVar 8) tNoPart (tPart (tC (.int 1)))))) (tNot (tTruth K (tCB (rIsi1 K) (tCons (tVar 9) (tCons (tC (.ty "list")) tNil)))))) (tRet (tC (.bl false))) tNext)
    (tSeq (tDrop (tBM K "list" rAppend (tVar 9) (tCons (tTup (tCons (tC (.int 7)) (tCons (tC (.int 7)) tNil))) tNil)))
    (tIfS (tTest (tOp (rNeq K) (tCall s_wanted [] E0 (tCons (tVar 3) (tCons (tVar 5) (tCons (tVar 7) (tCons (tC (tx [102, 105, 114, 115, 116])) tNil))))) (tSl (rCut K) (tVar 8) tNoPart (tPart (tC (.int 1)))))) (tRet (tC (.bl false))) tNext)))))))))))))
    (tRet (tC (.bl true)))))
abbrev n__law_words : List Str := ["_law_pen_here", "_law_letters_here", "_law_width", "_law_many", "_law_found", "_law_k", "_law_word_here"]
abbrev n__law_text : List Str := ["_law_pen_here", "_law_letters_here", "_law_words_here", "_law_most", "_law_text_here", "_law_size", "_law_word_here", "_law_near"]
abbrev n__law_standing : List Str := ["_law_words_here", "_law_text_here", "_law_found", "_law_place", "_law_k"]
abbrev n__law_apart : List Str := ["_law_pairs", "_law_width", "_law_found", "_law_free", "_law_place", "_law_number"]
abbrev n_law : List Str := ["_law_script", "_law_pen_here", "_law_turn", "_law_letters_here", "_law_width", "_law_words_here", "_law_lap", "_law_text_here", "_law_due", "_law_found"]
/-! ## words -/
def spWords (K : PySem.W.Frag) : Sp := fun vs H Q _ => ∃ (p c : Addr) (n : Nat) (L : List Nat) (m k : Nat), vs = [.ref p, tx L, .int (m : Int), .int (k : Int)] ∧ Pen p c H n ∧ n < 2 ^ 28 ∧ LetOk L ∧ 1 ≤ m ∧ m ≤ 8 ∧ 1 ≤ k ∧ k ≤ 3 ∧
  ∀ (b : Addr) (ws : List (List Nat)) (H' : Hp), H b = none → H' b = some (.lst (ws.map tx)) → WsOk L ws m → Pn p c H (n + 600) H' → Q (.ref b) H'
theorem rd_words (K : PySem.W.Frag) (vs : List V) (H : Hp) (Q : VK) (E : XK) (h : spWords K vs H Q E) : t__law_words K spWord { nx := fun _ H' => Q .non H', rt := Q } (start n__law_words vs) H := by
  obtain ⟨p, c, n, L, m, k, rfl, hp, hn, hL, m0, m1, k0, k1, q⟩ := h
  have hL1 : 0 < L.length := by have := hL.1; omega
  have hL2 : L.length ≤ 100 := by have := hL.2.1; omega
  refine ⟨.ref p, rfl, tx L, rfl, .int (m : Int), rfl, p, c, n, L, m, rfl, hp, by omega, hL1, hL2, by omega, by omega, fun l H1 hl ha P1 => ?_⟩
  refine ⟨by show 1 ≤ sizeLine; decide, fun b hb => ?_⟩
  have hb0 := P1.back hb
  have P2 := P1.new (o := .lst [tx l]) hb
  refine ⟨.int (k : Int), rfl, _, rfl, by omega, by omega, ?_⟩
  generalize hN : ((k : Int) - 1).toNat = N
  refine for_range (lo := 0) (fun i σ H' => ∃ ws : List (List Nat), i ≤ N ∧ H' b = some (.lst (ws.map tx)) ∧ 1 ≤ ws.length ∧ ws.length ≤ 1 + i ∧ (∀ l ∈ ws, l.length = m ∧ AllIn L l) ∧ ws.Nodup ∧ Pn p c H (n + 200 + 200 * i) H' ∧ ∃ v5 v6, σ = [some (.ref p), some (tx L), some (.int (m : Int)), some (.int (k : Int)), some (.ref b), v5, v6])
    ⟨[l], Nat.zero_le _, upd_same, by simp, by simp, fun l' h => by rw [List.mem_singleton.mp h]; exact ⟨by omega, ha⟩, by simp, P2, _, _, rfl⟩ ?_ ?_
  · rintro i σ H2 hi ⟨ws, hiN, hws, w0, w1, hall, nd, P3, v5, v6, rfl⟩
    refine ⟨.ref p, rfl, tx L, rfl, .int (m : Int), rfl, p, c, _, L, m, rfl, P3.pen, by omega, hL1, hL2, by omega, by omega, fun l2 H3 hl2 ha2 P4 => ?_⟩
    have hws3 := P4.lst P3.pen hws
    replace P4 := (P3.trans P4).mono (m := n + 200 + 200 * (i + 1)) (by omega)
    have fl : ∀ l : List (List Nat), (l.map tx).all flatV = true := fun l => by
      rw [List.all_map]
      exact List.all_eq_true.mpr fun _ _ => rfl
    refine ⟨tx l2, rfl, .ref b, rfl, b, _, rfl, .inl (SqL.of hws3), rfl, fl ws, _, rfl, iteB (fun hin => ?_) (fun hin => ?_)⟩
    · have hn2 : l2 ∉ ws := fun hm => by
        have hin : (!inV (tx l2) (ws.map tx)) = true := hin
        rw [(inV_txt l2 ws).mpr hm] at hin
        cases hin
      refine ⟨.ref b, rfl, .inl ⟨rfl, _, SqL.of hws3⟩, tx l2, rfl, b, _, tx l2, rfl, rfl, hws3, sz_lt (by rw [List.length_map]; omega), ?_⟩
      refine ⟨ws ++ [l2], hi, ?_, by simp, by simp; omega, ?_, ?_, P4.put hp hb0, _, _, rfl⟩
      · rw [upd_same, List.map_append, List.map_cons, List.map_nil]
      · intro z hz
        rcases List.mem_append.mp hz with hz | hz
        · exact hall z hz
        · rw [List.mem_singleton.mp hz]; exact ⟨by omega, ha2⟩
      · rw [List.nodup_append]
        refine ⟨nd, by simp, fun x hx y hy => ?_⟩
        rw [List.mem_singleton.mp hy]
        exact fun e => hn2 (by rw [← e]; exact hx)
    · exact ⟨ws, hi, hws3, w0, by omega, hall, nd, P4, _, _, rfl⟩
  · rintro σ H2 ⟨ws, hiN, hws, w0, w1, hall, nd, P3, v5, v6, rfl⟩
    exact ⟨_, rfl, q b ws H2 hb0 hws ⟨w0, by omega, m0, m1, hall, nd⟩ (P3.mono (by omega))⟩
/-! ## a text -/
def spText (K : PySem.W.Frag) : Sp := fun vs H Q _ => ∃ (p c : Addr) (n : Nat) (L : List Nat) (b : Addr) (ws : List (List Nat)) (m : Nat), vs = [.ref p, tx L, .ref b, .int 24] ∧ Pen p c H n ∧ n < 2 ^ 28 ∧ LetOk L ∧ H b = some (.lst (ws.map tx)) ∧ WsOk L ws m ∧
  ∀ (t : List Nat) (H' : Hp), t.length ≤ 24 → AllIn L t → Pn p c H (n + 200) H' → Q (tx t) H'
theorem rd_text (K : PySem.W.Frag) (vs : List V) (H : Hp) (Q : VK) (E : XK) (h : spText K vs H Q E) : t__law_text K spDraw (spPick K) { nx := fun _ H' => Q .non H', rt := Q } (start n__law_text vs) H := by
  obtain ⟨p, c, n, L, b, ws, m, rfl, hp, hn, hL, hb, hW, q⟩ := h
  obtain ⟨n1, n2, m1, m2, hall, nd⟩ := hW
  have hL1 : 0 < L.length := by have := hL.1; omega
  have hL2 : L.length ≤ 100 := by have := hL.2.1; omega
  refine ⟨.ref p, rfl, .int 24, rfl, p, c, n, 24 + 1, rfl, hp, by omega, by decide, by decide, fun z H1 z0 z1 P1 => ?_⟩
  refine ⟨_, _, rfl, ?_⟩
  generalize hPv : (fun (σ : L2.St) (H' : Hp) => ∃ (t : List Nat) (j : Nat) (v6 v7 : Option V), AllIn L t ∧ j ≤ t.length ∧ j ≤ 24 ∧ t.length ≤ 40 ∧ Pn p c H (n + 1 + 5 * j) H' ∧ σ = [some (.ref p), some (tx L), some (.ref b), some (.int 24), some (tx t), some (.int z), v6, v7]) = Pv
  have Pm : ∀ (t : List Nat) (j : Nat) (v6 v7 : Option V) (H' : Hp), AllIn L t → j ≤ t.length → j ≤ 24 → t.length ≤ 40 → Pn p c H (n + 1 + 5 * j) H' → Pv [some (.ref p), some (tx L), some (.ref b), some (.int 24), some (tx t), some (.int z), v6, v7] H' := fun t j v6 v7 H' h1 h2 h3 h4 h5 => by
    rw [← hPv]; exact ⟨t, j, v6, v7, h1, h2, h3, h4, h5, rfl⟩
  refine while_w Pv (fun σ _ => match σ with
      | [_, _, _, _, some (.str t), _, _, _] => z.toNat - (tl t).length
      | _ => 0) (Pm [] 0 _ _ H1 (fun s hs => by cases hs) (by simp) (by decide) (by simp) P1) ?_
  intro σ H2 hP
  rw [← hPv] at hP
  obtain ⟨t, j, v6, v7, ht, hj, hj2, htl, P2, rfl⟩ := hP
  refine ⟨tx t, rfl, by rw [tl_sx]; omega, .int z, rfl, _, rfl, iteD (fun hlt => ?_) (fun hlt => ?_)⟩
  · rw [tl_sx] at hlt
    refine ⟨_, Nxt.ok, ?_⟩
    have hb2 := P2.lst hp hb
    refine ⟨.ref p, rfl, .ref b, rfl, p, c, _, P2.pen, by omega, .inl ⟨b, ws.map tx, rfl, .inl (SqL.of hb2), by rw [List.length_map]; omega, by rw [List.length_map]; omega, fun v H3 hv P3 => ?_⟩⟩
    obtain ⟨l, hl, rfl⟩ := List.mem_map.mp hv
    obtain ⟨hll, hla⟩ := hall l hl
    replace P3 := P2.trans P3
    refine ⟨tx l, rfl, .ref p, rfl, tx l, rfl, by rw [tl_sx]; omega, p, c, _, ((tl (sx l)).length : Nat), rfl, P3.pen, by omega, by rw [tl_sx]; omega, by rw [tl_sx]; omega, fun r H4 r0 r1 P4 => ?_⟩
    rw [tl_sx] at r1
    replace P4 := P3.trans P4
    refine ⟨r, rfl, by rw [tl_sx]; omega, .ref p, rfl, tx L, rfl, p, c, _, P4.pen, by omega, .inr ⟨L, rfl, hL1, by omega, fun s H5 hs P5 => ?_⟩⟩
    replace P5 := P4.trans P5
    obtain ⟨rn, rfl⟩ : ∃ rn : Nat, r = rn := ⟨r.toNat, by omega⟩
    have hcut : cutL (tl (sx l)) none (some (rn : Int)) = l.take rn := by rw [tl_sx, cutL_take]
    rw [hcut]
    have hnl : (l.take rn ++ [s]).length ≤ 9 := by simp; omega
    have hn0 : 1 ≤ (l.take rn ++ [s]).length := by simp
    have hna : AllIn L (l.take rn ++ [s]) := allIn_app (fun z hz => hla z (List.mem_of_mem_take hz)) fun z hz => by rw [List.mem_singleton.mp hz]; exact hs
    refine ⟨by rw [tl_sx, tl_sx]; simp; omega, ?_⟩
    rw [tl_sx, tl_sx]
    generalize l.take rn ++ [s] = near at hnl hn0 hna ⊢
    refine ⟨tx t, rfl, .ref p, rfl, tx l, rfl, tx near, rfl, .ref p, rfl, tx L, rfl, p, c, _, P5.pen, by omega, .inr ⟨L, rfl, hL1, by omega, fun s2 H6 hs2 P6 => ⟨by show 3 ≤ sizeLine; decide, fun d hd => ?_⟩⟩⟩
    replace P6 := P5.trans P6
    have P7 := P6.new (o := .lst [tx l, tx near, tx [s2]]) hd
    refine ⟨p, c, _, P7.pen, by omega, .inl ⟨d, [tx l, tx near, tx [s2]], rfl, .inl (SqL.of upd_same), by simp, by simp, fun v H7 hv P8 => ?_⟩⟩
    replace P8 := P7.trans P8
    obtain ⟨x, rfl, x0, x1, xa⟩ : ∃ x, v = tx x ∧ 1 ≤ x.length ∧ x.length ≤ 9 ∧ AllIn L x := by
      rcases List.mem_cons.mp hv with h | h
      · exact ⟨_, h, by omega, by omega, hla⟩
      rcases List.mem_cons.mp h with h | h
      · exact ⟨_, h, hn0, hnl, hna⟩
      · exact ⟨_, List.mem_singleton.mp h, by simp, by simp, fun z hz => by rw [List.mem_singleton.mp hz]; exact hs2⟩
    refine ⟨by rw [tl_sx, tl_sx]; omega, Pm (t ++ x) (j + 1) _ _ H7 (allIn_app ht xa) (by simp; omega) (by omega) (by simp; omega) (P8.mono (by omega)), ?_⟩
    show z.toNat - (t ++ x).length < z.toNat - t.length
    rw [List.length_append]
    omega
  · rw [tl_sx] at hlt
    obtain ⟨zn, rfl⟩ : ∃ zn : Nat, z = zn := ⟨z.toNat, by omega⟩
    refine ⟨tx t, rfl, .int (zn : Int), rfl, zn, rfl, by rw [tl_sx]; omega, ?_⟩
    rw [tl_sx, cutL_take]
    exact q _ _ (by rw [List.length_take]; omega) (fun s hs => ht s (List.mem_of_mem_take hs)) (P2.mono (by omega))
/-! ## where words stand, by the law -/
def spStand (K : PySem.W.Frag) : Sp := fun vs H Q _ => ∃ (L : List Nat) (a : Addr) (ws : List (List Nat)) (w : Nat) (t : List Nat), vs = [.ref a, tx t] ∧ H a = some (.lst (ws.map tx)) ∧ WsOk L ws w ∧ t.length ≤ 1000 ∧
  ∀ b H', H b = none → Same H H' → Prs K H' b (allP ws t t.length) → Q (.ref b) H'
theorem rd_standing (K : PySem.W.Frag) (vs : List V) (H : Hp) (Q : VK) (E : XK) (h : spStand K vs H Q E) : t__law_standing K { nx := fun _ H' => Q .non H', rt := Q } (start n__law_standing vs) H := by
  obtain ⟨L, a, ws, w, t, rfl, ha, hW, ht, q⟩ := h
  obtain ⟨n1, n2, m1, m2, hall, nd⟩ := hW
  refine ⟨by show 0 ≤ sizeLine; decide, fun b0 hb0 => ?_⟩
  refine ⟨tx t, rfl, by rw [tl_sx]; omega, _, rfl, by rw [tl_sx]; omega, by rw [tl_sx]; omega, ?_⟩
  rw [tl_sx, Int.toNat_natCast]
  refine for_range (lo := 0) (fun i σ H' => Same H H' ∧ i ≤ t.length ∧ ∃ b v3 v4, H b = none ∧ Prs K H' b (allP ws t i) ∧ σ = [some (.ref a), some (tx t), some (.ref b), v3, v4]) ⟨Same.new hb0, Nat.zero_le _, b0, _, _, hb0, ⟨[], upd_same, .nil⟩, rfl⟩ ?_ ?_
  · rintro i σ H1 hi ⟨S1, hiN, b, v3, v4, hb, hP, rfl⟩
    rw [Int.zero_add]
    refine ⟨.ref b, rfl, .ref a, rfl, _, .inl (SqL.of (S1 _ _ ha)), _, rfl, by rw [List.length_map]; omega, by rw [List.length_map]; omega, fun D hD => ?_⟩
    rw [List.length_map, Int.toNat_natCast]
    have hbl := hP.len
    obtain ⟨xs, hb1, hd1, hl1⟩ := hbl
    have nbD : b ≠ D := ne_of_none hb1 hD
    refine lcW walk_range (I := fun k acc H' => k ≤ ws.length ∧ acc.length ≤ k ∧ Same H1 H' ∧ ∀ H2, Kp D H' H2 → DpAll K H2 acc ((hitsK ws t i k).map fun k => pd (i, k)))
      (fun k acc H' u h => ⟨h.1, h.2.1, Same.mut h.2.2.1 hD, fun H2 kp => h.2.2.2 H2 fun c u' n e => kp c u' n (by rw [upd_ne n]; exact e)⟩) (fun _ _ _ _ _ => trivial) ⟨Nat.zero_le _, Nat.zero_le _, Same.refl _, fun _ _ => .nil⟩
      (fun k acc H' h => ?len) (fun k x acc H' H2 hk hI hacc y K1 K2 k1 k2 => ?step) (fun acc H' hacc hI => ?fin)
    case len =>
      have := h.1
      have := h.2.1
      omega
    case step =>
      obtain ⟨rfl, rfl⟩ := y
      obtain ⟨hk0, hal, S2, hda⟩ := hI
      have hwl := (hall ws[k] (List.getElem_mem hk)).1
      have eD : ws.getD k [] = ws[k] := by rw [List.getD_eq_getElem?_getD, List.getElem?_eq_getElem hk]; rfl
      have hat : atI (ws.map tx) (0 + (k : Int)) = some (tx ws[k]) := by
        rw [Int.zero_add]
        exact atI_nat (by rw [List.getElem?_map, List.getElem?_eq_getElem hk]; rfl)
      have hcut : cutL (tl (sx t)) (some (i : Int)) (some ((i : Int) + ((tl (sx ws[k])).length : Nat))) = (t.drop i).take w := by
        rw [tl_sx, tl_sx, hwl, show (i : Int) + (w : Nat) = ((i + w : Nat) : Int) by omega, cutL_mid, show i + w - i = w by omega]
      have hs := hitsK_succ ws t i k
      rw [eD, hwl] at hs
      have ha2 : SqL K H2 a (ws.map tx) := SqL.of ((S1.trans S2) _ _ ha)
      refine ⟨rfl, tx t, rfl, .int (i : Int), rfl, (i : Int), rfl, .int (i : Int), rfl, .ref a, rfl, _, rfl, ws.map tx, tx ws[k], .inl ha2, hat, by rw [tl_sx]; omega, _, rfl, by rw [tl_sx]; omega, .ref a, rfl, _, rfl, ws.map tx, tx ws[k], .inl ha2, hat, rfl, _, rfl, ?_⟩
      rw [hcut, dec_tx]
      refine iteD (fun he => ?_) (fun he => ?_)
      · rw [if_pos he] at hs
        refine ⟨.int (i : Int), rfl, _, rfl, by show 2 ≤ sizeLine; decide, fun T hT => ?_⟩
        have nDT : D ≠ T := ne_of_none hacc hT
        refine k1 _ _ (by rw [upd_ne nDT]; exact hacc) ⟨hk, by rw [List.length_append]; simp; omega, Same.new' S2 hT, fun H3 kp => ?_⟩
        rw [hs, List.map_append]
        refine dpa_app (hda H3 ((Kp.of (Same.new hT)).trans kp)) (.cons ?_ .nil)
        refine pd_new (a := i) (b := k) ?_
        refine kp T _ nDT.symm ?_
        rw [upd_same]
        dsimp only
        rw [Int.zero_add]
      · rw [if_neg he, List.append_nil] at hs
        refine k2 _ hacc ⟨hk, by omega, S2, ?_⟩
        rw [hs]
        exact hda
    case fin =>
      obtain ⟨hk0, hal, S2, hda⟩ := hI
      have hb2 := S2 _ _ hb1
      have hl2 := allP_len ws t i
      have : i * ws.length ≤ 1000 * 3 := Nat.mul_le_mul (by omega) n2
      refine .inl ⟨xs, acc, hb2, hacc, by omega, fun p hp => ?_⟩
      have hpb : H1 p = none := S2.free hp
      refine ⟨(S1.trans S2).trans (Same.new hp), hi, p, _, _, S1.free hpb, ⟨xs ++ acc, upd_same, ?_⟩, rfl⟩
      rw [allP_succ, List.map_append, List.map_map]
      exact dpa_app (dpa_same (S2.trans (Same.new hp)) hd1) (dpa_same (Same.new hp) (hda H' (Kp.refl D H')))
  · rintro σ H1 ⟨S1, hiN, b, v3, v4, hb, hP, rfl⟩
    exact ⟨_, rfl, q b H1 hb S1 hP⟩
def spApart (K : PySem.W.Frag) : Sp := fun vs H Q _ => ∃ (a : Addr) (ps : List (Nat × Nat)) (w : Nat), vs = [.ref a, .int (w : Int)] ∧ Prs K H a ps ∧ ps.length ≤ 9000 ∧ ∀ b H', H b = none → Same H H' → Prs K H' b (apartF w 0 ps) → Q (.ref b) H'
theorem rd_apart (K : PySem.W.Frag) (vs : List V) (H : Hp) (Q : VK) (E : XK) (h : spApart K vs H Q E) : t__law_apart K { nx := fun _ H' => Q .non H', rt := Q } (start n__law_apart vs) H := by
  obtain ⟨a, ps, w, rfl, hP, hlen, q⟩ := h
  obtain ⟨xs, hb3, hd3, hl3⟩ := hP.len
  refine ⟨by show 0 ≤ sizeLine; decide, fun c hc => ⟨_, _, rfl, .ref a, rfl, .inl ⟨xs, SqL.of (Same.new hc _ _ hb3), ?_⟩⟩⟩
  refine for_list (K := K) (a := a) (xs := xs) (fun i σ H' => Same H H' ∧ ∃ (kept : List (Nat × Nat)) (e : Nat) (v7 v8 : Option V), Prs K H' c kept ∧ kept.length ≤ i ∧ kept ++ apartF w e (ps.drop i) = apartF w 0 ps ∧
    σ = [some (.ref a), some (.int (w : Int)), some (.ref c), some (.int (e : Int)), v7, v8]) ⟨Same.new hc, [], 0, _, _, ⟨[], upd_same, .nil⟩, Nat.zero_le _, rfl, rfl⟩ (fun i σ H' _ h => SqL.of (h.1 _ _ hb3)) ?_ ?_
  · rintro i x σ H5 hx ⟨S5, kept, e, v7, v8, hk, hkl, hap, rfl⟩
    have hi : i < ps.length := by rw [← hl3]; exact (List.getElem?_eq_some_iff.mp hx).1
    obtain ⟨d, hd, hdp⟩ := dpa_get hd3 hx
    rw [List.getElem?_map, List.getElem?_eq_getElem hi] at hd
    obtain rfl : pd ps[i] = d := Option.some.inj hd
    obtain ⟨T, rfl, hT⟩ := pd_inv (dp_same S5 hdp)
    refine ⟨T, _, rfl, hT, rfl, _, _, rfl, _, _, rfl, rfl, ?_⟩
    refine ⟨.int (ps[i].1 : Nat), rfl, .int (e : Int), rfl, _, rfl, ?_⟩
    have hdr : ps.drop i = ps[i] :: ps.drop (i + 1) := List.drop_eq_getElem_cons hi
    rw [hdr, apartF] at hap
    refine iteD (fun he => ?_) (fun he => ?_)
    · have he : e ≤ ps[i].1 := by omega
      rw [if_pos he] at hap
      obtain ⟨ys, hc5, hd5, hl5⟩ := hk.len
      refine ⟨.ref c, rfl, .inl ⟨rfl, ys, SqL.of hc5⟩, .int (ps[i].1 : Nat), rfl, .int (ps[i].2 : Nat), rfl, by show 2 ≤ sizeLine; decide, fun T2 hT2 => ?_⟩
      have nb : c ≠ T2 := ne_of_none hc5 hT2
      have hc6 : (upd H5 T2 (.tup [.int (ps[i].1 : Nat), .int (ps[i].2 : Nat)])) c = some (.lst ys) := by rw [upd_ne nb]; exact hc5
      have hk6 := Prs.push (hk.same (Same.new hT2)) hc6 (pd_new (a := ps[i].1) (b := ps[i].2) upd_same)
      have S6 := Same.mut (o := .lst (ys ++ [.ref T2])) (Same.new' (o := .tup [.int (ps[i].1 : Nat), .int (ps[i].2 : Nat)]) S5 hT2) hc
      refine ⟨c, ys, .ref T2, rfl, rfl, hc6, sz_lt (by omega), ?_⟩
      refine ⟨.int (ps[i].1 : Nat), rfl, .int (w : Int), rfl, ?_⟩
      exact ⟨S6, kept ++ [ps[i]], ps[i].1 + w, some (.int (ps[i].1 : Nat)), some (.int (ps[i].2 : Nat)), hk6, by rw [List.length_append]; simp; omega, by rw [List.append_assoc]; exact hap, rfl⟩
    · have he : ¬ e ≤ ps[i].1 := by omega
      rw [if_neg he] at hap
      exact ⟨S5, kept, e, _, _, hk, by omega, hap, rfl⟩
  · rintro σ H5 ⟨S5, kept, e, v7, v8, hk, hkl, hap, rfl⟩
    rw [List.drop_of_length_le (by omega), apartF, List.append_nil] at hap
    refine ⟨_, rfl, q c H5 hc S5 ?_⟩
    rw [← hap]
    exact hk
/-! ## the law -/
def spLaw (K : PySem.W.Frag) : Sp := fun vs H Q _ => ∃ (a : Addr) (ns : List Int), vs = [.ref a] ∧ SqL K H a (ns.map V.int) ∧ ns.length ≤ 63 ∧ ∀ H', Q (.bl true) H'
theorem rd_law (K : PySem.W.Frag) (vs : List V) (H : Hp) (Q : VK) (E : XK) (h : spLaw K vs H Q E) : t_law K (spCw K) (spWa K) (spPen K) spDraw spLetters (spWords K) (spText K) (spStand K) (spApart K) { nx := fun _ H' => Q .non H', rt := Q } (start n_law vs) H := by
  obtain ⟨a, ns, rfl, hS, hlen, q⟩ := h
  refine ⟨.ref a, rfl, a, ns, rfl, hS, hlen, fun p c H0 _ _ s0 P0 => ?_⟩
  have hS0 := s0.seq hS
  refine ⟨.ref a, rfl, _, .inl hS0, _, rfl, by omega, by rw [List.length_map]; omega, ?_⟩
  rw [List.length_map]
  generalize hN : ((4 : Int) + min 6 ((ns.length : Nat) : Int)).toNat = N
  have hN2 : N ≤ 16 := by omega
  refine for_range (lo := 0) (fun i σ H' => (∃ v2 v3 v4 v5 v6 v7 v8 v9, σ = [some (.ref a), some (.ref p), v2, v3, v4, v5, v6, v7, v8, v9]) ∧ Pn p c H0 (i * 4000) H') ⟨⟨_, _, _, _, _, _, _, _, rfl⟩, by simpa using Pn.refl P0⟩ ?_ ?_
  · rintro i σ H1 hi ⟨⟨v2, v3, v4, v5, v6, v7, v8, v9, rfl⟩, P1⟩
    have hib : i * 4000 ≤ 16 * 4000 := Nat.mul_le_mul_right _ (by omega)
    refine ⟨.ref p, rfl, p, c, _, rfl, P1.pen, by omega, fun L H2 hL P2 => ?_⟩
    replace P2 := P1.trans P2
    refine ⟨.ref p, rfl, p, c, _, 8, rfl, P2.pen, by omega, by decide, by decide, fun w H3 w0 w1 P3 => ?_⟩
    replace P3 := P2.trans P3
    obtain ⟨w', rfl⟩ : ∃ w' : Nat, w = w' := ⟨w.toNat, by omega⟩
    obtain ⟨m, hm⟩ : ∃ m : Nat, 1 + w' = m := ⟨_, rfl⟩
    have hmi : V.int (1 + (w' : Int)) = V.int (m : Int) := by rw [← hm]; rfl
    refine ⟨_, _, rfl, ?_⟩
    rw [hmi]
    refine ⟨.ref p, rfl, tx L, rfl, .int (m : Int), rfl, .ref p, rfl, p, c, _, 3, rfl, P3.pen, by omega, by decide, by decide, fun k H4 k0 k1 P4 => ?_⟩
    replace P4 := P3.trans P4
    obtain ⟨kn, rfl⟩ : ∃ kn : Nat, k = kn := ⟨k.toNat, by omega⟩
    refine ⟨p, c, _, L, m, 1 + kn, rfl, P4.pen, by omega, hL, by omega, by omega, by omega, by omega, fun b ws H5 hb hws hW P5 => ?_⟩
    replace P5 := P4.trans P5
    refine ⟨tx L, rfl, .ref b, rfl, L, b, ws, m, rfl, hL, .inl (SqL.of hws), hW, fun H6 S6 => ⟨rfl, _, rfl, same_no ?_⟩⟩
    refine ⟨tx L, rfl, .ref b, rfl, ws.map tx, .inl ⟨SqL.of (S6 _ _ hws), fun T hT => ⟨L, T, ws, m, rfl, hL, .inr (SqT.of upd_same), hW, fun H7 S7 => ⟨rfl, _, rfl, same_no ?_⟩⟩⟩⟩
    replace S7 := (Same.new' S6 hT).trans S7
    have hws7 := S7 _ _ hws
    replace P5 := P5.then S7
    have hwl : ws.length ≤ 3 := hW.2.1
    clear S7 S6
    refine ⟨3, rfl, by decide, by decide, for_range (lo := 0)
      (fun j σ H' => (∃ v6 v7 v8 v9, σ = [some (.ref a), some (.ref p), some (.int (0 + (i : Int))), some (tx L), some (.int (m : Int)), some (.ref b), v6, v7, v8, v9]) ∧ Pn p c H7 (i * 4000 + 605 + j * 300) H') ?_ ?_ ?_⟩
    · exact ⟨⟨_, _, _, _, rfl⟩, Pn.refl (P5.pen.mono (by omega))⟩
    · rintro j σ Ha hj ⟨⟨v6, v7, v8, v9, rfl⟩, Pa⟩
      have hba := Pa.lst P5.pen hws7
      have hPa := Pa.pen
      refine ⟨.ref p, rfl, tx L, rfl, .ref b, rfl, p, c, _, L, b, ws, m, rfl, Pa.pen, by omega, hL, hba, hW, fun t Hb ht hta Pb => ?_⟩
      have hbb := Pb.lst hPa hba
      refine ⟨.ref b, rfl, tx t, rfl, L, b, ws, m, t, rfl, hbb, hW, by omega, fun d Hc hd Sc hPd => ?_⟩
      have hbc := Sc _ _ hbb
      have hall : (allP ws t t.length).length ≤ 100 := by
        have := allP_len ws t t.length
        have : t.length * ws.length ≤ 24 * 3 := Nat.mul_le_mul ht hwl
        omega
      have eAll : wantF ws m t kAll = allP ws t t.length := by unfold wantF; rw [if_neg (by decide), if_pos rfl]
      have eFirst : wantF ws m t kFirst = (allP ws t t.length).take 1 := by unfold wantF; rw [if_pos rfl]
      have eApart : wantF ws m t kApart = apartF m 0 (allP ws t t.length) := by unfold wantF; rw [if_neg (by decide), if_neg (by decide)]
      refine ⟨tx L, rfl, .ref b, rfl, tx t, rfl, L, b, ws, m, t, kAll, rfl, hL, .inl (SqL.of hbc), hW, by omega, hta, .inl rfl, fun e1 Hd _ Sd hP1 => ?_⟩
      rw [eAll] at hP1
      refine ⟨.ref d, rfl, prs_ne hP1.dp (hPd.same Sd).dp ?_⟩
      refine ⟨false, rfl, ?_⟩
      refine ⟨tx L, rfl, .ref b, rfl, ws.map tx, .inl ⟨SqL.of (Sd _ _ hbc), fun T hT => ⟨tx t, rfl, L, T, ws, m, t, kAll, rfl, hL, .inr (SqT.of upd_same), hW, by omega, hta, .inl rfl, fun e2 He _ Se hP2 => ?_⟩⟩⟩
      rw [eAll] at hP2
      replace Se := (Same.new' Sd hT).trans Se
      refine ⟨.ref d, rfl, prs_ne hP2.dp (hPd.same Se).dp ?_⟩
      refine ⟨false, rfl, ?_⟩
      refine ⟨tx L, rfl, .ref b, rfl, tx t, rfl, L, b, ws, m, t, kApart, rfl, hL, .inl (SqL.of (Se _ _ hbc)), hW, by omega, hta, .inr (.inl rfl), fun e3 Hf _ Sf hP3 => ?_⟩
      rw [eApart] at hP3
      replace Sf := Se.trans Sf
      refine ⟨.ref d, rfl, .int (m : Int), rfl, d, _, m, rfl, hPd.same Sf, by omega, fun e4 Hg _ Sg hP4 => ?_⟩
      refine prs_ne (hP3.same Sg).dp hP4.dp ?_
      refine ⟨false, rfl, ?_⟩
      replace Sg := Sf.trans Sg
      refine ⟨tx L, rfl, .ref b, rfl, tx t, rfl, L, b, ws, m, t, kFirst, rfl, hL, .inl (SqL.of (Sg _ _ hbc)), hW, by omega, hta, .inr (.inr rfl), fun e5 Hh hf5 Sh hP5 => ?_⟩
      rw [eFirst] at hP5
      obtain ⟨x5, he5, hd5, hl5⟩ := hP5.len
      replace Sh := Sg.trans Sh
      obtain ⟨xs, hdh, hxd, hxl⟩ := (hPd.same Sh).len
      have first : ∀ (xs : List V) (H' : Hp) (s : Addr), DpAll K H' xs ((allP ws t t.length).map pd) → H' s = none → Dp K (upd H' s (.lst (cutV xs none (some 1)))) (.ref s) (.list (((allP ws t t.length).take 1).map pd)) := fun xs H' s hx hs => by
        refine .lst (SqL.of upd_same) ?_
        rw [show cutV xs none (some 1) = xs.take 1 from cutV_take xs 1, List.map_take]
        exact dpa_take 1 (dpa_same (Same.new hs) hx)
      refine ⟨.ref e5, rfl, .ref d, rfl, 1, rfl, .inl ⟨d, xs, rfl, SqL.of hdh, fun s hs => ?_⟩⟩
      refine prs_ne (hP5.same (Same.new hs)).dp (first _ _ _ hxd hs) ?_
      refine ⟨false, rfl, ?_⟩
      have he5s := Same.new (o := .lst (cutV xs none (some 1))) hs _ _ he5
      refine ⟨.ref e5, rfl, _, _, tyx_list (SqL.of he5s), kb_list, ?_⟩
      replace Sh := Same.new' (o := .lst (cutV xs none (some 1))) Sh hs
      refine ⟨.ref e5, rfl, .inl ⟨rfl, _, SqL.of he5s⟩, by show 2 ≤ sizeLine; decide, fun T2 hT2 => ⟨e5, x5, .ref T2, rfl, rfl, Same.new hT2 _ _ he5s, sz_lt (by rw [hl5, List.length_take]; omega), ?_⟩⟩
      have Sk := Same.mut (o := .lst (x5 ++ [.ref T2])) (Same.new' (o := .tup [.int 7, .int 7]) Sh hT2) (Sg.free hf5)
      refine ⟨tx L, rfl, .ref b, rfl, tx t, rfl, L, b, ws, m, t, kFirst, rfl, hL, .inl (SqL.of (Sk _ _ hbc)), hW, by omega, hta, .inr (.inr rfl), fun e6 Hm _ Sm hP6 => ?_⟩
      rw [eFirst] at hP6
      replace Sm := Sk.trans Sm
      obtain ⟨xs2, hdm, hxd2, hxl2⟩ := (hPd.same Sm).len
      refine ⟨.ref d, rfl, 1, rfl, .inl ⟨d, xs2, rfl, SqL.of hdm, fun s2 hs2 => ?_⟩⟩
      refine prs_ne (hP6.same (Same.new hs2)).dp (first _ _ _ hxd2 hs2) ?_
      refine ⟨false, rfl, ?_⟩
      exact ⟨⟨_, _, _, _, rfl⟩, ((Pa.trans Pb).then (Sc.trans (Same.new' Sm hs2))).mono (by omega)⟩
    · rintro σ Ha ⟨⟨v6, v7, v8, v9, rfl⟩, Pa⟩
      exact ⟨⟨_, _, _, _, _, _, _, _, rfl⟩, (P5.trans Pa).mono (by omega)⟩
  · rintro σ H1 ⟨⟨v2, v3, v4, v5, v6, v7, v8, v9, rfl⟩, P1⟩
    exact q _
theorem len_words (K : PySem.W.Frag) : ∀ vs H Q E, spWords K vs H Q E → vs.length = 4 := by
  rintro _ _ _ _ ⟨_, _, _, _, _, _, rfl, _⟩; rfl
theorem len_text (K : PySem.W.Frag) : ∀ vs H Q E, spText K vs H Q E → vs.length = 4 := by
  rintro _ _ _ _ ⟨_, _, _, _, _, _, _, rfl, _⟩; rfl
theorem len_stand (K : PySem.W.Frag) : ∀ vs H Q E, spStand K vs H Q E → vs.length = 2 := by
  rintro _ _ _ _ ⟨_, _, _, _, _, rfl, _⟩; rfl
theorem len_apart (K : PySem.W.Frag) : ∀ vs H Q E, spApart K vs H Q E → vs.length = 2 := by
  rintro _ _ _ _ ⟨_, _, _, rfl, _⟩; rfl
theorem len_law (K : PySem.W.Frag) : ∀ vs H Q E, spLaw K vs H Q E → vs.length = 1 := by
  rintro _ _ _ _ ⟨_, _, rfl, _⟩; rfl
end Wk01

namespace Wk01
open PySem PySem.Spec PyProof.Rows L2 Wk WkS WkA WkP
open TL (tl len_tl ext_tl tl_append mk_tl)
def top (i : Nat) : Stmt := PySem.Challenge.pw_wordskips_k01_wanted_places.main.body.getD i (.Pass ⟨0, 0, 0, 0⟩)
abbrev x_check_letters : Stmt := top 11
theorem sc_check_letters : FnScope n_check_letters ["letters"] (defScope x_check_letters) := ⟨rfl, rfl, rfl, by decide +kernel, rfl, by decide +kernel, by decide +kernel⟩
abbrev x_is_word : Stmt := top 12
theorem sc_is_word : FnScope n_is_word ["letters", "value"] (defScope x_is_word) := ⟨rfl, rfl, rfl, by decide +kernel, rfl, by decide +kernel, by decide +kernel⟩
abbrev x_check_words : Stmt := top 13
theorem sc_check_words : FnScope n_check_words ["letters", "words"] (defScope x_check_words) := ⟨rfl, rfl, rfl, by decide +kernel, rfl, by decide +kernel, by decide +kernel⟩
abbrev x_check_text : Stmt := top 14
theorem sc_check_text : FnScope n_check_text ["letters", "text"] (defScope x_check_text) := ⟨rfl, rfl, rfl, by decide +kernel, rfl, by decide +kernel, by decide +kernel⟩
abbrev x_all_places : Stmt := top 15
theorem sc_all_places : FnScope n_all_places ["words", "text"] (defScope x_all_places) := ⟨rfl, rfl, rfl, by decide +kernel, rfl, by decide +kernel, by decide +kernel⟩
abbrev x_wanted : Stmt := top 16
theorem sc_wanted : FnScope n_wanted ["letters", "words", "text", "wish"] (defScope x_wanted) := ⟨rfl, rfl, rfl, by decide +kernel, rfl, by decide +kernel, by decide +kernel⟩
abbrev x__law_pen : Stmt := top 18
theorem sc__law_pen : FnScope n__law_pen ["_law_script"] (defScope x__law_pen) := ⟨rfl, rfl, rfl, by decide +kernel, rfl, by decide +kernel, by decide +kernel⟩
abbrev x__law_draw : Stmt := top 19
theorem sc__law_draw : FnScope n__law_draw ["_law_pen_here", "_law_many"] (defScope x__law_draw) := ⟨rfl, rfl, rfl, by decide +kernel, rfl, by decide +kernel, by decide +kernel⟩
abbrev x__law_pick : Stmt := top 20
theorem sc__law_pick : FnScope n__law_pick ["_law_pen_here", "_law_some"] (defScope x__law_pick) := ⟨rfl, rfl, rfl, by decide +kernel, rfl, by decide +kernel, by decide +kernel⟩
abbrev x__law_letters : Stmt := top 21
theorem sc__law_letters : FnScope n__law_letters ["_law_pen_here"] (defScope x__law_letters) := ⟨rfl, rfl, rfl, by decide +kernel, rfl, by decide +kernel, by decide +kernel⟩
abbrev x__law_word : Stmt := top 22
theorem sc__law_word : FnScope n__law_word ["_law_pen_here", "_law_letters_here", "_law_width"] (defScope x__law_word) := ⟨rfl, rfl, rfl, by decide +kernel, rfl, by decide +kernel, by decide +kernel⟩
abbrev x__law_words : Stmt := top 23
theorem sc__law_words : FnScope n__law_words ["_law_pen_here", "_law_letters_here", "_law_width", "_law_many"] (defScope x__law_words) := ⟨rfl, rfl, rfl, by decide +kernel, rfl, by decide +kernel, by decide +kernel⟩
abbrev x__law_text : Stmt := top 24
theorem sc__law_text : FnScope n__law_text ["_law_pen_here", "_law_letters_here", "_law_words_here", "_law_most"] (defScope x__law_text) := ⟨rfl, rfl, rfl, by decide +kernel, rfl, by decide +kernel, by decide +kernel⟩
abbrev x__law_standing : Stmt := top 25
theorem sc__law_standing : FnScope n__law_standing ["_law_words_here", "_law_text_here"] (defScope x__law_standing) := ⟨rfl, rfl, rfl, by decide +kernel, rfl, by decide +kernel, by decide +kernel⟩
abbrev x__law_apart : Stmt := top 26
theorem sc__law_apart : FnScope n__law_apart ["_law_pairs", "_law_width"] (defScope x__law_apart) := ⟨rfl, rfl, rfl, by decide +kernel, rfl, by decide +kernel, by decide +kernel⟩
abbrev x_law : Stmt := top 27
theorem sc_law : FnScope n_law ["_law_script"] (defScope x_law) := ⟨rfl, rfl, rfl, by decide +kernel, rfl, by decide +kernel, by decide +kernel⟩
structure Txt (K : PySem.W.Frag) (mg : Str → Option Value) : Prop where
  z_abs : mg "abs" = none
  z_all : mg "all" = none
  z_enumerate : mg "enumerate" = none
  z_int : mg "int" = none
  z_isinstance : mg "isinstance" = none
  z_len : mg "len" = none
  z_list : mg "list" = none
  z_min : mg "min" = none
  z_range : mg "range" = none
  z_set : mg "set" = none
  z_str : mg "str" = none
  z_tuple : mg "tuple" = none
  g_MOST_WIDTH : GV mg "MOST_WIDTH" (.int 8)
  g_MOST_WORDS : GV mg "MOST_WORDS" (.int 3)
  g_SMALL : GV mg "SMALL" (tx [97, 98, 99, 100, 101, 102, 103, 104, 105, 106, 107, 108, 109, 110, 111, 112, 113, 114, 115, 116, 117, 118, 119, 120, 121, 122])
  g_WISHES : GT K mg "WISHES" [(tx [97, 108, 108]), (tx [97, 112, 97, 114, 116]), (tx [102, 105, 114, 115, 116])]
  f_check_letters : Df K mg "check_letters" x_check_letters ["letters"]
  f_is_word : Df K mg "is_word" x_is_word ["letters", "value"]
  f_check_words : Df K mg "check_words" x_check_words ["letters", "words"]
  f_check_text : Df K mg "check_text" x_check_text ["letters", "text"]
  f_all_places : Df K mg "all_places" x_all_places ["words", "text"]
  f_wanted : DfD K mg "wanted" x_wanted ["letters", "words", "text", "wish"] [(tx [97, 108, 108])]
  f__law_pen : Df K mg "_law_pen" x__law_pen ["_law_script"]
  f__law_draw : Df K mg "_law_draw" x__law_draw ["_law_pen_here", "_law_many"]
  f__law_pick : Df K mg "_law_pick" x__law_pick ["_law_pen_here", "_law_some"]
  f__law_letters : Df K mg "_law_letters" x__law_letters ["_law_pen_here"]
  f__law_word : Df K mg "_law_word" x__law_word ["_law_pen_here", "_law_letters_here", "_law_width"]
  f__law_words : Df K mg "_law_words" x__law_words ["_law_pen_here", "_law_letters_here", "_law_width", "_law_many"]
  f__law_text : Df K mg "_law_text" x__law_text ["_law_pen_here", "_law_letters_here", "_law_words_here", "_law_most"]
  f__law_standing : Df K mg "_law_standing" x__law_standing ["_law_words_here", "_law_text_here"]
  f__law_apart : Df K mg "_law_apart" x__law_apart ["_law_pairs", "_law_width"]
  f_law : Df K mg "law" x_law ["_law_script"]
section
variable {P : Program} {w : World} {K : PySem.W.Frag} {mg : Str → Option Value} {base : Heap}
theorem w_check_letters (T : Txt K mg) {sp : Sp} (len : ∀ vs H Q E, sp vs H Q E → vs.length = 1)
    (rd : ∀ vs H Q E, sp vs H Q E → t_check_letters K { nx := fun _ H' => Q .non H', rt := Q } (start n_check_letters vs) H) : Cal P w K mg base "check_letters" ["letters"] 1 sp := by
  refine T.f_check_letters.cal sc_check_letters len fun f cdv A outer s H vs Q E hr h => ⟨t_check_letters K, ?_, rd vs H Q E h⟩
  exact (pss_cons (ps_if (PW.pt (pw_or (pt_not (pt_tru (pe_callB (call_isi1) (by rfl) T.z_isinstance (by decide +kernel) (pa_cons (pv 0) (pa_cons (pe_bltn (v := .ty "str") (by rfl) T.z_str (by decide +kernel) rfl) pa_nil))) (by intro _; rfl))) (pw_or (pt_not (pt_chain (op_leq) (op_leq) pe_int (pe_callB (call_len1) (by rfl) T.z_len (by decide +kernel) (pa_cons (pv 0) pa_nil)) pe_int)) (pw_or1 (pt_cmpR (op_less) (WkS.pe_signs rfl (by rfl) T.z_len (by rfl) T.z_set (pv 0)) (pe_callB (call_len1) (by rfl) T.z_len (by decide +kernel) (pa_cons (pv 0) pa_nil)) (nomark _)))))) (pss_one ps_never) pss_nil)
      (pss_one (ps_if (pt_not (pt_tru (pe_callB (cr_all rfl) (by rfl) T.z_all (by decide +kernel) (pa_cons (pe_lc (own := [("letter", 1)]) (g := (gName 1)) (tt := tYes) rfl sc_check_letters.nd (pi_any (pv 0)) (blkOk_by (own := [("letter", 1)]) (N := n_check_letters) (sc := defScope x_check_letters) (by decide +kernel)) (fun _ _ _ _ _ => (pg_name (i := 1) sc_check_letters.nd rfl (Or.inl rfl))) (fun _ _ _ _ _ => pts_nil) (fun _ _ _ _ _ => (pe_cmpR (op_inn) (pv 1) (pe_gv rfl T.g_SMALL (by decide)) rfl))) pa_nil)) (by intro _; rfl))) (pss_one ps_never) pss_nil)))
theorem w_is_word (T : Txt K mg) {sp : Sp} (len : ∀ vs H Q E, sp vs H Q E → vs.length = 2)
    (rd : ∀ vs H Q E, sp vs H Q E → t_is_word K { nx := fun _ H' => Q .non H', rt := Q } (start n_is_word vs) H) : Cal P w K mg base "is_word" ["letters", "value"] 1 sp := by
  refine T.f_is_word.cal sc_is_word len fun f cdv A outer s H vs Q E hr h => ⟨t_is_word K, ?_, rd vs H Q E h⟩
  exact (pss_cons (ps_if (PW.pt (pw_or (pt_not (pt_tru (pe_callB (call_isi1) (by rfl) T.z_isinstance (by decide +kernel) (pa_cons (pv 1) (pa_cons (pe_bltn (v := .ty "str") (by rfl) T.z_str (by decide +kernel) rfl) pa_nil))) (by intro _; rfl))) (pw_or1 (pt_not (pt_chain (op_leq) (op_leq) pe_int (pe_callB (call_len1) (by rfl) T.z_len (by decide +kernel) (pa_cons (pv 1) pa_nil)) (pe_gv rfl T.g_MOST_WIDTH (by decide))))))) (pss_one (ps_ret pe_bl)) pss_nil)
      (pss_one (ps_ret (pe_callB (cr_all rfl) (by rfl) T.z_all (by decide +kernel) (pa_cons (pe_lc (own := [("letter", 2)]) (g := (gName 2)) (tt := tYes) rfl sc_is_word.nd (pi_any (pv 1)) (blkOk_by (own := [("letter", 2)]) (N := n_is_word) (sc := defScope x_is_word) (by decide +kernel)) (fun _ _ _ _ _ => (pg_name (i := 2) sc_is_word.nd rfl (Or.inl rfl))) (fun _ _ _ _ _ => pts_nil) (fun _ _ _ _ _ => (pe_cmpR (op_inn) (pv 2) (pv 0) rfl))) pa_nil)))))
theorem w_check_words (T : Txt K mg) {s_check_letters : Sp} (c_check_letters : Cal P w K mg base "check_letters" ["letters"] 1 s_check_letters) {s_is_word : Sp} (c_is_word : Cal P w K mg base "is_word" ["letters", "value"] 1 s_is_word) {sp : Sp} (len : ∀ vs H Q E, sp vs H Q E → vs.length = 2)
    (rd : ∀ vs H Q E, sp vs H Q E → t_check_words K s_check_letters s_is_word { nx := fun _ H' => Q .non H', rt := Q } (start n_check_words vs) H) : Cal P w K mg base "check_words" ["letters", "words"] 2 sp := by
  refine T.f_check_words.cal sc_check_words len fun f cdv A outer s H vs Q E hr h => ⟨t_check_words K s_check_letters s_is_word, ?_, rd vs H Q E h⟩
  exact (pss_cons (ps_expr (Cal.call c_check_letters (hr.mono (by decide)) rfl (pa_cons (pv 0) pa_nil)))
      (pss_cons (ps_for PassesOwn.never rfl (pi_enumG (by rfl) T.z_enumerate (pa_cons (pv 1) pa_nil)) (pg_tup rfl (pgs_cons (pg_name (i := 2) sc_check_words.nd rfl (Or.inl rfl)) (pgs_cons (pg_name (i := 3) sc_check_words.nd rfl (Or.inl rfl)) pgs_nil))) (pss_one (ps_if (PW.pt (pw_or (pt_cmpR (op_eqq hr.units) (pv 2) (pe_gv rfl T.g_MOST_WORDS (by decide)) (nomark _)) (pw_or (pt_not (pt_tru (Cal.call c_is_word (hr.mono (by decide)) rfl (pa_cons (pv 0) (pa_cons (pv 3) pa_nil))) (by intro _; rfl))) (pw_or (pt_cmpR (op_neq hr.units) (pe_callB (call_len1) (by rfl) T.z_len (by decide +kernel) (pa_cons (pv 3) pa_nil)) (pe_callB (call_len1) (by rfl) T.z_len (by decide +kernel) (pa_cons (pe_ix ix_item (pv 1) pe_int (fun _ _ => rfl)) pa_nil)) (nomark _)) (pw_or1 (pt_cmpR (op_inn) (pv 3) (pe_slice sl_cut (pv 1) po_none (po_some (pv 2))) rfl)))))) (pss_one ps_never) pss_nil)))
      (pss_one (ps_if (pt_cmpR (op_eqq hr.units) (pe_callB (call_len1) (by rfl) T.z_len (by decide +kernel) (pa_cons (pv 1) pa_nil)) pe_int (nomark _)) (pss_one ps_never) pss_nil))))
theorem w_check_text (T : Txt K mg) {sp : Sp} (len : ∀ vs H Q E, sp vs H Q E → vs.length = 2)
    (rd : ∀ vs H Q E, sp vs H Q E → t_check_text K { nx := fun _ H' => Q .non H', rt := Q } (start n_check_text vs) H) : Cal P w K mg base "check_text" ["letters", "text"] 1 sp := by
  refine T.f_check_text.cal sc_check_text len fun f cdv A outer s H vs Q E hr h => ⟨t_check_text K, ?_, rd vs H Q E h⟩
  exact (pss_cons (ps_if (pt_not (pt_tru (pe_callB (call_isi1) (by rfl) T.z_isinstance (by decide +kernel) (pa_cons (pv 1) (pa_cons (pe_bltn (v := .ty "str") (by rfl) T.z_str (by decide +kernel) rfl) pa_nil))) (by intro _; rfl))) (pss_one ps_never) pss_nil)
      (pss_one (ps_for PassesOwn.never rfl (pi_enumG (by rfl) T.z_enumerate (pa_cons (pv 1) pa_nil)) (pg_tup rfl (pgs_cons (pg_name (i := 2) sc_check_text.nd rfl (Or.inl rfl)) (pgs_cons (pg_name (i := 3) sc_check_text.nd rfl (Or.inl rfl)) pgs_nil))) (pss_one (ps_if (pt_cmpR (op_nin) (pv 3) (pv 0) rfl) (pss_one ps_never) pss_nil)))))
theorem w_all_places (T : Txt K mg) {sp : Sp} (len : ∀ vs H Q E, sp vs H Q E → vs.length = 2)
    (rd : ∀ vs H Q E, sp vs H Q E → t_all_places K { nx := fun _ H' => Q .non H', rt := Q } (start n_all_places vs) H) : Cal P w K mg base "all_places" ["words", "text"] 1 sp := by
  refine T.f_all_places.cal sc_all_places len fun f cdv A outer s H vs Q E hr h => ⟨t_all_places K, ?_, rd vs H Q E h⟩
  exact (pss_cons (ps_par (i := 2) (j := 3) (by rfl) sc_all_places.nd rfl rfl (by decide) rfl rfl (pa_cons (pe_callB (call_len1) (by rfl) T.z_len (by decide +kernel) (pa_cons (pe_ix ix_item (pv 0) pe_int (fun _ _ => rfl)) pa_nil)) (pa_cons (pe_lst pa_nil) pa_nil)) (by rfl))
      (pss_cons (ps_for PassesOwn.never rfl (pi_range1 rfl T.z_range (pa_cons (pe_op op_plus (pe_op op_minus (pe_callB (call_len1) (by rfl) T.z_len (by decide +kernel) (pa_cons (pv 1) pa_nil)) (pv 2)) pe_int) pa_nil)) (pg_name (i := 4) sc_all_places.nd rfl (Or.inl rfl)) (pss_one (ps_for PassesOwn.never rfl (pi_enumG (by rfl) T.z_enumerate (pa_cons (pv 0) pa_nil)) (pg_tup rfl (pgs_cons (pg_name (i := 5) sc_all_places.nd rfl (Or.inl rfl)) (pgs_cons (pg_name (i := 6) sc_all_places.nd rfl (Or.inl rfl)) pgs_nil))) (pss_one (ps_if (pt_cmpR (op_eqq hr.units) (pe_slice sl_cut (pv 1) (po_some (pv 4)) (po_some (pe_op op_plus (pv 4) (pv 2)))) (pv 6) (nomark _)) (pss_one (ps_expr (pe_bm PySem.F.plainAttrs_list PySem.F.slot_list_append PySem.F.type_list_append mt_append (pv 3) (pa_cons (pe_tup (pa_cons (pv 4) (pa_cons (pv 5) pa_nil))) pa_nil)))) pss_nil)))))
      (pss_one (ps_ret (pv 3)))))
theorem w_wanted (T : Txt K mg) {s_check_words : Sp} (c_check_words : Cal P w K mg base "check_words" ["letters", "words"] 2 s_check_words) {s_check_text : Sp} (c_check_text : Cal P w K mg base "check_text" ["letters", "text"] 1 s_check_text) {s_all_places : Sp} (c_all_places : Cal P w K mg base "all_places" ["words", "text"] 1 s_all_places) {sp : Sp} (len : ∀ vs H Q E, sp vs H Q E → vs.length = 4)
    (rd : ∀ vs H Q E, sp vs H Q E → t_wanted K s_check_words s_check_text s_all_places { nx := fun _ H' => Q .non H', rt := Q } (start n_wanted vs) H) : CalD P w K mg base "wanted" ["letters", "words", "text", "wish"] 3 [(tx [97, 108, 108])] sp := by
  refine T.f_wanted.cal sc_wanted len fun f cdv A outer s H vs Q E hr h => ⟨t_wanted K s_check_words s_check_text s_all_places, ?_, rd vs H Q E h⟩
  exact (pss_cons (ps_expr (Cal.call c_check_words (hr.mono (by decide)) rfl (pa_cons (pv 0) (pa_cons (pv 1) pa_nil))))
      (pss_cons (ps_expr (Cal.call c_check_text (hr.mono (by decide)) rfl (pa_cons (pv 0) (pa_cons (pv 2) pa_nil))))
      (pss_cons (ps_if (PW.pt (pw_or (pt_not (pt_tru (pe_callB (call_isi1) (by rfl) T.z_isinstance (by decide +kernel) (pa_cons (pv 3) (pa_cons (pe_bltn (v := .ty "str") (by rfl) T.z_str (by decide +kernel) rfl) pa_nil))) (by intro _; rfl))) (pw_or1 (pt_cmpR (op_nin) (pv 3) (pe_gt rfl T.g_WISHES (by decide)) rfl)))) (pss_one ps_never) pss_nil)
      (pss_cons (ps_set (i := 4) sc_wanted.nd rfl (Or.inl rfl) (Cal.call c_all_places (hr.mono (by decide)) rfl (pa_cons (pv 1) (pa_cons (pv 2) pa_nil))))
      (pss_cons (ps_if (pt_cmpR (op_eqq hr.units) (pv 3) (pe_txt (l := [102, 105, 114, 115, 116]) (by decide +kernel)) (nomark _)) (pss_one (ps_ret (pe_slice sl_cut (pv 4) po_none (po_some pe_int)))) pss_nil)
      (pss_cons (ps_if (pt_cmpR (op_eqq hr.units) (pv 3) (pe_txt (l := [97, 108, 108]) (by decide +kernel)) (nomark _)) (pss_one (ps_ret (pv 4))) pss_nil)
      (pss_cons (ps_par (i := 5) (j := 6) (by rfl) sc_wanted.nd rfl rfl (by decide) rfl rfl (pa_cons (pe_lst pa_nil) (pa_cons pe_int pa_nil)) (by rfl))
      (pss_cons (ps_for PassesOwn.never rfl (pi_any (pv 4)) (pg_tup rfl (pgs_cons (pg_name (i := 7) sc_wanted.nd rfl (Or.inl rfl)) (pgs_cons (pg_name (i := 8) sc_wanted.nd rfl (Or.inl rfl)) pgs_nil))) (pss_one (ps_if (pt_cmpR (op_meq) (pv 7) (pv 6) (nomark _)) (pss_cons (ps_expr (pe_bm PySem.F.plainAttrs_list PySem.F.slot_list_append PySem.F.type_list_append mt_append (pv 5) (pa_cons (pe_tup (pa_cons (pv 7) (pa_cons (pv 8) pa_nil))) pa_nil)))
      (pss_one (ps_set (i := 6) sc_wanted.nd rfl (Or.inl rfl) (pe_op op_plus (pv 7) (pe_callB (call_len1) (by rfl) T.z_len (by decide +kernel) (pa_cons (pe_ix ix_item (pv 1) pe_int (fun _ _ => rfl)) pa_nil)))))) pss_nil)))
      (pss_one (ps_ret (pv 5)))))))))))
theorem w__law_pen (T : Txt K mg) {sp : Sp} (len : ∀ vs H Q E, sp vs H Q E → vs.length = 1)
    (rd : ∀ vs H Q E, sp vs H Q E → t__law_pen K { nx := fun _ H' => Q .non H', rt := Q } (start n__law_pen vs) H) : Cal P w K mg base "_law_pen" ["_law_script"] 1 sp := by
  refine T.f__law_pen.cal sc__law_pen len fun f cdv A outer s H vs Q E hr h => ⟨t__law_pen K, ?_, rd vs H Q E h⟩
  exact (pss_one (ps_ret (pe_disp (pps_cons (pe_txt (l := [99, 101, 108, 108, 115]) (by decide +kernel)) (pe_callTy (call_list1) (by rfl) T.z_list (by decide +kernel) (pa_cons (pe_slice sl_cut (pv 0) po_none (po_some pe_int)) pa_nil)) (pps_cons (pe_txt (l := [111, 112, 101, 110, 101, 100]) (by decide +kernel)) pe_int (pps_cons (pe_txt (l := [108, 101, 102, 116]) (by decide +kernel)) pe_int pps_nil))) (by rfl) (by rfl) (fun z => by cases z) (by decide))))
theorem w__law_draw (T : Txt K mg) {sp : Sp} (len : ∀ vs H Q E, sp vs H Q E → vs.length = 2)
    (rd : ∀ vs H Q E, sp vs H Q E → t__law_draw K { nx := fun _ H' => Q .non H', rt := Q } (start n__law_draw vs) H) : Cal P w K mg base "_law_draw" ["_law_pen_here", "_law_many"] 1 sp := by
  refine T.f__law_draw.cal sc__law_draw len fun f cdv A outer s H vs Q E hr h => ⟨t__law_draw K, ?_, rd vs H Q E h⟩
  exact (pss_cons (ps_if (pt_cmpR (op_more) (pe_dget (hu_of hr) (pv 0) (pe_txt (l := [108, 101, 102, 116]) (by decide +kernel)) (fun _ _ => rfl)) pe_int (nomark _)) (pss_cons (ps_set (i := 2) sc__law_draw.nd rfl (Or.inl rfl) (pe_op op_rest (pe_callTy (call_intM) (by rfl) T.z_int (by decide +kernel) (pa_cons (pe_dget (hu_of hr) (pv 0) (pe_txt (l := [108, 101, 102, 116]) (by decide +kernel)) (fun _ _ => rfl)) pa_nil)) (pv 1)))
      (pss_cons (ps_dput (hu_of hr) (pv 0) (pe_txt (l := [108, 101, 102, 116]) (by decide +kernel)) (pe_op op_over (pe_dget (hu_of hr) (pv 0) (pe_txt (l := [108, 101, 102, 116]) (by decide +kernel)) (fun _ _ => rfl)) (pv 1)) rfl)
      (pss_one (ps_ret (pv 2))))) pss_nil)
      (pss_cons (ps_par (i := 3) (j := 4) (by rfl) sc__law_draw.nd rfl rfl (by decide) rfl rfl (pa_cons (pe_dget (hu_of hr) (pv 0) (pe_txt (l := [111, 112, 101, 110, 101, 100]) (by decide +kernel)) (fun _ _ => rfl)) (pa_cons (pe_dget (hu_of hr) (pv 0) (pe_txt (l := [99, 101, 108, 108, 115]) (by decide +kernel)) (fun _ _ => rfl)) pa_nil)) (by rfl))
      (pss_cons (ps_dput (hu_of hr) (pv 0) (pe_txt (l := [111, 112, 101, 110, 101, 100]) (by decide +kernel)) (pe_op op_plus (pv 3) pe_int) rfl)
      (pss_cons (ps_if (pt_cmpR (op_eqq hr.units) (pv 4) (pe_lst pa_nil) (nomark _)) (pss_one (ps_ret (pe_op op_rest (pe_callTy (call_intM) (by rfl) T.z_int (by decide +kernel) (pa_cons (pe_op op_plus (pe_op op_times pe_int (pv 3)) pe_int) pa_nil)) (pv 1)))) pss_nil)
      (pss_cons (ps_set (i := 5) sc__law_draw.nd rfl (Or.inl rfl) (pe_ix ix_item (pv 4) (pe_op op_rest (pe_callTy (call_intM) (by rfl) T.z_int (by decide +kernel) (pa_cons (pv 3) pa_nil)) (pe_callB (call_len1) (by rfl) T.z_len (by decide +kernel) (pa_cons (pv 4) pa_nil))) (fun _ _ => rfl)))
      (pss_cons (ps_if (PW.pt (pw_and (pt_cmpR (op_less) (pv 3) (pe_callB (call_len1) (by rfl) T.z_len (by decide +kernel) (pa_cons (pv 4) pa_nil)) (nomark _)) (pw_and1 (pt_cmpR (op_meq) (pe_callB (call_abs1) (by rfl) T.z_abs (by decide +kernel) (pa_cons (pv 5) pa_nil)) (pe_op op_power pe_int pe_int) (nomark _))))) (pss_cons (ps_dput (hu_of hr) (pv 0) (pe_txt (l := [108, 101, 102, 116]) (by decide +kernel)) (pe_op op_over (pe_op op_minus (pe_callB (call_abs1) (by rfl) T.z_abs (by decide +kernel) (pa_cons (pv 5) pa_nil)) (pe_op op_power pe_int pe_int)) (pv 1)) rfl)
      (pss_one (ps_ret (pe_op op_rest (pe_callTy (call_intM) (by rfl) T.z_int (by decide +kernel) (pa_cons (pe_op op_minus (pe_callB (call_abs1) (by rfl) T.z_abs (by decide +kernel) (pa_cons (pv 5) pa_nil)) (pe_op op_power pe_int pe_int)) pa_nil)) (pv 1))))) pss_nil)
      (pss_cons (ps_set (i := 6) sc__law_draw.nd rfl (Or.inl rfl) (pe_op op_rest (pe_callTy (call_intM) (by rfl) T.z_int (by decide +kernel) (pa_cons (pe_op op_plus (pe_op op_plus (pe_op op_plus (pe_op op_times (pe_op op_rest (pe_callTy (call_intM) (by rfl) T.z_int (by decide +kernel) (pa_cons (pv 5) pa_nil)) pe_int) pe_int) (pe_op op_times (pe_op op_times pe_int (pv 3)) (pv 3))) (pe_op op_times pe_int (pv 3))) pe_int) pa_nil)) pe_int))
      (pss_cons (ps_set (i := 6) sc__law_draw.nd rfl (Or.inl rfl) (pe_op op_rest (pe_callTy (call_intM) (by rfl) T.z_int (by decide +kernel) (pa_cons (pe_op op_plus (pe_op op_plus (pe_op op_times (pv 6) (pv 6)) (pe_op op_times pe_int (pv 6))) (pe_op op_times pe_int (pv 3))) pa_nil)) pe_int))
      (pss_one (ps_ret (pe_op op_rest (pe_callTy (call_intM) (by rfl) T.z_int (by decide +kernel) (pa_cons (pe_op op_over (pe_op op_rest (pe_callTy (call_intM) (by rfl) T.z_int (by decide +kernel) (pa_cons (pe_op op_times (pv 6) (pe_op op_plus (pv 6) pe_int)) pa_nil)) pe_int) pe_int) pa_nil)) (pv 1))))))))))))
theorem w__law_pick (T : Txt K mg) {s__law_draw : Sp} (c__law_draw : Cal P w K mg base "_law_draw" ["_law_pen_here", "_law_many"] 1 s__law_draw) {sp : Sp} (len : ∀ vs H Q E, sp vs H Q E → vs.length = 2)
    (rd : ∀ vs H Q E, sp vs H Q E → t__law_pick K s__law_draw { nx := fun _ H' => Q .non H', rt := Q } (start n__law_pick vs) H) : Cal P w K mg base "_law_pick" ["_law_pen_here", "_law_some"] 2 sp := by
  refine T.f__law_pick.cal sc__law_pick len fun f cdv A outer s H vs Q E hr h => ⟨t__law_pick K s__law_draw, ?_, rd vs H Q E h⟩
  exact (pss_one (ps_ret (pe_ix ix_item (pv 1) (Cal.call c__law_draw (hr.mono (by decide)) rfl (pa_cons (pv 0) (pa_cons (pe_callB (call_len1) (by rfl) T.z_len (by decide +kernel) (pa_cons (pv 1) pa_nil)) pa_nil))) (fun _ _ => rfl))))
theorem w__law_letters (T : Txt K mg) {s__law_draw : Sp} (c__law_draw : Cal P w K mg base "_law_draw" ["_law_pen_here", "_law_many"] 1 s__law_draw) {s__law_pick : Sp} (c__law_pick : Cal P w K mg base "_law_pick" ["_law_pen_here", "_law_some"] 2 s__law_pick) {sp : Sp} (len : ∀ vs H Q E, sp vs H Q E → vs.length = 1)
    (rd : ∀ vs H Q E, sp vs H Q E → t__law_letters K s__law_draw s__law_pick { nx := fun _ H' => Q .non H', rt := Q } (start n__law_letters vs) H) : Cal P w K mg base "_law_letters" ["_law_pen_here"] 3 sp := by
  refine T.f__law_letters.cal sc__law_letters len fun f cdv A outer s H vs Q E hr h => ⟨t__law_letters K s__law_draw s__law_pick, ?_, rd vs H Q E h⟩
  exact (pss_cons (ps_asg (pe_tup (pa_cons (pe_txt (l := [97, 98, 99, 100, 101, 102, 103, 104, 105, 106, 107, 108, 109, 110, 111, 112, 113, 114, 115, 116, 117, 118, 119, 120, 121, 122]) (by decide +kernel)) (pa_cons (Cal.call c__law_draw (hr.mono (by decide)) rfl (pa_cons (pv 0) (pa_cons pe_int pa_nil))) pa_nil))) (pg_tup rfl (pgs_cons (pg_name (i := 1) sc__law_letters.nd rfl (Or.inr rfl)) (pgs_cons (pg_name (i := 2) sc__law_letters.nd rfl (Or.inr rfl)) pgs_nil))))
      (pss_cons (ps_set (i := 3) sc__law_letters.nd rfl (Or.inr rfl) (Cal.call c__law_pick (hr.mono (by decide)) rfl (pa_cons (pv 0) (pa_cons (pe_lst (pa_cons pe_int (pa_cons pe_int (pa_cons pe_int (pa_cons pe_int (pa_cons pe_int (pa_cons pe_int (pa_cons pe_int (pa_cons pe_int (pa_cons pe_int (pa_cons pe_int (pa_cons pe_int (pa_cons pe_int pa_nil))))))))))))) pa_nil))))
      (pss_one (ps_ret (pe_joinT (pe_txt (l := []) (by decide +kernel)) (pe_lc (own := [("_law_k", 4)]) (g := (gName 4)) (tt := tYes) rfl sc__law_letters.nd (pi_range1 rfl T.z_range (pa_cons (pe_op op_plus pe_int (Cal.call c__law_draw (hr.mono (by decide)) rfl (pa_cons (pv 0) (pa_cons pe_int pa_nil)))) pa_nil)) (blkOk_by (own := [("_law_k", 4)]) (N := n__law_letters) (sc := defScope x__law_letters) (by decide +kernel)) (fun _ _ _ _ _ => (pg_name (i := 4) sc__law_letters.nd rfl (Or.inl rfl))) (fun _ _ _ _ _ => pts_nil) (fun _ _ _ _ _ => (pe_ix ix_item (pv 1) (pe_op op_rest (pe_callTy (call_intM) (by rfl) T.z_int (by decide +kernel) (pa_cons (pe_op op_plus (pv 2) (pe_op op_times (pv 3) (pv 4))) pa_nil)) pe_int) (fun _ _ => rfl)))))))))
theorem w__law_word (T : Txt K mg) {s__law_draw : Sp} (c__law_draw : Cal P w K mg base "_law_draw" ["_law_pen_here", "_law_many"] 1 s__law_draw) {s__law_pick : Sp} (c__law_pick : Cal P w K mg base "_law_pick" ["_law_pen_here", "_law_some"] 2 s__law_pick) {sp : Sp} (len : ∀ vs H Q E, sp vs H Q E → vs.length = 3)
    (rd : ∀ vs H Q E, sp vs H Q E → t__law_word K s__law_draw s__law_pick { nx := fun _ H' => Q .non H', rt := Q } (start n__law_word vs) H) : Cal P w K mg base "_law_word" ["_law_pen_here", "_law_letters_here", "_law_width"] 3 sp := by
  refine T.f__law_word.cal sc__law_word len fun f cdv A outer s H vs Q E hr h => ⟨t__law_word K s__law_draw s__law_pick, ?_, rd vs H Q E h⟩
  exact (pss_cons (ps_par (i := 3) (j := 4) (by rfl) sc__law_word.nd rfl rfl (by decide) rfl rfl (pa_cons (Cal.call c__law_draw (hr.mono (by decide)) rfl (pa_cons (pv 0) (pa_cons pe_int pa_nil))) (pa_cons (Cal.call c__law_draw (hr.mono (by decide)) rfl (pa_cons (pv 0) (pa_cons (pv 2) pa_nil))) pa_nil)) (by rfl))
      (pss_cons (ps_set (i := 5) sc__law_word.nd rfl (Or.inl rfl) (pe_joinT (pe_txt (l := []) (by decide +kernel)) (pe_lc (own := [("_law_k", 7)]) (g := (gName 7)) (tt := tYes) rfl sc__law_word.nd (pi_range1 rfl T.z_range (pa_cons (pe_op op_plus pe_int (Cal.call c__law_draw (hr.mono (by decide)) rfl (pa_cons (pv 0) (pa_cons pe_int pa_nil)))) pa_nil)) (blkOk_by (own := [("_law_k", 7)]) (N := n__law_word) (sc := defScope x__law_word) (by decide +kernel)) (fun _ _ _ _ _ => (pg_name (i := 7) sc__law_word.nd rfl (Or.inl rfl))) (fun _ _ _ _ _ => pts_nil) (fun _ _ _ _ _ => (Cal.call c__law_pick (hr.mono (by decide)) rfl (pa_cons (pv 0) (pa_cons (pv 1) pa_nil)))))))
      (pss_cons (ps_set (i := 6) sc__law_word.nd rfl (Or.inl rfl) (pe_slice sl_cut (pe_op op_times (pv 5) (pv 2)) po_none (po_some (pv 2))))
      (pss_cons (ps_if (pt_cmpR (op_eqq hr.units) (pv 3) pe_int (nomark _)) (pss_one (ps_ret (pe_joinT (pe_txt (l := []) (by decide +kernel)) (pe_lc (own := [("_law_k", 7)]) (g := (gName 7)) (tt := tYes) rfl sc__law_word.nd (pi_range1 rfl T.z_range (pa_cons (pv 2) pa_nil)) (blkOk_by (own := [("_law_k", 7)]) (N := n__law_word) (sc := defScope x__law_word) (by decide +kernel)) (fun _ _ _ _ _ => (pg_name (i := 7) sc__law_word.nd rfl (Or.inl rfl))) (fun _ _ _ _ _ => pts_nil) (fun _ _ _ _ _ => (Cal.call c__law_pick (hr.mono (by decide)) rfl (pa_cons (pv 0) (pa_cons (pv 1) pa_nil)))))))) pss_nil)
      (pss_one (ps_ret (pe_ifExp (pt_cmpR (op_eqq hr.units) (pv 3) pe_int (nomark _)) (pe_op op_plus (pe_op op_plus (pe_slice sl_cut (pv 6) po_none (po_some (pv 4))) (Cal.call c__law_pick (hr.mono (by decide)) rfl (pa_cons (pv 0) (pa_cons (pv 1) pa_nil)))) (pe_slice sl_cut (pv 6) (po_some (pe_op op_plus (pv 4) pe_int)) po_none)) (pv 6))))))))
theorem w__law_words (T : Txt K mg) {s__law_word : Sp} (c__law_word : Cal P w K mg base "_law_word" ["_law_pen_here", "_law_letters_here", "_law_width"] 3 s__law_word) {sp : Sp} (len : ∀ vs H Q E, sp vs H Q E → vs.length = 4)
    (rd : ∀ vs H Q E, sp vs H Q E → t__law_words K s__law_word { nx := fun _ H' => Q .non H', rt := Q } (start n__law_words vs) H) : Cal P w K mg base "_law_words" ["_law_pen_here", "_law_letters_here", "_law_width", "_law_many"] 4 sp := by
  refine T.f__law_words.cal sc__law_words len fun f cdv A outer s H vs Q E hr h => ⟨t__law_words K s__law_word, ?_, rd vs H Q E h⟩
  exact (pss_cons (ps_set (i := 4) sc__law_words.nd rfl (Or.inl rfl) (pe_lst (pa_cons (Cal.call c__law_word (hr.mono (by decide)) rfl (pa_cons (pv 0) (pa_cons (pv 1) (pa_cons (pv 2) pa_nil)))) pa_nil)))
      (pss_cons (ps_for PassesOwn.never rfl (pi_range1 rfl T.z_range (pa_cons (pe_op op_minus (pv 3) pe_int) pa_nil)) (pg_name (i := 5) sc__law_words.nd rfl (Or.inl rfl)) (pss_cons (ps_set (i := 6) sc__law_words.nd rfl (Or.inl rfl) (Cal.call c__law_word (hr.mono (by decide)) rfl (pa_cons (pv 0) (pa_cons (pv 1) (pa_cons (pv 2) pa_nil)))))
      (pss_one (ps_if (pt_cmpR (op_nin) (pv 6) (pv 4) rfl) (pss_one (ps_expr (pe_bm PySem.F.plainAttrs_list PySem.F.slot_list_append PySem.F.type_list_append mt_append (pv 4) (pa_cons (pv 6) pa_nil)))) pss_nil))))
      (pss_one (ps_ret (pv 4)))))
theorem w__law_text (T : Txt K mg) {s__law_draw : Sp} (c__law_draw : Cal P w K mg base "_law_draw" ["_law_pen_here", "_law_many"] 1 s__law_draw) {s__law_pick : Sp} (c__law_pick : Cal P w K mg base "_law_pick" ["_law_pen_here", "_law_some"] 2 s__law_pick) {sp : Sp} (len : ∀ vs H Q E, sp vs H Q E → vs.length = 4)
    (rd : ∀ vs H Q E, sp vs H Q E → t__law_text K s__law_draw s__law_pick { nx := fun _ H' => Q .non H', rt := Q } (start n__law_text vs) H) : Cal P w K mg base "_law_text" ["_law_pen_here", "_law_letters_here", "_law_words_here", "_law_most"] 3 sp := by
  refine T.f__law_text.cal sc__law_text len fun f cdv A outer s H vs Q E hr h => ⟨t__law_text K s__law_draw s__law_pick, ?_, rd vs H Q E h⟩
  exact (pss_cons (ps_par (i := 4) (j := 5) (by rfl) sc__law_text.nd rfl rfl (by decide) rfl rfl (pa_cons (pe_txt (l := []) (by decide +kernel)) (pa_cons (Cal.call c__law_draw (hr.mono (by decide)) rfl (pa_cons (pv 0) (pa_cons (pe_op op_plus (pv 3) pe_int) pa_nil))) pa_nil)) (by rfl))
      (pss_cons (ps_while PassesOwn.never (pt_cmpR (op_less) (pe_callB (call_len1) (by rfl) T.z_len (by decide +kernel) (pa_cons (pv 4) pa_nil)) (pv 5) (nomark _)) (pss_cons (ps_set (i := 6) sc__law_text.nd rfl (Or.inl rfl) (Cal.call c__law_pick (hr.mono (by decide)) rfl (pa_cons (pv 0) (pa_cons (pv 2) pa_nil))))
      (pss_cons (ps_set (i := 7) sc__law_text.nd rfl (Or.inl rfl) (pe_op op_plus (pe_slice sl_cut (pv 6) po_none (po_some (Cal.call c__law_draw (hr.mono (by decide)) rfl (pa_cons (pv 0) (pa_cons (pe_callB (call_len1) (by rfl) T.z_len (by decide +kernel) (pa_cons (pv 6) pa_nil)) pa_nil))))) (Cal.call c__law_pick (hr.mono (by decide)) rfl (pa_cons (pv 0) (pa_cons (pv 1) pa_nil)))))
      (pss_one (ps_set (i := 4) sc__law_text.nd rfl (Or.inl rfl) (pe_op op_plus (pv 4) (Cal.call c__law_pick (hr.mono (by decide)) rfl (pa_cons (pv 0) (pa_cons (pe_lst (pa_cons (pv 6) (pa_cons (pv 7) (pa_cons (Cal.call c__law_pick (hr.mono (by decide)) rfl (pa_cons (pv 0) (pa_cons (pv 1) pa_nil))) pa_nil)))) pa_nil)))))))))
      (pss_one (ps_ret (pe_slice sl_cut (pv 4) po_none (po_some (pv 5)))))))
theorem w__law_standing (T : Txt K mg) {sp : Sp} (len : ∀ vs H Q E, sp vs H Q E → vs.length = 2)
    (rd : ∀ vs H Q E, sp vs H Q E → t__law_standing K { nx := fun _ H' => Q .non H', rt := Q } (start n__law_standing vs) H) : Cal P w K mg base "_law_standing" ["_law_words_here", "_law_text_here"] 1 sp := by
  refine T.f__law_standing.cal sc__law_standing len fun f cdv A outer s H vs Q E hr h => ⟨t__law_standing K, ?_, rd vs H Q E h⟩
  exact (pss_cons (ps_set (i := 2) sc__law_standing.nd rfl (Or.inl rfl) (pe_lst pa_nil))
      (pss_cons (ps_for PassesOwn.never rfl (pi_range1 rfl T.z_range (pa_cons (pe_callB (call_len1) (by rfl) T.z_len (by decide +kernel) (pa_cons (pv 1) pa_nil)) pa_nil)) (pg_name (i := 3) sc__law_standing.nd rfl (Or.inr rfl)) (pss_one (ps_set (i := 2) sc__law_standing.nd rfl (Or.inl rfl) (pe_op op_plus (pv 2) (pe_lc (own := [("_law_k", 4)]) (g := (gName 4)) (tt := _) rfl sc__law_standing.nd (pi_range1 rfl T.z_range (pa_cons (pe_callB (call_len1) (by rfl) T.z_len (by decide +kernel) (pa_cons (pv 0) pa_nil)) pa_nil)) (blkOk_by (own := [("_law_k", 4)]) (N := n__law_standing) (sc := defScope x__law_standing) (by decide +kernel)) (fun _ _ _ _ _ => (pg_name (i := 4) sc__law_standing.nd rfl (Or.inl rfl))) (fun _ _ _ _ _ => (pts_one (pt_cmpR (op_eqq hr.units) (pe_slice sl_cut (pv 1) (po_some (pv 3)) (po_some (pe_op op_plus (pv 3) (pe_callB (call_len1) (by rfl) T.z_len (by decide +kernel) (pa_cons (pe_ix ix_item (pv 0) (pv 4) (fun _ _ => rfl)) pa_nil))))) (pe_ix ix_item (pv 0) (pv 4) (fun _ _ => rfl)) (nomark _)))) (fun _ _ _ _ _ => (pe_tup (pa_cons (pv 3) (pa_cons (pv 4) pa_nil)))))))))
      (pss_one (ps_ret (pv 2)))))
theorem w__law_apart (T : Txt K mg) {sp : Sp} (len : ∀ vs H Q E, sp vs H Q E → vs.length = 2)
    (rd : ∀ vs H Q E, sp vs H Q E → t__law_apart K { nx := fun _ H' => Q .non H', rt := Q } (start n__law_apart vs) H) : Cal P w K mg base "_law_apart" ["_law_pairs", "_law_width"] 1 sp := by
  refine T.f__law_apart.cal sc__law_apart len fun f cdv A outer s H vs Q E hr h => ⟨t__law_apart K, ?_, rd vs H Q E h⟩
  exact (pss_cons (ps_par (i := 2) (j := 3) (by rfl) sc__law_apart.nd rfl rfl (by decide) rfl rfl (pa_cons (pe_lst pa_nil) (pa_cons pe_int pa_nil)) (by rfl))
      (pss_cons (ps_for PassesOwn.never rfl (pi_any (pv 0)) (pg_tup rfl (pgs_cons (pg_name (i := 4) sc__law_apart.nd rfl (Or.inl rfl)) (pgs_cons (pg_name (i := 5) sc__law_apart.nd rfl (Or.inl rfl)) pgs_nil))) (pss_one (ps_if (pt_cmpR (op_meq) (pv 4) (pv 3) (nomark _)) (pss_cons (ps_expr (pe_bm PySem.F.plainAttrs_list PySem.F.slot_list_append PySem.F.type_list_append mt_append (pv 2) (pa_cons (pe_tup (pa_cons (pv 4) (pa_cons (pv 5) pa_nil))) pa_nil)))
      (pss_one (ps_set (i := 3) sc__law_apart.nd rfl (Or.inl rfl) (pe_op op_plus (pv 4) (pv 1))))) pss_nil)))
      (pss_one (ps_ret (pv 2)))))
theorem w_law (T : Txt K mg) {s_check_words : Sp} (c_check_words : ∀ base : Heap, Cal P w K mg base "check_words" ["letters", "words"] 2 s_check_words) {s_wanted : Sp} (c_wanted : ∀ base : Heap, CalD P w K mg base "wanted" ["letters", "words", "text", "wish"] 3 [(tx [97, 108, 108])] s_wanted) {s__law_pen : Sp} (c__law_pen : ∀ base : Heap, Cal P w K mg base "_law_pen" ["_law_script"] 1 s__law_pen) {s__law_draw : Sp} (c__law_draw : ∀ base : Heap, Cal P w K mg base "_law_draw" ["_law_pen_here", "_law_many"] 1 s__law_draw) {s__law_letters : Sp} (c__law_letters : ∀ base : Heap, Cal P w K mg base "_law_letters" ["_law_pen_here"] 3 s__law_letters) {s__law_words : Sp} (c__law_words : ∀ base : Heap, Cal P w K mg base "_law_words" ["_law_pen_here", "_law_letters_here", "_law_width", "_law_many"] 4 s__law_words) {s__law_text : Sp} (c__law_text : ∀ base : Heap, Cal P w K mg base "_law_text" ["_law_pen_here", "_law_letters_here", "_law_words_here", "_law_most"] 3 s__law_text) {s__law_standing : Sp} (c__law_standing : ∀ base : Heap, Cal P w K mg base "_law_standing" ["_law_words_here", "_law_text_here"] 1 s__law_standing) {s__law_apart : Sp} (c__law_apart : ∀ base : Heap, Cal P w K mg base "_law_apart" ["_law_pairs", "_law_width"] 1 s__law_apart) {sp : Sp} (len : ∀ vs H Q E, sp vs H Q E → vs.length = 1)
    (rd : ∀ vs H Q E, sp vs H Q E → t_law K s_check_words s_wanted s__law_pen s__law_draw s__law_letters s__law_words s__law_text s__law_standing s__law_apart { nx := fun _ H' => Q .non H', rt := Q } (start n_law vs) H) {fa : Addr} (hfa : mg "law" = some (.ref fa)) : ∃ fd : FuncData, (∀ (s : Shared) (u : Value), BindsTo s fd ⟨[u], []⟩ [("_law_script", u)]) ∧ ∀ base : Heap, K.In base → base.Ns mainGlobals mg → FnOk P w K mg base CX0 5 fa fd ["_law_script"] sp := by
  have key := T.f_law.law (P := P) (w := w) (sp := sp) (k := 4) hfa sc_law len (fun base f cdv A outer s H vs Q E hr h => by
    have c_check_words := c_check_words base
    have c_wanted := c_wanted base
    have c__law_pen := c__law_pen base
    have c__law_draw := c__law_draw base
    have c__law_letters := c__law_letters base
    have c__law_words := c__law_words base
    have c__law_text := c__law_text base
    have c__law_standing := c__law_standing base
    have c__law_apart := c__law_apart base
    refine ⟨t_law K s_check_words s_wanted s__law_pen s__law_draw s__law_letters s__law_words s__law_text s__law_standing s__law_apart, ?_, rd vs H Q E h⟩
    exact (pss_cons (ps_set (i := 1) sc_law.nd rfl (Or.inl rfl) (Cal.call c__law_pen (hr.mono (by decide)) rfl (pa_cons (pv 0) pa_nil)))
      (pss_cons (ps_for PassesOwn.never rfl (pi_range1 rfl T.z_range (pa_cons (pe_op op_plus pe_int (pe_callB (call_min1 rfl) (by rfl) T.z_min (by decide +kernel) (pa_cons pe_int (pa_cons (pe_callB (call_len1) (by rfl) T.z_len (by decide +kernel) (pa_cons (pv 0) pa_nil)) pa_nil)))) pa_nil)) (pg_name (i := 2) sc_law.nd rfl (Or.inl rfl)) (pss_cons (ps_par (i := 3) (j := 4) (by rfl) sc_law.nd rfl rfl (by decide) rfl rfl (pa_cons (Cal.call c__law_letters (hr.mono (by decide)) rfl (pa_cons (pv 1) pa_nil)) (pa_cons (pe_op op_plus pe_int (Cal.call c__law_draw (hr.mono (by decide)) rfl (pa_cons (pv 1) (pa_cons pe_int pa_nil)))) pa_nil)) (by rfl))
      (pss_cons (ps_set (i := 5) sc_law.nd rfl (Or.inl rfl) (Cal.call c__law_words (hr.mono (by decide)) rfl (pa_cons (pv 1) (pa_cons (pv 3) (pa_cons (pv 4) (pa_cons (pe_op op_plus pe_int (Cal.call c__law_draw (hr.mono (by decide)) rfl (pa_cons (pv 1) (pa_cons pe_int pa_nil)))) pa_nil))))))
      (pss_cons (ps_if (PW.pt (pw_or (pt_cmpR (op_notN) (Cal.call c_check_words (hr.mono (by decide)) rfl (pa_cons (pv 3) (pa_cons (pv 5) pa_nil))) pe_non (nomark _)) (pw_or1 (pt_cmpR (op_notN) (Cal.call c_check_words (hr.mono (by decide)) rfl (pa_cons (pv 3) (pa_cons (pe_callTy (call_tup1) (by rfl) T.z_tuple (by decide +kernel) (pa_cons (pv 5) pa_nil)) pa_nil))) pe_non (nomark _))))) (pss_one (ps_ret pe_bl)) pss_nil)
      (pss_one (ps_for PassesOwn.never rfl (pi_range1 rfl T.z_range (pa_cons pe_int pa_nil)) (pg_name (i := 6) sc_law.nd rfl (Or.inl rfl)) (pss_cons (ps_set (i := 7) sc_law.nd rfl (Or.inl rfl) (Cal.call c__law_text (hr.mono (by decide)) rfl (pa_cons (pv 1) (pa_cons (pv 3) (pa_cons (pv 5) (pa_cons pe_int pa_nil))))))
      (pss_cons (ps_set (i := 8) sc_law.nd rfl (Or.inl rfl) (Cal.call c__law_standing (hr.mono (by decide)) rfl (pa_cons (pv 5) (pa_cons (pv 7) pa_nil))))
      (pss_cons (ps_if (PW.pt (pw_or (pt_cmpR (op_neq hr.units) (CalD.callD c_wanted (hr.mono (by decide)) rfl (pa_cons (pv 3) (pa_cons (pv 5) (pa_cons (pv 7) pa_nil)))) (pv 8) (nomark _)) (pw_or1 (pt_cmpR (op_neq hr.units) (CalD.call c_wanted (hr.mono (by decide)) rfl (pa_cons (pv 3) (pa_cons (pe_callTy (call_tup1) (by rfl) T.z_tuple (by decide +kernel) (pa_cons (pv 5) pa_nil)) (pa_cons (pv 7) (pa_cons (pe_txt (l := [97, 108, 108]) (by decide +kernel)) pa_nil))))) (pv 8) (nomark _))))) (pss_one (ps_ret pe_bl)) pss_nil)
      (pss_cons (ps_if (pt_cmpR (op_neq hr.units) (CalD.call c_wanted (hr.mono (by decide)) rfl (pa_cons (pv 3) (pa_cons (pv 5) (pa_cons (pv 7) (pa_cons (pe_txt (l := [97, 112, 97, 114, 116]) (by decide +kernel)) pa_nil))))) (Cal.call c__law_apart (hr.mono (by decide)) rfl (pa_cons (pv 8) (pa_cons (pv 4) pa_nil))) (nomark _)) (pss_one (ps_ret pe_bl)) pss_nil)
      (pss_cons (ps_set (i := 9) sc_law.nd rfl (Or.inl rfl) (CalD.call c_wanted (hr.mono (by decide)) rfl (pa_cons (pv 3) (pa_cons (pv 5) (pa_cons (pv 7) (pa_cons (pe_txt (l := [102, 105, 114, 115, 116]) (by decide +kernel)) pa_nil))))))
      (pss_cons (ps_if (PW.pt (pw_or (pt_cmpR (op_neq hr.units) (pv 9) (pe_slice sl_cut (pv 8) po_none (po_some pe_int)) (nomark _)) (pw_or1 (pt_not (pt_tru (pe_callB (call_isi1) (by rfl) T.z_isinstance (by decide +kernel) (pa_cons (pv 9) (pa_cons (pe_bltn (v := .ty "list") (by rfl) T.z_list (by decide +kernel) rfl) pa_nil))) (by intro _; rfl)))))) (pss_one (ps_ret pe_bl)) pss_nil)
      (pss_cons (ps_expr (pe_bm PySem.F.plainAttrs_list PySem.F.slot_list_append PySem.F.type_list_append mt_append (pv 9) (pa_cons (pe_tup (pa_cons pe_int (pa_cons pe_int pa_nil))) pa_nil)))
      (pss_one (ps_if (pt_cmpR (op_neq hr.units) (CalD.call c_wanted (hr.mono (by decide)) rfl (pa_cons (pv 3) (pa_cons (pv 5) (pa_cons (pv 7) (pa_cons (pe_txt (l := [102, 105, 114, 115, 116]) (by decide +kernel)) pa_nil))))) (pe_slice sl_cut (pv 8) po_none (po_some pe_int)) (nomark _)) (pss_one (ps_ret pe_bl)) pss_nil)))))))))))))))
      (pss_one (ps_ret pe_bl)))))
  obtain ⟨fd, hb, hF⟩ := key
  exact ⟨fd, fun s u => hb s [u] rfl, fun base _ _ => hF base⟩
theorem fin {fa : Addr} (hfa : mg "law" = some (.ref fa)) (T : Txt K mg) : ∃ fd : FuncData, (∀ (s : Shared) (u : Value), BindsTo s fd ⟨[u], []⟩ [("_law_script", u)]) ∧ ∀ base : Heap, K.In base → base.Ns mainGlobals mg → FnOk P w K mg base CX0 5 fa fd ["_law_script"] (spLaw K) := by
  have c_check_letters : ∀ base : Heap, Cal P w K mg base "check_letters" ["letters"] 1 (spCl) := fun base => w_check_letters T (len_cl) (rd_check_letters K)
  have c_is_word : ∀ base : Heap, Cal P w K mg base "is_word" ["letters", "value"] 1 (spIw) := fun base => w_is_word T (len_iw) (rd_is_word K)
  have c_check_words : ∀ base : Heap, Cal P w K mg base "check_words" ["letters", "words"] 2 (spCw K) := fun base => w_check_words T (c_check_letters base) (c_is_word base) (len_cw K) (rd_check_words K)
  have c_check_text : ∀ base : Heap, Cal P w K mg base "check_text" ["letters", "text"] 1 (spCt) := fun base => w_check_text T (len_ct) (rd_check_text K)
  have c_all_places : ∀ base : Heap, Cal P w K mg base "all_places" ["words", "text"] 1 (spAp K) := fun base => w_all_places T (len_ap K) (rd_all_places K)
  have c_wanted : ∀ base : Heap, CalD P w K mg base "wanted" ["letters", "words", "text", "wish"] 3 [(tx [97, 108, 108])] (spWa K) := fun base => w_wanted T (c_check_words base) (c_check_text base) (c_all_places base) (len_wa K) (rd_wanted K)
  have c__law_pen : ∀ base : Heap, Cal P w K mg base "_law_pen" ["_law_script"] 1 (spPen K) := fun base => w__law_pen T (len_pen K) (rd_pen K)
  have c__law_draw : ∀ base : Heap, Cal P w K mg base "_law_draw" ["_law_pen_here", "_law_many"] 1 (spDraw) := fun base => w__law_draw T (len_draw) (rd_draw K)
  have c__law_pick : ∀ base : Heap, Cal P w K mg base "_law_pick" ["_law_pen_here", "_law_some"] 2 (spPick K) := fun base => w__law_pick T (c__law_draw base) (len_pick K) (rd_pick K)
  have c__law_letters : ∀ base : Heap, Cal P w K mg base "_law_letters" ["_law_pen_here"] 3 (spLetters) := fun base => w__law_letters T (c__law_draw base) (c__law_pick base) (len_letters) (rd_letters K)
  have c__law_word : ∀ base : Heap, Cal P w K mg base "_law_word" ["_law_pen_here", "_law_letters_here", "_law_width"] 3 (spWord) := fun base => w__law_word T (c__law_draw base) (c__law_pick base) (len_word) (rd_word K)
  have c__law_words : ∀ base : Heap, Cal P w K mg base "_law_words" ["_law_pen_here", "_law_letters_here", "_law_width", "_law_many"] 4 (spWords K) := fun base => w__law_words T (c__law_word base) (len_words K) (rd_words K)
  have c__law_text : ∀ base : Heap, Cal P w K mg base "_law_text" ["_law_pen_here", "_law_letters_here", "_law_words_here", "_law_most"] 3 (spText K) := fun base => w__law_text T (c__law_draw base) (c__law_pick base) (len_text K) (rd_text K)
  have c__law_standing : ∀ base : Heap, Cal P w K mg base "_law_standing" ["_law_words_here", "_law_text_here"] 1 (spStand K) := fun base => w__law_standing T (len_stand K) (rd_standing K)
  have c__law_apart : ∀ base : Heap, Cal P w K mg base "_law_apart" ["_law_pairs", "_law_width"] 1 (spApart K) := fun base => w__law_apart T (len_apart K) (rd_apart K)
  exact w_law T c_check_words c_wanted c__law_pen c__law_draw c__law_letters c__law_words c__law_text c__law_standing c__law_apart (len_law K) (rd_law K) hfa
end
end Wk01

namespace Wk01
end Wk01
open PySem PySem.W PyProof.Rows in
set_option maxRecDepth 100000 in
set_option maxHeartbeats 0 in
theorem PySem.Challenge.cw_wordskips_k01_wanted_places_holds : PySem.Challenge.rw_wordskips_k01_wanted_places.Holds := by
  w_on; o_law; k_head; (case hw => w_witness2)
  k_fill
  refine L2.walk_of (l := PySem.Challenge.rw_wordskips_k01_wanted_places) (n := 63) (k := 5) (x := "_law_script") (CX := fun _ => L2.CX0) (sp := fun w => Wk01.spLaw _) rfl (by decide) rfl ⟨rfl, by decide, by decide⟩ (fun w h Y => PySem.W.kIn_of Y) ?F (fun _ _ a ns hl _ hS => ⟨a, ns, rfl, hS, hl, fun _ => rfl⟩) (fun _ _ _ _ _ h => h)
  case F =>
    intro w mg fa h KX G hmg
    refine' Wk01.fin hmg ⟨?z_abs, ?z_all, ?z_enumerate, ?z_int, ?z_isinstance, ?z_len, ?z_list, ?z_min, ?z_range, ?z_set, ?z_str, ?z_tuple, ?g_MOST_WIDTH, ?g_MOST_WORDS, ?g_SMALL, ?g_WISHES, ?f_check_letters, ?f_is_word, ?f_check_words, ?f_check_text, ?f_all_places, ?f_wanted, ?f__law_pen, ?f__law_draw, ?f__law_pick, ?f__law_letters, ?f__law_word, ?f__law_words, ?f__law_text, ?f__law_standing, ?f__law_apart, ?f_law⟩
    (case z_abs => refine PySem.W.mg_none_of KX G ?_; k_is)
    (case z_all => refine PySem.W.mg_none_of KX G ?_; k_is)
    (case z_enumerate => refine PySem.W.mg_none_of KX G ?_; k_is)
    (case z_int => refine PySem.W.mg_none_of KX G ?_; k_is)
    (case z_isinstance => refine PySem.W.mg_none_of KX G ?_; k_is)
    (case z_len => refine PySem.W.mg_none_of KX G ?_; k_is)
    (case z_list => refine PySem.W.mg_none_of KX G ?_; k_is)
    (case z_min => refine PySem.W.mg_none_of KX G ?_; k_is)
    (case z_range => refine PySem.W.mg_none_of KX G ?_; k_is)
    (case z_set => refine PySem.W.mg_none_of KX G ?_; k_is)
    (case z_str => refine PySem.W.mg_none_of KX G ?_; k_is)
    (case z_tuple => refine PySem.W.mg_none_of KX G ?_; k_is)
    (case g_MOST_WIDTH => refine' ⟨_, PySem.W.mg_of KX G ?a, ?b⟩; (case a => k_is); (case b => exact ⟨_, rfl⟩))
    (case g_MOST_WORDS => refine' ⟨_, PySem.W.mg_of KX G ?a, ?b⟩; (case a => k_is); (case b => exact ⟨_, rfl⟩))
    (case g_SMALL => refine' ⟨_, PySem.W.mg_of KX G ?a, ?b⟩; (case a => k_is); (case b => exact ⟨_, rfl⟩))
    (case g_WISHES => refine' Wk.gt_mk KX G ?a ?l ?s ?r; (case a => k_is); (case l => k_is); (case s => decide); (case r => exact (.cons ⟨_, rfl⟩ (.cons ⟨_, rfl⟩ (.cons ⟨_, rfl⟩ .nil)))))
    (case f_check_letters => refine' Wk.df_mk KX G ?a ?l ?c ?k (fun _ _ _ _ _ _ us hl => match us, hl with | [_], _ => rfl); (case a => k_is); (case l => k_is); (case c => k_is); (case k => k_is))
    (case f_is_word => refine' Wk.df_mk KX G ?a ?l ?c ?k (fun _ _ _ _ _ _ us hl => match us, hl with | [_, _], _ => rfl); (case a => k_is); (case l => k_is); (case c => k_is); (case k => k_is))
    (case f_check_words => refine' Wk.df_mk KX G ?a ?l ?c ?k (fun _ _ _ _ _ _ us hl => match us, hl with | [_, _], _ => rfl); (case a => k_is); (case l => k_is); (case c => k_is); (case k => k_is))
    (case f_check_text => refine' Wk.df_mk KX G ?a ?l ?c ?k (fun _ _ _ _ _ _ us hl => match us, hl with | [_, _], _ => rfl); (case a => k_is); (case l => k_is); (case c => k_is); (case k => k_is))
    (case f_all_places => refine' Wk.df_mk KX G ?a ?l ?c ?k (fun _ _ _ _ _ _ us hl => match us, hl with | [_, _], _ => rfl); (case a => k_is); (case l => k_is); (case c => k_is); (case k => k_is))
    (case f_wanted => refine' Wk.dfd_mk (m := 3) KX G ?a ?l ?t ?c ?k ?r (by simp) (by rfl) (fun _ _ _ _ _ _ _ us its h1 h2 => match us, its, h1, h2 with | [_, _, _, _], [_], _, _ => ⟨_, rfl, rfl⟩) (fun _ _ _ _ _ _ _ us its h1 h2 => match us, its, h1, h2 with | [_, _, _], [_], _, _ => ⟨_, rfl, rfl⟩); (case a => k_is); (case l => k_is); (case t => k_is); (case c => k_is); (case k => k_is); (case r => exact (.cons ⟨_, rfl⟩ .nil)))
    (case f__law_pen => refine' Wk.df_mk KX G ?a ?l ?c ?k (fun _ _ _ _ _ _ us hl => match us, hl with | [_], _ => rfl); (case a => k_is); (case l => k_is); (case c => k_is); (case k => k_is))
    (case f__law_draw => refine' Wk.df_mk KX G ?a ?l ?c ?k (fun _ _ _ _ _ _ us hl => match us, hl with | [_, _], _ => rfl); (case a => k_is); (case l => k_is); (case c => k_is); (case k => k_is))
    (case f__law_pick => refine' Wk.df_mk KX G ?a ?l ?c ?k (fun _ _ _ _ _ _ us hl => match us, hl with | [_, _], _ => rfl); (case a => k_is); (case l => k_is); (case c => k_is); (case k => k_is))
    (case f__law_letters => refine' Wk.df_mk KX G ?a ?l ?c ?k (fun _ _ _ _ _ _ us hl => match us, hl with | [_], _ => rfl); (case a => k_is); (case l => k_is); (case c => k_is); (case k => k_is))
    (case f__law_word => refine' Wk.df_mk KX G ?a ?l ?c ?k (fun _ _ _ _ _ _ us hl => match us, hl with | [_, _, _], _ => rfl); (case a => k_is); (case l => k_is); (case c => k_is); (case k => k_is))
    (case f__law_words => refine' Wk.df_mk KX G ?a ?l ?c ?k (fun _ _ _ _ _ _ us hl => match us, hl with | [_, _, _, _], _ => rfl); (case a => k_is); (case l => k_is); (case c => k_is); (case k => k_is))
    (case f__law_text => refine' Wk.df_mk KX G ?a ?l ?c ?k (fun _ _ _ _ _ _ us hl => match us, hl with | [_, _, _, _], _ => rfl); (case a => k_is); (case l => k_is); (case c => k_is); (case k => k_is))
    (case f__law_standing => refine' Wk.df_mk KX G ?a ?l ?c ?k (fun _ _ _ _ _ _ us hl => match us, hl with | [_, _], _ => rfl); (case a => k_is); (case l => k_is); (case c => k_is); (case k => k_is))
    (case f__law_apart => refine' Wk.df_mk KX G ?a ?l ?c ?k (fun _ _ _ _ _ _ us hl => match us, hl with | [_, _], _ => rfl); (case a => k_is); (case l => k_is); (case c => k_is); (case k => k_is))
    (case f_law => refine' Wk.df_mk KX G ?a ?l ?c ?k (fun _ _ _ _ _ _ us hl => match us, hl with | [_], _ => rfl); (case a => k_is); (case l => k_is); (case c => k_is); (case k => k_is))
