import PyProof.Rows.All
import Wide.All
import OpenK.AllK
import Wide.FinOn
import KE.KStateDown
import Lean
import HandS.ForMost
import HandS.ForExc
import HandS.More
import HandS.Star
import HandS.IsInst
import HandS.Conv
import HandS.Flow
import HandS.Defaults
import HandS.Walk
import HandS.Head0
import HandS.Head1
import HandS.Head2
import HandS.HeadEnd
import HandS.HeadHook1
import HandS.HeadHook2
import PySem.Challenge.RW_looporpile_k70_binomials
set_option Elab.async false
set_option linter.all false
set_option maxRecDepth 100000
set_option maxHeartbeats 4000000
/-! Lay: my own layer over HandS: rules by positional promises, operators for all kinds of values, a ledger of objects. -/
namespace G
open PySem PySem.Spec PyProof.Rows L2

/-! ### calls -/
def tCallR (sp : Sp) (E : XK) (t : TA) : TE := fun σ H Q => t σ H fun vs H1 => sp vs H1 Q E
section
variable {X : Cx} {CX : CXT} {k : Nat} {f C : Addr} {sp : Sp} {E : XK} {x m : Str} {e o : Expr} {es : List Expr} {te ta : TE} {t : TA} {p pos apos : Pos}
theorem pe_callR (F : FnR X.prog X.w X.K X.mg X.base CX k f sp) (hr : Room k X.A) (hg : Gl X x) (hm : X.mg x = some (.ref f)) (hk : PySem.W.keepIn X.K (.ref f) = true) (hx : Passes CX X E)
    (ha : PA X (e :: es) t) (hdb : (x == ("__debug__" : Str)) = false := by decide) (he : starEach (e :: es) X.env = (false, eval e X.env) :: starEach es X.env := by rfl) (hpl : (backTo pos (starEach es X.env)).any (·.1) = false := by rfl) :
    PE X (.Call (.Name x p) (e :: es) [] pos) (tCallR sp E t) := by
  refine ⟨fun pins s σ H Q I h => ?_⟩
  refine wpAny_Call_Name_kw (ld_glob I hg hm ?_ hdb)
  refine PySem.W.callWith_K (h₀ := X.base) I.ok.mod.kin hk (thn (ha.run pos pins s σ H _ I h) fun us s1 ⟨vs, H1, I1, r, q⟩ => ⟨I1.kIn, ?_⟩) he hpl
  exact wpAny_call (run_fnR F hr hx I1 r q)
/-- two readings of one expression -/
theorem PE.or {t t' : TE} (h : PE X e t) (h' : PE X e t') : PE X e (fun σ H Q => t σ H Q ∨ t' σ H Q) :=
  ⟨fun pins s σ H Q I q => q.elim (fun q => h.run pins s σ H Q I q) fun q => h'.run pins s σ H Q I q⟩
theorem PE.imp {t t' : TE} (h : PE X e t) (hi : ∀ σ H Q, t' σ H Q → t σ H Q) : PE X e t' := ⟨fun pins s σ H Q I q => h.run pins s σ H Q I (hi σ H Q q)⟩
theorem PT.imp {t t' : TT} (h : PT X e t) (hi : ∀ σ H Q, t' σ H Q → t σ H Q) : PT X e t' := ⟨fun pins s σ H Q I q => h.run pins s σ H Q I (hi σ H Q q)⟩
theorem OpR.imp {f : Value → Value → Sem Value} {r r' : R2} (h : OpR X f r) (hi : ∀ x y H Q, r' x y H Q → r x y H Q) : OpR X f r' :=
  fun pins s σ H x y v u Q I r1 r2 q => h pins s σ H x y v u Q I r1 r2 (hi _ _ _ _ q)
theorem CallR.imp {f : Value} {r r' : List V → Hp → VK → Prop} (h : CallR X f r) (hi : ∀ x H Q, r' x H Q → r x H Q) : CallR X f r' :=
  fun pins s σ H xs us Q I r1 q => h pins s σ H xs us Q I r1 (hi _ _ _ q)
end

/-! ### operators -/
def rAdd' (K : PySem.W.Frag) : R2
  | .int i, .int j, H, Q => Q (.int (i + j)) H
  | .str i, .str j, H, Q => i.length + j.length ≤ sizeLine ∧ Q (.str (i ++ j)) H
  | .ref a, .ref b, H, Q => (∃ xs zs, H a = some (.lst xs) ∧ H b = some (.lst zs) ∧ xs.length + zs.length ≤ sizeLine ∧ ∀ p, H p = none → Q (.ref p) (upd H p (.lst (xs ++ zs)))) ∨ rCatT K (.ref a) (.ref b) H Q
  | _, _, _, _ => False
def rSub' : R2
  | .int i, .int j, H, Q => Q (.int (i - j)) H
  | _, _, _, _ => False
/-- one factor within 2^64 -/
def rMul' : R2
  | .int i, .int j, H, Q => CMul i j ∧ Q (.int (i * j)) H
  | _, _, _, _ => False
def rDiv' : R2
  | .int i, .int j, H, Q => (0 < j ∧ j < 1073741824) ∧ Q (.int (i / j)) H
  | _, _, _, _ => False
def rMod' : R2
  | .int i, .int j, H, Q => 0 < j ∧ Q (.int (i % j)) H
  | _, _, _, _ => False
def rPow' : R2
  | .int i, .int j, H, Q => CPow i j ∧ Q (.int (i ^ j.toNat)) H
  | _, _, _, _ => False
def rLt' : R2
  | .int i, .int j, H, Q => Q (.bl (decide (i < j))) H
  | .str i, .str j, H, Q => Q (.bl (decide (i.cps.toList < j.cps.toList))) H
  | _, _, _, _ => False
def rLe' : R2
  | .int i, .int j, H, Q => Q (.bl (decide (i ≤ j))) H
  | _, _, _, _ => False
def rGt' : R2
  | .int i, .int j, H, Q => Q (.bl (decide (j < i))) H
  | _, _, _, _ => False
def rGe' : R2
  | .int i, .int j, H, Q => Q (.bl (decide (j ≤ i))) H
  | _, _, _, _ => False
section
variable {X : Cx}
theorem o_add : OpR X (binaryOp .Add) (rAdd' X.K) := by
  refine OpR.imp (OpR.or op_add (OpR.or op_add_str (OpR.or op_cat op_catT))) fun x y H Q h => ?_
  cases x <;> cases y <;> first
    | exact h.elim
    | exact .inl ⟨_, _, rfl, rfl, h⟩
    | exact .inr (.inl ⟨_, _, rfl, rfl, h.1, h.2⟩)
    | skip
  rcases h with ⟨xs, zs, h1, h2, h3, h4⟩ | h
  · exact .inr (.inr (.inl ⟨_, _, xs, zs, rfl, rfl, h1, h2, h3, h4⟩))
  · exact .inr (.inr (.inr h))
theorem o_sub : OpR X (binaryOp .Sub) rSub' := OpR.imp op_sub fun x y H Q h => by
  cases x <;> cases y <;> first | exact h.elim | exact ⟨_, _, rfl, rfl, h⟩
theorem o_mul : OpR X (binaryOp .Mult) rMul' := OpR.imp op_mul fun x y H Q h => by
  cases x <;> cases y <;> first | exact h.elim | exact ⟨_, _, rfl, rfl, h⟩
theorem o_div : OpR X (binaryOp .FloorDiv) rDiv' := OpR.imp op_fdiv fun x y H Q h => by
  cases x <;> cases y <;> first | exact h.elim | exact ⟨_, _, rfl, rfl, h⟩
theorem o_mod : OpR X (binaryOp .Mod) rMod' := OpR.imp op_mod fun x y H Q h => by
  cases x <;> cases y <;> first | exact h.elim | exact ⟨_, _, rfl, rfl, h⟩
theorem o_pow : OpR X (binaryOp .Pow) rPow' := OpR.imp op_pow fun x y H Q h => by
  cases x <;> cases y <;> first | exact h.elim | exact ⟨_, _, rfl, rfl, h⟩
theorem o_lt : OpR X (compareOp .Lt) rLt' := OpR.imp (OpR.or op_lt op_lt_str) fun x y H Q h => by
  cases x <;> cases y <;> first | exact h.elim | exact .inl ⟨_, _, rfl, rfl, h⟩ | exact .inr ⟨_, _, rfl, rfl, h⟩
theorem o_le : OpR X (compareOp .LtE) rLe' := OpR.imp op_le fun x y H Q h => by
  cases x <;> cases y <;> first | exact h.elim | exact ⟨_, _, rfl, rfl, h⟩
theorem o_gt : OpR X (compareOp .Gt) rGt' := OpR.imp op_gt fun x y H Q h => by
  cases x <;> cases y <;> first | exact h.elim | exact ⟨_, _, rfl, rfl, h⟩
theorem o_ge : OpR X (compareOp .GtE) rGe' := OpR.imp op_ge fun x y H Q h => by
  cases x <;> cases y <;> first | exact h.elim | exact ⟨_, _, rfl, rfl, h⟩
end

/-! ### truth, equality, subscripts -/
def tTru' (K : PySem.W.Frag) (te : TE) : TT := fun σ H Q => te σ H fun x H' => ∃ k, TruV K x H' k ∧ Q k H'
def rNeg' : V → Hp → VK → Prop
  | .int i, H, Q => Q (.int (-i)) H
  | _, _, _ => False
def rEq' (K : PySem.W.Frag) : R2 := fun x y H Q => (scal x y = true ∧ Q (.bl (decide (x = y))) H) ∨ rEqD K x y H Q
def rNe' (K : PySem.W.Frag) : R2 := fun x y H Q => (scal x y = true ∧ Q (.bl (!decide (x = y))) H) ∨ rNeD K x y H Q
def rIx' (K : PySem.W.Frag) : R2 := fun x y H Q => rIxL K x y H Q ∨ rIxT K x y H Q ∨ rIxS x y H Q ∨ ∃ a v, x = .ref a ∧ DGet H a y (some v) ∧ Q v H
def rInt' : List V → Hp → VK → Prop
  | [.int i], H, Q => Q (.int i) H
  | _, _, _ => False
def rLen' (K : PySem.W.Frag) : List V → Hp → VK → Prop
  | [.ref p], H, Q => (∃ ys, (SqL K H p ys ∨ SqT K H p ys) ∧ Q (.int ys.length) H)
  | [.str z], H, Q => z.length ≤ sizeLine ∧ Q (.int z.length) H
  | _, _, _ => False
def rIsi' (K : PySem.W.Frag) : List V → Hp → VK → Prop := fun xs H Q => rIsi K xs H Q ∨ rIsiT K xs H Q ∨ rIsiK K xs H Q
section
variable {X : Cx} {a b e : Expr} {te : TE} {pos : Pos}
theorem o_neg : UnR X (unaryOp .USub) rNeg' := fun pins s σ H x v Q I r h => by
  cases x <;> first | exact h.elim | exact un_neg pins s σ H _ v Q I r ⟨_, rfl, h⟩
theorem o_eq (hu : X.A.units + 64 < cLine) : OpR X (compareOp .Eq) (rEq' X.K) := OpR.or op_eq (op_eqD hu)
theorem o_ne (hu : X.A.units + 64 < cLine) : OpR X (compareOp .NotEq) (rNe' X.K) := OpR.or op_ne (op_neD hu)
theorem ix_dict (hu : X.A.units + 64 < cLine) : IxR X (fun x y H Q => ∃ a v, x = .ref a ∧ DGet H a y (some v) ∧ Q v H) := by
  intro value slice pins s σ H x y v u Q I rx ry q hs
  obtain ⟨a, z, rfl, g, q⟩ := q
  obtain rfl : v = Value.ref a := rx
  exact tail_any (dict_typeIs I g) PySem.F.slot_dict_getitem.lookup (d_getItem (by omega) I g ry fun w' s' I' r' => ⟨z, H, I', r', q⟩) hs
theorem o_ix (hu : X.A.units + 64 < cLine) : IxR X (rIx' X.K) := ix_list.or (ix_tup.or (ix_str.or (ix_dict hu)))
theorem c_int : CallR X (.type "int") rInt' := CallR.imp call_int1 fun xs H Q h => by
  match xs, h with
  | [.int i], h => exact .inl ⟨i, rfl, h⟩
theorem c_len : CallR X (.builtin "len") (rLen' X.K) := CallR.imp (CallR.or call_len_seq call_len_str) fun xs H Q h => by
  match xs, h with
  | [.ref p], ⟨ys, h, q⟩ => exact .inl ⟨p, ys, rfl, h, q⟩
  | [.str z], ⟨h, q⟩ => exact .inr ⟨z, rfl, h, q⟩
theorem c_isi : CallR X (.builtin "isinstance") (rIsi' X.K) := CallR.or call_isi (CallR.or call_isiT call_isiK)
end
/-! ### iterables -/
def iAny (K : PySem.W.Frag) (te : TE) : TI := fun σ H R => te σ H fun x H1 => (∃ a, x = .ref a ∧ (∃ xs, SqL K H1 a xs) ∧ R (Itl K a) H1) ∨ (∃ a, x = .ref a ∧ (∃ xs, SqT K H1 a xs) ∧ R (Itt K a) H1) ∨ (∃ z, x = .str z ∧ R (Its z) H1)
section
variable {X : Cx} {tg e : Expr} {te : TE}
/-- by the value that has come -/
theorem pi_any (he : PE X e te) : PI X tg e (iAny X.K te) := by
  refine ⟨fun pins s σ H R I h => ?_⟩
  refine thn (he.run pins s σ H _ I h) fun v s1 ⟨x, H1, I1, r1, q1⟩ => ?_
  rcases q1 with ⟨a, rfl, ⟨xs, hq⟩, q⟩ | ⟨a, rfl, ⟨xs, hq⟩, q⟩ | ⟨z, rfl, q⟩
  · obtain rfl : v = Value.ref a := r1
    obtain ⟨its, _, p, _⟩ := I1.list hq
    exact wpAny_pyIter_list p.isList (pi_one (tk := s1.toks) I1 _ (turn_list a _) ⟨_, Heap.get?_push_size _ rfl, rfl, rfl⟩ q)
  · obtain rfl : v = Value.ref a := r1
    obtain ⟨its, _, p, _⟩ := I1.tuple hq
    exact wpAny_pyIter_tuple (show s1.heap.IsTuple a its.toArray from p) (pi_one (tk := s1.toks) I1 _ (turn_tuple a _) ⟨_, Heap.get?_push_size _ rfl, rfl, rfl⟩ q)
  · obtain ⟨t, rfl⟩ := r1
    by_cases ha : z.cps.all (· < 128) = true
    · exact wpAny_pyIter_ascii ha (pi_one (tk := s1.toks) I1 _ (turn_str _ z t "str_ascii_iterator" (Or.inl rfl)) ⟨_, Heap.get?_push_size _ rfl, rfl, rfl⟩ q)
    · exact wpAny_pyIter_wide (by simpa using ha) (pi_one (tk := s1.toks) I1 _ (turn_str _ z t "str_iterator" (Or.inr rfl)) ⟨_, Heap.get?_push_size _ rfl, rfl, rfl⟩ q)
end

/-! ### steps of a reading -/
section
variable {K : PySem.W.Frag} {σ : L2.St} {H : Hp} {Q : VK} {D : Ends} {ta tb te : TE} {t u : TS} {tt tu : TT} {v x y : V} {i : Nat} {QB : Bool → Hp → Prop} {p : Prop} [Decidable p] {A B : Prop}
theorem e_var (h : σ[i]? = some (some v)) (q : Q v H) : tVar i σ H Q := ⟨v, h, q⟩
theorem e_c (q : Q v H) : tC v σ H Q := q
theorem e_op {r : R2} (q : ta σ H fun x H1 => tb σ H1 fun y H2 => r x y H2 Q) : tOp r ta tb σ H Q := q
theorem e_un {r : V → Hp → VK → Prop} (q : ta σ H fun x H1 => r x H1 Q) : tUn r ta σ H Q := q
theorem e_cb {r : List V → Hp → VK → Prop} {a : TA} (q : a σ H fun vs H1 => r vs H1 Q) : tCB r a σ H Q := q
theorem e_call {sp : Sp} {E : XK} {a : TA} (q : a σ H fun vs H1 => sp vs H1 Q E) : tCallR sp E a σ H Q := q
theorem a_nil {QA : List V → Hp → Prop} (q : QA [] H) : tNil σ H QA := q
theorem a_cons {tr : TA} {QA : List V → Hp → Prop} (q : ta σ H fun x H1 => tr σ H1 fun xs H2 => QA (x :: xs) H2) : tCons ta tr σ H QA := q
theorem e_lst {a : TA} (q : a σ H fun xs H1 => xs.length ≤ sizeLine ∧ ∀ p, H1 p = none → Q (.ref p) (upd H1 p (.lst xs))) : tLst a σ H Q := q
theorem e_tup {a : TA} (q : a σ H fun xs H1 => xs.length ≤ sizeLine ∧ ∀ p, H1 p = none → Q (.ref p) (upd H1 p (.tup xs))) : tTup a σ H Q := q
theorem e_if (q : tt σ H fun c H1 => if c = true then ta σ H1 Q else tb σ H1 Q) : tIf tt ta tb σ H Q := q
theorem e_andT (q : ta σ H fun x H1 => ∃ k, TruV K x H1 k ∧ if k = true then tb σ H1 Q else Q x H1) : tAndT K ta tb σ H Q := q
theorem e_orT (q : ta σ H fun x H1 => ∃ k, TruV K x H1 k ∧ if k = true then Q x H1 else tb σ H1 Q) : tOrT K ta tb σ H Q := q
theorem e_notT (q : ta σ H fun x H1 => ∃ k, TruV K x H1 k ∧ Q (.bl (!k)) H1) : tNotT K ta σ H Q := q
theorem e_chain {r r' : R2} {tc : TE} (q : ta σ H fun x H1 => tb σ H1 fun y H2 => r x y H2 fun z H3 => ∃ k, z = .bl k ∧ (if k = true then tc σ H3 fun w' H4 => r' y w' H4 Q else Q (.bl false) H3)) : tChain r r' ta tb tc σ H Q := q
theorem e_lc {wi : TI} {g : TG} {vs : List Nat} (q : wi σ H fun J H1 => ∀ D, H1 D = none → ∃ W : Nat → Nat → Hp → Prop, (∃ m, W 0 m (upd H1 D (.lst []))) ∧ ∀ i m H, W i m H →
  (J.stop i H ∧ Q (.ref D) H) ∨ (J.go i H ∧ ∃ Nx : Hp → Prop, (∀ H', Nx H' → ∃ m', m' < m ∧ W (i + 1) m' H') ∧ ∀ x H', J.yld i H x H' → g x (wipe σ vs) H' fun σ2 H2 => wipe σ2 vs = wipe σ vs ∧ tt σ2 H2 fun b H3 =>
    if b = true then te σ2 H3 fun y H4 => ∃ acc, H4 D = some (.lst acc) ∧ acc.length < sizeLine ∧ Nx (upd H4 D (.lst (acc ++ [y]))) else Nx H3)) : tLc wi g tt te vs σ H Q := q
theorem t_test (q : te σ H fun x H' => ∃ k, x = .bl k ∧ QB k H') : tTest te σ H QB := q
theorem t_tru (q : te σ H fun x H' => ∃ k, TruV K x H' k ∧ QB k H') : tTru' K te σ H QB := q
theorem t_and (q : tt σ H fun c H1 => if c = true then tu σ H1 QB else QB false H1) : tAnd tt tu σ H QB := q
theorem t_or (q : tt σ H fun c H1 => if c = true then QB true H1 else tu σ H1 QB) : tOr tt tu σ H QB := q
theorem t_not (q : tt σ H fun c H1 => QB (!c) H1) : tNot tt σ H QB := q
theorem t_yes (q : QB true H) : tYes σ H QB := q
theorem s_seq (q : t { D with nx := u D } σ H) : tSeq t u D σ H := q
theorem s_seqA {g : TG} (q : te σ H fun x H1 => g x σ H1 (u D)) : tSeq (tAsg te g) u D σ H := q
theorem s_seqF {wi : TI} {g : TG} (q : tFor wi g t { D with nx := u D } σ H) : tSeq (tFor wi g t) u D σ H := q
theorem s_seqW (q : tWhile tt t { D with nx := u D } σ H) : tSeq (tWhile tt t) u D σ H := q
theorem s_seqD (q : te σ H fun _ H1 => u D σ H1) : tSeq (tDrop te) u D σ H := q
theorem s_seqI {w : TS} (q : tt σ H fun b H1 => if b = true then t { D with nx := u D } σ H1 else w { D with nx := u D } σ H1) : tSeq (tIfS tt t w) u D σ H := q
/-- a statement, then the rest, which is shown once from Mid -/
theorem s_cut (Mid : L2.St → Hp → Prop) (h2 : ∀ σ' H', Mid σ' H' → u D σ' H') (h1 : ∀ N : L2.St → Hp → Prop, (∀ σ' H', Mid σ' H' → N σ' H') → t { D with nx := N } σ H) : tSeq t u D σ H := h1 _ h2
theorem s_asg {g : TG} (q : te σ H fun x H1 => g x σ H1 D.nx) : tAsg te g D σ H := q
theorem s_drop (q : te σ H fun _ H1 => D.nx σ H1) : tDrop te D σ H := q
theorem s_ret (q : te σ H D.rt) : tRet te D σ H := q
theorem s_if (q : tt σ H fun b H1 => if b = true then t D σ H1 else u D σ H1) : tIfS tt t u D σ H := q
theorem s_next (q : D.nx σ H) : tNext D σ H := q
theorem s_brk (q : D.bk σ H) : tBreak D σ H := q
theorem s_cont (q : D.ct σ H) : tCont D σ H := q
theorem g_name {QS : L2.St → Hp → Prop} (q : QS (σ.set i (some v)) H) : gName i v σ H QS := q
-- leaves
theorem l_bl {R : Bool → Prop} {b : Bool} (q : R b) : ∃ k, V.bl b = V.bl k ∧ R k := ⟨b, rfl, q⟩
theorem l_tbl {R : Bool → Prop} {b : Bool} (q : R b) : ∃ k, TruV K (.bl b) H k ∧ R k := ⟨b, rfl, q⟩
theorem l_tint {R : Bool → Prop} {n : Int} (q : R (n != 0)) : ∃ k, TruV K (.int n) H k ∧ R k := ⟨_, rfl, q⟩
theorem l_tnon {R : Bool → Prop} (q : R false) : ∃ k, TruV K .non H k ∧ R k := ⟨_, rfl, q⟩
theorem l_tstr {R : Bool → Prop} {z : Str} (h : z.length ≤ sizeLine) (q : R ((z.length : Int) != 0)) : ∃ k, TruV K (.str z) H k ∧ R k := ⟨_, ⟨h, rfl⟩, q⟩
theorem l_tlst {R : Bool → Prop} {a : Addr} {xs : List V} (h : SqL K H a xs) (q : R (!xs.isEmpty)) : ∃ k, TruV K (.ref a) H k ∧ R k := ⟨_, .inl ⟨xs, h, rfl⟩, q⟩
theorem l_ttup {R : Bool → Prop} {a : Addr} {xs : List V} (h : SqT K H a xs) (q : R (!xs.isEmpty)) : ∃ k, TruV K (.ref a) H k ∧ R k := ⟨_, .inr (.inl ⟨xs, h, rfl⟩), q⟩
theorem if_dec (h1 : p → A) (h2 : ¬ p → B) : if decide p = true then A else B := by
  by_cases h : p
  · rw [if_pos (decide_eq_true h)]; exact h1 h
  · rw [if_neg (by simpa using h)]; exact h2 h
theorem if_ndec (h1 : ¬ p → A) (h2 : p → B) : if (!decide p) = true then A else B := by
  by_cases h : p
  · rw [if_neg (by simpa using h)]; exact h2 h
  · rw [if_pos (by simpa using h)]; exact h1 h
theorem if_b {b : Bool} (h1 : b = true → A) (h2 : b = false → B) : if b = true then A else B := by
  cases b with
  | true => rw [if_pos rfl]; exact h1 rfl
  | false => rw [if_neg (by decide)]; exact h2 rfl
theorem if_tt (h : A) : if true = true then A else B := by rw [if_pos rfl]; exact h
theorem if_ff (h : B) : if false = true then A else B := by rw [if_neg (by decide)]; exact h
theorem if_not {b : Bool} (h : if b = true then B else A) : if (!b) = true then A else B := by
  cases b
  · exact if_tt (by rw [if_neg (by decide)] at h; exact h)
  · exact if_ff (by rw [if_pos rfl] at h; exact h)
-- operators
theorem r_add {n m : Int} (q : Q (.int (n + m)) H) : rAdd' K (.int n) (.int m) H Q := q
theorem r_adds {n m : Str} (h : n.length + m.length ≤ sizeLine) (q : Q (.str (n ++ m)) H) : rAdd' K (.str n) (.str m) H Q := ⟨h, q⟩
theorem r_sub {n m : Int} (q : Q (.int (n - m)) H) : rSub' (.int n) (.int m) H Q := q
theorem r_mul {n m : Int} (h : CMul n m) (q : Q (.int (n * m)) H) : rMul' (.int n) (.int m) H Q := ⟨h, q⟩
theorem r_div {n m : Int} (h : 0 < m ∧ m < 1073741824) (q : Q (.int (n / m)) H) : rDiv' (.int n) (.int m) H Q := ⟨h, q⟩
theorem r_mod {n m : Int} (h : 0 < m) (q : Q (.int (n % m)) H) : rMod' (.int n) (.int m) H Q := ⟨h, q⟩
theorem r_lt {n m : Int} (q : Q (.bl (decide (n < m))) H) : rLt' (.int n) (.int m) H Q := q
theorem r_le {n m : Int} (q : Q (.bl (decide (n ≤ m))) H) : rLe' (.int n) (.int m) H Q := q
theorem r_gt {n m : Int} (q : Q (.bl (decide (m < n))) H) : rGt' (.int n) (.int m) H Q := q
theorem r_ge {n m : Int} (q : Q (.bl (decide (m ≤ n))) H) : rGe' (.int n) (.int m) H Q := q
theorem dec_ii {n m : Int} : decide (V.int n = V.int m) = decide (n = m) := by rw [Bool.eq_iff_iff]; simp
theorem dec_ss {n m : Str} : decide (V.str n = V.str m) = decide (n = m) := by rw [Bool.eq_iff_iff]; simp
theorem dec_bb {n m : Bool} : decide (V.bl n = V.bl m) = decide (n = m) := by rw [Bool.eq_iff_iff]; simp
theorem r_eqi {n m : Int} (q : Q (.bl (decide (n = m))) H) : rEq' K (.int n) (.int m) H Q := .inl ⟨rfl, by rw [dec_ii]; exact q⟩
theorem r_nei {n m : Int} (q : Q (.bl (!decide (n = m))) H) : rNe' K (.int n) (.int m) H Q := .inl ⟨rfl, by rw [dec_ii]; exact q⟩
theorem r_eqs {n m : Str} (q : Q (.bl (decide (n = m))) H) : rEq' K (.str n) (.str m) H Q := .inl ⟨rfl, by rw [dec_ss]; exact q⟩
theorem r_nes {n m : Str} (q : Q (.bl (!decide (n = m))) H) : rNe' K (.str n) (.str m) H Q := .inl ⟨rfl, by rw [dec_ss]; exact q⟩
theorem r_eqb {n m : Bool} (q : Q (.bl (decide (n = m))) H) : rEq' K (.bl n) (.bl m) H Q := .inl ⟨rfl, by rw [dec_bb]; exact q⟩
theorem r_neb {n m : Bool} (q : Q (.bl (!decide (n = m))) H) : rNe' K (.bl n) (.bl m) H Q := .inl ⟨rfl, by rw [dec_bb]; exact q⟩
theorem r_int {n : Int} (q : Q (.int n) H) : rInt' [.int n] H Q := q
theorem r_neg {n : Int} (q : Q (.int (-n)) H) : rNeg' (.int n) H Q := q
theorem r_len {a : Addr} {ys : List V} (h : SqL K H a ys) (q : Q (.int ys.length) H) : rLen' K [.ref a] H Q := ⟨ys, .inl h, q⟩
theorem r_lenT {a : Addr} {ys : List V} (h : SqT K H a ys) (q : Q (.int ys.length) H) : rLen' K [.ref a] H Q := ⟨ys, .inr h, q⟩
theorem r_lens {z : Str} (h : z.length ≤ sizeLine) (q : Q (.int z.length) H) : rLen' K [.str z] H Q := ⟨h, q⟩
theorem r_ixL {a : Addr} {xs : List V} {n : Int} (h : SqL K H a xs) (e : atI xs n = some v) (q : Q v H) : rIx' K (.ref a) (.int n) H Q := .inl ⟨a, xs, n, v, rfl, rfl, h, e, q⟩
theorem r_ixT {a : Addr} {xs : List V} {n : Int} (h : SqT K H a xs) (e : atI xs n = some v) (q : Q v H) : rIx' K (.ref a) (.int n) H Q := .inr (.inl ⟨a, xs, n, v, rfl, rfl, h, e, q⟩)
theorem r_ixS {z : Str} {n : Int} {c : Nat} (h : z.length ≤ sizeLine) (e : atI z.cps.toList n = some c) (q : Q (.str ⟨#[c]⟩) H) : rIx' K (.str z) (.int n) H Q := .inr (.inr (.inl ⟨z, n, c, rfl, rfl, h, e, q⟩))
theorem r_ixD {a : Addr} (h : DGet H a y (some v)) (q : Q v H) : rIx' K (.ref a) y H Q := .inr (.inr (.inr ⟨a, v, rfl, h, q⟩))
theorem r_isi {t T : String} {b : Bool} (ty : TyX K H x (.type t)) (h : kitB t T = some b) (q : Q (.bl b) H) : rIsi' K [x, .ty T] H Q := .inl ⟨x, .ty T, _, _, b, rfl, .ty T, ty, kit_ty h, q⟩
theorem kb_ii : kitB "int" "int" = some true := by decide +kernel
theorem kb_ib : kitB "int" "bool" = some false := by decide +kernel
theorem kb_is : kitB "int" "str" = some false := by decide +kernel
theorem kb_bi : kitB "bool" "int" = some true := by decide +kernel
theorem kb_bb : kitB "bool" "bool" = some true := by decide +kernel
theorem kb_bs : kitB "bool" "str" = some false := by decide +kernel
theorem kb_si : kitB "str" "int" = some false := by decide +kernel
theorem kb_sb : kitB "str" "bool" = some false := by decide +kernel
theorem kb_ss : kitB "str" "str" = some true := by decide +kernel
theorem kb_ns : kitB "NoneType" "str" = some false := by decide +kernel
theorem kb_ni : kitB "NoneType" "int" = some false := by decide +kernel
theorem kb_ls : kitB "list" "str" = some false := by decide +kernel
theorem kb_ts : kitB "tuple" "str" = some false := by decide +kernel
theorem r_isi_ii {n : Int} (q : Q (.bl true) H) : rIsi' K [.int n, .ty "int"] H Q := r_isi (.base (.int _)) kb_ii q
theorem r_isi_ib {n : Int} (q : Q (.bl false) H) : rIsi' K [.int n, .ty "bool"] H Q := r_isi (.base (.int _)) kb_ib q
theorem r_isi_is {n : Int} (q : Q (.bl false) H) : rIsi' K [.int n, .ty "str"] H Q := r_isi (.base (.int _)) kb_is q
theorem r_isi_bi {n : Bool} (q : Q (.bl true) H) : rIsi' K [.bl n, .ty "int"] H Q := r_isi (.base (.bl _)) kb_bi q
theorem r_isi_bb {n : Bool} (q : Q (.bl true) H) : rIsi' K [.bl n, .ty "bool"] H Q := r_isi (.base (.bl _)) kb_bb q
theorem r_isi_bs {n : Bool} (q : Q (.bl false) H) : rIsi' K [.bl n, .ty "str"] H Q := r_isi (.base (.bl _)) kb_bs q
theorem r_isi_si {n : Str} (q : Q (.bl false) H) : rIsi' K [.str n, .ty "int"] H Q := r_isi (.base (.str _)) kb_si q
theorem r_isi_sb {n : Str} (q : Q (.bl false) H) : rIsi' K [.str n, .ty "bool"] H Q := r_isi (.base (.str _)) kb_sb q
theorem r_isi_ss {n : Str} (q : Q (.bl true) H) : rIsi' K [.str n, .ty "str"] H Q := r_isi (.base (.str _)) kb_ss q
theorem r_isi_ns (q : Q (.bl false) H) : rIsi' K [.non, .ty "str"] H Q := r_isi (.base .non) kb_ns q
theorem r_isi_ni (q : Q (.bl false) H) : rIsi' K [.non, .ty "int"] H Q := r_isi (.base .non) kb_ni q
-- ranges
theorem i_rng1 {a : TA} {R : It → Hp → Prop} (q : a σ H fun vs H1 => ∃ j : Int, vs = [.int j] ∧ -(2 ^ 62) ≤ j ∧ j < 2 ^ 62 ∧ R (Itr 0 j.toNat) H1) : iRng1 a σ H R := q
theorem i_rng2 {a : TA} {R : It → Hp → Prop} (q : a σ H fun vs H1 => ∃ i j : Int, vs = [.int i, .int j] ∧ (-(2 ^ 62) ≤ i ∧ i < 2 ^ 62 ∧ -(2 ^ 62) ≤ j ∧ j < 2 ^ 62) ∧ R (Itr i (j - i).toNat) H1) : iRng2 a σ H R := q
theorem i_any {R : It → Hp → Prop} (q : te σ H fun x H1 => (∃ a, x = .ref a ∧ (∃ xs, SqL K H1 a xs) ∧ R (Itl K a) H1) ∨ (∃ a, x = .ref a ∧ (∃ xs, SqT K H1 a xs) ∧ R (Itt K a) H1) ∨ (∃ z, x = .str z ∧ R (Its z) H1)) : iAny K te σ H R := q
theorem s_for {wi : TI} {g : TG} (q : wi σ H fun J H1 => ∃ W : Nat → Nat → L2.St → Hp → Prop, (∃ m, W 0 m σ H1) ∧ ∀ i m σ H, W i m σ H →
  (J.stop i H ∧ D.nx σ H) ∨ (J.go i H ∧ ∃ N : L2.St → Hp → Prop, (∀ σ' H', N σ' H' → ∃ m', m' < m ∧ W (i + 1) m' σ' H') ∧ ∀ x H', J.yld i H x H' → g x σ H' fun σ2 H2 => t { D with nx := N, ct := N, bk := D.nx } σ2 H2)) : tFor wi g t D σ H := q
theorem l_rng1 {n : Int} {R : It → Hp → Prop} (h : -1000000000 ≤ n ∧ n ≤ 1000000000) (q : R (Itr 0 n.toNat) H) : ∃ j : Int, [V.int n] = [V.int j] ∧ -(2 ^ 62) ≤ j ∧ j < 2 ^ 62 ∧ R (Itr 0 j.toNat) H := ⟨n, rfl, by omega, by omega, q⟩
theorem l_rng2 {n m : Int} {R : It → Hp → Prop} (h : (-1000000000 ≤ n ∧ n ≤ 1000000000) ∧ -1000000000 ≤ m ∧ m ≤ 1000000000) (q : R (Itr n (m - n).toNat) H) :
    ∃ i j : Int, [V.int n, V.int m] = [V.int i, V.int j] ∧ (-(2 ^ 62) ≤ i ∧ i < 2 ^ 62 ∧ -(2 ^ 62) ≤ j ∧ j < 2 ^ 62) ∧ R (Itr i (j - i).toNat) H := ⟨n, m, rfl, by omega, q⟩
-- methods
theorem e_app {ao ax : TE} {QV : VK} (q : ao σ H fun x H1 => (∃ a, x = .ref a ∧ ∃ xs, H1 a = some (.lst xs)) ∧ ax σ H1 fun y H2 => ∃ a xs, x = .ref a ∧ H2 a = some (.lst xs) ∧ xs.length < sizeLine ∧ QV .non (upd H2 a (.lst (xs ++ [y])))) (mono : ∀ σ H (Q Q' : VK), (∀ v H', Q v H' → Q' v H') → ao σ H Q → ao σ H Q') (mono2 : ∀ σ H (Q Q' : VK), (∀ v H', Q v H' → Q' v H') → ax σ H Q → ax σ H Q') :
    tBM K "list" rAppend ao (tCons ax tNil) σ H QV := by
  refine mono σ H _ _ (fun x H1 h => ?_) q
  obtain ⟨⟨a, rfl, xs, hx⟩, h⟩ := h
  refine ⟨.inl ⟨rfl, xs, SqL.of hx⟩, ?_⟩
  refine mono2 σ H1 _ _ (fun y H2 h => ?_) h
  obtain ⟨b, ys, e, h1, h2, h3⟩ := h
  exact ⟨b, ys, y, e, rfl, h1, h2, h3⟩
end
/-- the tactic's reach: a reading is run until a fact is asked -/
theorem bm_step {K : PySem.W.Frag} {T : String} {r : V → List V → Hp → VK → Prop} {to : TE} {t : TA} {σ : L2.St} {H : Hp} {Q : VK} (q : to σ H fun x H1 => tyV K T x H1 ∧ t σ H1 fun xs H2 => r x xs H2 Q) : tBM K T r to t σ H Q := q
/-- x.append(y) of a list that stands at a -/
theorem r_app {K : PySem.W.Frag} {σ : L2.St} {H : Hp} {Q : VK} {ax : TE} {a : Addr} {xs : List V} (h : H a = some (.lst xs)) (q : ax σ H fun y H2 => rAppend (.ref a) [y] H2 Q) :
    tyV K "list" (.ref a) H ∧ (tCons ax tNil) σ H fun vs H2 => rAppend (.ref a) vs H2 Q := ⟨.inl ⟨rfl, xs, SqL.of h⟩, q⟩
theorem r_app2 {H : Hp} {Q : VK} {a : Addr} {xs : List V} {y : V} (h : H a = some (.lst xs)) (hn : xs.length < sizeLine) (q : Q .non (upd H a (.lst (xs ++ [y])))) : rAppend (.ref a) [y] H Q := ⟨a, xs, y, rfl, rfl, h, hn, q⟩

/-! ### a ledger of objects -/
theorem nd_ix {α : Type} {xs : List α} (h : xs.Nodup) {i j : Nat} {x : α} (h1 : xs[i]? = some x) (h2 : xs[j]? = some x) : i = j := by
  have a := (List.getElem?_eq_some_iff.mp h1)
  have b := (List.getElem?_eq_some_iff.mp h2)
  obtain ⟨a1, a2⟩ := a
  obtain ⟨b1, b2⟩ := b
  exact (List.getElem_inj h).mp (a2.trans b2.symm)
/-- H0 the heap at the entry; M what may change of it; L the objects that are known by now -/
structure Led (H0 : Hp) (M : List Addr) (L : List (Addr × HO)) (H : Hp) : Prop where
  keep : ∀ a o, H0 a = some o → a ∉ M → H a = some o
  has : ∀ e ∈ L, H e.1 = some e.2
  nd : (L.map Prod.fst).Nodup
  new : ∀ e ∈ L, e.1 ∈ M ∨ H0 e.1 = none
section
variable {H0 H H' : Hp} {M : List Addr} {L : List (Addr × HO)} {p : Addr} {o u : HO} {K : PySem.W.Frag} {Q : VK}
theorem Led.start (H0 : Hp) : Led H0 [] [] H0 := ⟨fun _ _ h _ => h, fun _ h => (by cases h), List.nodup_nil, fun _ h => (by cases h)⟩
/-- one object of the entry's may change -/
theorem Led.start1 (h : H0 p = some o) : Led H0 [p] [(p, o)] H0 :=
  ⟨fun _ _ h _ => h, fun e he => by rw [List.mem_singleton.mp he]; exact h, by simp, fun e he => by rw [List.mem_singleton.mp he]; exact .inl (List.mem_singleton.mpr rfl)⟩
theorem Led.at_ (l : Led H0 M L H) (i : Nat) (h : L[i]? = some (p, o) := by rfl) : H p = some o := l.has (p, o) (List.mem_of_getElem? h)
theorem Led.alloc (l : Led H0 M L H) (h : H p = none) (hM : ∀ a ∈ M, ∃ u, H a = some u := by intro a h; cases h) (o : HO) : Led H0 M ((p, o) :: L) (upd H p o) := by
  have h0 : p ∉ M → H0 p = none := fun hp => by
    cases q : H0 p with
    | none => rfl
    | some u => rw [l.keep p u q hp] at h; cases h
  have hpM : p ∉ M := fun hp => by
    obtain ⟨u, e⟩ := hM p hp
    rw [e] at h; cases h
  refine ⟨fun a u ha hm => ?_, fun e he => ?_, ?_, fun e he => ?_⟩
  · rw [upd_ne (ne_of_none (l.keep a u ha hm) h)]; exact l.keep a u ha hm
  · rcases List.mem_cons.mp he with rfl | he
    · exact upd_same
    · rw [upd_ne (ne_of_none (l.has e he) h)]; exact l.has e he
  · refine List.nodup_cons.mpr ⟨fun hm => ?_, l.nd⟩
    obtain ⟨e, he, e1⟩ := List.mem_map.mp hm
    have := l.has e he
    rw [e1] at this
    rw [this] at h; cases h
  · rcases List.mem_cons.mp he with rfl | he
    · exact .inr (h0 hpM)
    · exact l.new e he
theorem Led.put (l : Led H0 M L H) (i : Nat) (h : L[i]? = some (p, o) := by rfl) (u : HO) : Led H0 M (L.set i (p, u)) (upd H p u) := by
  have hi : i < L.length := (List.getElem?_eq_some_iff.mp h).1
  have hmem : (p, o) ∈ L := List.mem_of_getElem? h
  have hmap : (L.set i (p, u)).map Prod.fst = L.map Prod.fst := by
    rw [List.map_set]
    refine List.ext_getElem? fun j => ?_
    by_cases hj : i = j
    · subst hj
      rw [List.getElem?_set_self (by simpa using hi), List.getElem?_map, h]
      rfl
    · rw [List.getElem?_set_ne hj]
  have hpn : p ∈ M ∨ H0 p = none := l.new _ hmem
  refine ⟨fun a w ha hm => ?_, fun e he => ?_, by rw [hmap]; exact l.nd, fun e he => ?_⟩
  · have hne : a ≠ p := by
      rintro rfl
      rcases hpn with z | z
      · exact hm z
      · rw [z] at ha; cases ha
    rw [upd_ne hne]; exact l.keep a w ha hm
  · obtain ⟨j, hj, e1⟩ := List.mem_iff_getElem.mp he
    have hj' : j < L.length := by simpa using hj
    by_cases e2 : i = j
    · subst e2
      rw [List.getElem_set_self] at e1
      subst e1
      exact upd_same
    · rw [List.getElem_set_ne e2] at e1
      have hin : e ∈ L := by rw [← e1]; exact List.getElem_mem _
      have hne : e.1 ≠ p := fun z => by
        have a1 : (L.map Prod.fst)[j]? = some p := by rw [List.getElem?_map, List.getElem?_eq_getElem hj', e1, ← z]; rfl
        have a2 : (L.map Prod.fst)[i]? = some p := by rw [List.getElem?_map, h]; rfl
        exact e2 (nd_ix l.nd a2 a1)
      rw [upd_ne hne]; exact l.has e hin
  · rcases List.mem_or_eq_of_mem_set he with he | rfl
    · exact l.new e he
    · exact hpn
/-- behind a call that leaves all as it was -/
theorem Led.same (l : Led H0 M L H) (s : Same H H') : Led H0 M L H' := ⟨fun a o h hm => s a o (l.keep a o h hm), fun e he => s _ _ (l.has e he), l.nd, l.new⟩
theorem Led.toSame (l : Led H0 [] L H) : Same H0 H := fun a o h => l.keep a o h (by simp)
/-- some objects forgotten -/
theorem Led.sub {L' : List (Addr × HO)} (l : Led H0 M L H) (h : List.Sublist L' L := by repeat (first | exact List.Sublist.refl _ | exact List.nil_sublist _ | apply List.Sublist.cons₂ | apply List.Sublist.cons)) : Led H0 M L' H :=
  ⟨l.keep, fun e he => l.has e (h.subset he), (List.Sublist.map Prod.fst h).nodup l.nd, fun e he => l.new e (h.subset he)⟩
theorem Led.seqL {a : Addr} {xs : List V} (l : Led H0 [] L H) (h : SqL K H0 a xs) : SqL K H a xs := l.toSame.seq h
theorem l_lst {xs : List V} (l : Led H0 [] L H) (hn : xs.length ≤ sizeLine) (q : ∀ p H', Led H0 [] ((p, .lst xs) :: L) H' → Q (.ref p) H') : xs.length ≤ sizeLine ∧ ∀ p, H p = none → Q (.ref p) (upd H p (.lst xs)) :=
  ⟨hn, fun p hp => q p _ (l.alloc hp (o := .lst xs))⟩
theorem l_tup {xs : List V} (l : Led H0 [] L H) (hn : xs.length ≤ sizeLine) (q : ∀ p H', Led H0 [] ((p, .tup xs) :: L) H' → Q (.ref p) H') : xs.length ≤ sizeLine ∧ ∀ p, H p = none → Q (.ref p) (upd H p (.tup xs)) :=
  ⟨hn, fun p hp => q p _ (l.alloc hp (o := .tup xs))⟩
theorem small {n : Nat} (h : n ≤ 100000) : n ≤ sizeLine := Nat.le_trans h (by decide)
theorem smallL {n : Nat} (h : n < 100000) : n < sizeLine := Nat.lt_of_lt_of_le h (by decide)
end

/-! ### loops over ranges -/
section
variable {nx0 : L2.St → Hp → Prop} {rt0 : VK} {σ : L2.St} {H : Hp} {g : TG} {t : TS}
theorem f_rng1 {m : Int} (n : Nat) (e : m = (n : Int)) (hn : n ≤ 1000000000) (Pv : Nat → L2.St → Hp → Prop) (h0 : Pv 0 σ H)
    (hs : ∀ (i : Nat) σ H, i < n → Pv i σ H → g (.int (i : Int)) σ H fun σ2 H2 => t { nx := Pv (i + 1), rt := rt0, bk := nx0, ct := Pv (i + 1) } σ2 H2) (hd : ∀ σ H, Pv n σ H → nx0 σ H) :
    ∃ j : Int, [V.int m] = [V.int j] ∧ -(2 ^ 62) ≤ j ∧ j < 2 ^ 62 ∧ ∃ W : Nat → Nat → L2.St → Hp → Prop, (∃ m, W 0 m σ H) ∧ ∀ i m σ H, W i m σ H →
      ((Itr 0 j.toNat).stop i H ∧ nx0 σ H) ∨ ((Itr 0 j.toNat).go i H ∧ ∃ N : L2.St → Hp → Prop, (∀ σ' H', N σ' H' → ∃ m', m' < m ∧ W (i + 1) m' σ' H') ∧ ∀ x H', (Itr 0 j.toNat).yld i H x H' → g x σ H' fun σ2 H2 => t { nx := N, rt := rt0, bk := nx0, ct := N } σ2 H2) := by
  subst e
  refine ⟨n, rfl, by omega, by omega, ?_⟩
  rw [Int.toNat_natCast]
  refine for_range (lo := 0) (n := n) (D := { nx := nx0, rt := rt0 }) Pv h0 (fun i σ H hi p => ?_) hd
  rw [Int.zero_add]
  exact hs i σ H hi p
theorem f_rng2 {a b : Int} (n : Nat) (e : b - a = (n : Int)) (h1 : -1000000000 ≤ a ∧ b ≤ 1000000000) (Pv : Nat → L2.St → Hp → Prop) (h0 : Pv 0 σ H)
    (hs : ∀ (i : Nat) σ H, i < n → Pv i σ H → g (.int (a + (i : Int))) σ H fun σ2 H2 => t { nx := Pv (i + 1), rt := rt0, bk := nx0, ct := Pv (i + 1) } σ2 H2) (hd : ∀ σ H, Pv n σ H → nx0 σ H) :
    ∃ i j : Int, [V.int a, V.int b] = [V.int i, V.int j] ∧ (-(2 ^ 62) ≤ i ∧ i < 2 ^ 62 ∧ -(2 ^ 62) ≤ j ∧ j < 2 ^ 62) ∧ ∃ W : Nat → Nat → L2.St → Hp → Prop, (∃ m, W 0 m σ H) ∧ ∀ k m σ H, W k m σ H →
      ((Itr i (j - i).toNat).stop k H ∧ nx0 σ H) ∨ ((Itr i (j - i).toNat).go k H ∧ ∃ N : L2.St → Hp → Prop, (∀ σ' H', N σ' H' → ∃ m', m' < m ∧ W (k + 1) m' σ' H') ∧ ∀ x H', (Itr i (j - i).toNat).yld k H x H' → g x σ H' fun σ2 H2 => t { nx := N, rt := rt0, bk := nx0, ct := N } σ2 H2) := by
  refine ⟨a, b, rfl, by omega, ?_⟩
  rw [e, Int.toNat_natCast]
  exact for_range (lo := a) (n := n) (D := { nx := nx0, rt := rt0 }) Pv h0 hs hd
/-- [.. for x in range(..)], one list made -/
theorem c_rng1 {m : Int} {tt : TT} {te : TE} {vs : List Nat} {Q : Addr → Hp → Prop} (n : Nat) (e : m = (n : Int)) (hn : n ≤ 1000000000) (Pv : Addr → Nat → Hp → Prop) (h0 : ∀ D, H D = none → Pv D 0 (upd H D (.lst [])))
    (hs : ∀ D (i : Nat) H, i < n → Pv D i H → g (.int (i : Int)) (wipe σ vs) H fun σ2 H2 => wipe σ2 vs = wipe σ vs ∧ tt σ2 H2 fun b H3 =>
      if b = true then te σ2 H3 fun y H4 => ∃ acc, H4 D = some (.lst acc) ∧ acc.length < sizeLine ∧ Pv D (i + 1) (upd H4 D (.lst (acc ++ [y]))) else Pv D (i + 1) H3) (hd : ∀ D H, Pv D n H → Q D H) :
    ∃ j : Int, [V.int m] = [V.int j] ∧ -(2 ^ 62) ≤ j ∧ j < 2 ^ 62 ∧ ∀ D, H D = none → ∃ W : Nat → Nat → Hp → Prop, (∃ m, W 0 m (upd H D (.lst []))) ∧ ∀ i m H, W i m H →
      ((Itr 0 j.toNat).stop i H ∧ Q D H) ∨ ((Itr 0 j.toNat).go i H ∧ ∃ Nx : Hp → Prop, (∀ H', Nx H' → ∃ m', m' < m ∧ W (i + 1) m' H') ∧ ∀ x H', (Itr 0 j.toNat).yld i H x H' → g x (wipe σ vs) H' fun σ2 H2 => wipe σ2 vs = wipe σ vs ∧ tt σ2 H2 fun b H3 =>
        if b = true then te σ2 H3 fun y H4 => ∃ acc, H4 D = some (.lst acc) ∧ acc.length < sizeLine ∧ Nx (upd H4 D (.lst (acc ++ [y]))) else Nx H3) := by
  subst e
  refine ⟨n, rfl, by omega, by omega, fun D hD => ?_⟩
  rw [Int.toNat_natCast]
  refine lc_range (lo := 0) (n := n) (Pv D) (h0 D hD) (fun i H hi p => ?_) (hd D)
  rw [Int.zero_add]
  exact hs D i H hi p
end

/-! ### loops over lists -/
section
variable {nx0 : L2.St → Hp → Prop} {rt0 : VK} {σ : L2.St} {H : Hp} {g : TG} {t : TS} {K : PySem.W.Frag}
theorem f_list {a : Addr} (xs : List V) (h : SqL K H a xs) (Pv : Nat → L2.St → Hp → Prop) (h0 : Pv 0 σ H) (hl : ∀ i σ H, i ≤ xs.length → Pv i σ H → SqL K H a xs)
    (hs : ∀ i x σ H, xs[i]? = some x → Pv i σ H → g x σ H fun σ2 H2 => t { nx := Pv (i + 1), rt := rt0, bk := nx0, ct := Pv (i + 1) } σ2 H2) (hd : ∀ σ H, Pv xs.length σ H → nx0 σ H) {Z : Prop} :
    (∃ b, V.ref a = V.ref b ∧ (∃ xs, SqL K H b xs) ∧ ∃ W : Nat → Nat → L2.St → Hp → Prop, (∃ m, W 0 m σ H) ∧ ∀ k m σ H, W k m σ H →
      ((Itl K b).stop k H ∧ nx0 σ H) ∨ ((Itl K b).go k H ∧ ∃ N : L2.St → Hp → Prop, (∀ σ' H', N σ' H' → ∃ m', m' < m ∧ W (k + 1) m' σ' H') ∧ ∀ x H', (Itl K b).yld k H x H' → g x σ H' fun σ2 H2 => t { nx := N, rt := rt0, bk := nx0, ct := N } σ2 H2)) ∨ Z :=
  .inl ⟨a, rfl, ⟨xs, h⟩, for_list (D := { nx := nx0, rt := rt0 }) Pv h0 hl hs hd⟩
theorem f_tup {a : Addr} (xs : List V) (h : SqT K H a xs) (Pv : Nat → L2.St → Hp → Prop) (h0 : Pv 0 σ H) (hl : ∀ i σ H, i ≤ xs.length → Pv i σ H → SqT K H a xs)
    (hs : ∀ i x σ H, xs[i]? = some x → Pv i σ H → g x σ H fun σ2 H2 => t { nx := Pv (i + 1), rt := rt0, bk := nx0, ct := Pv (i + 1) } σ2 H2) (hd : ∀ σ H, Pv xs.length σ H → nx0 σ H) {Y Z : Prop} :
    Y ∨ (∃ b, V.ref a = V.ref b ∧ (∃ xs, SqT K H b xs) ∧ ∃ W : Nat → Nat → L2.St → Hp → Prop, (∃ m, W 0 m σ H) ∧ ∀ k m σ H, W k m σ H →
      ((Itt K b).stop k H ∧ nx0 σ H) ∨ ((Itt K b).go k H ∧ ∃ N : L2.St → Hp → Prop, (∀ σ' H', N σ' H' → ∃ m', m' < m ∧ W (k + 1) m' σ' H') ∧ ∀ x H', (Itt K b).yld k H x H' → g x σ H' fun σ2 H2 => t { nx := N, rt := rt0, bk := nx0, ct := N } σ2 H2)) ∨ Z :=
  .inr (.inl ⟨a, rfl, ⟨xs, h⟩, for_tup (D := { nx := nx0, rt := rt0 }) Pv h0 hl hs hd⟩)
theorem f_str {z : Str} (Pv : Nat → L2.St → Hp → Prop) (h0 : Pv 0 σ H)
    (hs : ∀ i c σ H, z.cps[i]? = some c → Pv i σ H → g (.str ⟨#[c]⟩) σ H fun σ2 H2 => t { nx := Pv (i + 1), rt := rt0, bk := nx0, ct := Pv (i + 1) } σ2 H2) (hd : ∀ σ H, Pv z.cps.size σ H → nx0 σ H) {X Y : Prop} :
    X ∨ Y ∨ (∃ y, V.str z = V.str y ∧ ∃ W : Nat → Nat → L2.St → Hp → Prop, (∃ m, W 0 m σ H) ∧ ∀ k m σ H, W k m σ H →
      ((Its y).stop k H ∧ nx0 σ H) ∨ ((Its y).go k H ∧ ∃ N : L2.St → Hp → Prop, (∀ σ' H', N σ' H' → ∃ m', m' < m ∧ W (k + 1) m' σ' H') ∧ ∀ x H', (Its y).yld k H x H' → g x σ H' fun σ2 H2 => t { nx := N, rt := rt0, bk := nx0, ct := N } σ2 H2)) := by
  refine .inr (.inr ⟨z, rfl, for_it (D := { nx := nx0, rt := rt0 }) walk_str Pv h0 (fun _ _ _ _ _ => trivial) ?_ hd⟩)
  rintro i x σ H H' hi p ⟨rfl, c, hc, rfl⟩
  exact hs i c σ H' hc p
end
theorem sq_get {ns : List Int} {i : Nat} {x : V} (h : (ns.map V.int)[i]? = some x) : ∃ n, ns[i]? = some n ∧ x = .int n := by
  rw [List.getElem?_map] at h
  cases e : ns[i]? with
  | none => rw [e] at h; cases h
  | some n => rw [e] at h; exact ⟨n, rfl, (Option.some.inj h).symm⟩
theorem at_nat {xs : List V} {n : Int} {j : Nat} {v : V} (e : n = (j : Int)) (h : xs[j]? = some v) : atI xs n = some v := by
  subst e
  exact atI_nat h
end G

set_option Elab.async false
set_option linter.all false
set_option maxRecDepth 100000
set_option maxHeartbeats 4000000
local macro_rules | `(tactic| walk_at "go") => `(tactic| repeat (first
  | ((with_reducible apply G.e_var); rfl)
  | with_reducible refine G.s_seqA ?_
  | with_reducible refine G.s_seqF ?_
  | with_reducible refine G.s_seqW ?_
  | with_reducible refine G.s_seqD ?_
  | with_reducible refine G.s_asg ?_
  | with_reducible refine G.e_op ?_
  | with_reducible refine G.e_c ?_
  | with_reducible refine G.g_name ?_
  | with_reducible refine G.r_add ?_
  | with_reducible refine G.r_sub ?_
  | with_reducible refine G.r_int ?_
  | with_reducible refine G.e_cb ?_
  | with_reducible refine G.e_call ?_
  | with_reducible refine G.a_cons ?_
  | with_reducible refine G.a_nil ?_
  | with_reducible refine G.s_ret ?_
  | with_reducible refine G.s_drop ?_
  | with_reducible refine G.s_if ?_
  | with_reducible refine G.s_next ?_
  | with_reducible refine G.s_brk ?_
  | with_reducible refine G.s_cont ?_
  | with_reducible refine G.s_for ?_
  | with_reducible refine G.e_lc ?_
  | with_reducible refine G.i_rng1 ?_
  | with_reducible refine G.i_rng2 ?_
  | with_reducible refine G.i_any ?_
  | with_reducible refine G.t_test ?_
  | with_reducible refine G.t_tru ?_
  | with_reducible refine G.t_and ?_
  | with_reducible refine G.t_or ?_
  | with_reducible refine G.t_not ?_
  | with_reducible refine G.t_yes ?_
  | with_reducible refine G.e_if ?_
  | with_reducible refine G.e_andT ?_
  | with_reducible refine G.e_orT ?_
  | with_reducible refine G.e_notT ?_
  | with_reducible refine G.e_chain ?_
  | with_reducible refine G.e_lst ?_
  | with_reducible refine G.e_tup ?_
  | with_reducible refine G.e_un ?_
  | with_reducible refine G.bm_step ?_
  | with_reducible refine G.l_bl ?_
  | with_reducible refine G.l_tbl ?_
  | with_reducible refine G.l_tint ?_
  | with_reducible refine G.l_tnon ?_
  | with_reducible refine G.if_tt ?_
  | with_reducible refine G.if_ff ?_
  | with_reducible refine G.if_not ?_
  | with_reducible refine G.r_neg ?_
  | with_reducible refine G.r_lt ?_
  | with_reducible refine G.r_le ?_
  | with_reducible refine G.r_gt ?_
  | with_reducible refine G.r_ge ?_
  | with_reducible refine G.r_eqi ?_
  | with_reducible refine G.r_nei ?_
  | with_reducible refine G.r_eqs ?_
  | with_reducible refine G.r_nes ?_
  | with_reducible refine G.r_eqb ?_
  | with_reducible refine G.r_neb ?_
  | with_reducible refine G.r_isi_ii ?_
  | with_reducible refine G.r_isi_ib ?_
  | with_reducible refine G.r_isi_is ?_
  | with_reducible refine G.r_isi_bi ?_
  | with_reducible refine G.r_isi_bb ?_
  | with_reducible refine G.r_isi_bs ?_
  | with_reducible refine G.r_isi_si ?_
  | with_reducible refine G.r_isi_sb ?_
  | with_reducible refine G.r_isi_ss ?_
  | with_reducible refine G.r_isi_ns ?_
  | with_reducible refine G.r_isi_ni ?_
  | (with_reducible refine G.r_mod (by first | decide | omega) ?_)
  | (with_reducible refine G.r_div (by first | decide | omega) ?_)
  | dsimp only [List.set_cons_zero, List.set_cons_succ]))
namespace K70
open PySem PySem.Spec PyProof.Rows L2 G

/-- most_things(places, rounds) -/
def t_most_things (K : PySem.W.Frag) : TS :=
  (tSeq (tAsg (tC (.int 1)) (gName 2))
  (tSeq (tFor (iRng1 (tCons (tVar 0) tNil)) (gName 3)
  (tAsg (tOp rDiv' (tOp rMul' (tVar 2) (tOp (rAdd' K) (tOp (rAdd' K) (tVar 1) (tVar 3)) (tC (.int 1)))) (tOp (rAdd' K) (tVar 3) (tC (.int 1)))) (gName 2)))
  (tRet (tVar 2))))
def n_most_things : List Str := ["places", "rounds", "told", "at"]
/-- the table by Pascal's rule -/
def B : Nat → Nat → Nat
  | 0, _ => 1
  | _ + 1, 0 => 1
  | s + 1, r + 1 => B (s + 1) r + B s (r + 1)
theorem B0 (r : Nat) : B 0 r = 1 := by simp [B]
theorem Bz (s : Nat) : B s 0 = 1 := by cases s <;> simp [B]
theorem Bs (s r : Nat) : B (s + 1) (r + 1) = B (s + 1) r + B s (r + 1) := by simp [B]
theorem key : ∀ n s r, s + r = n → B s r * (r + s + 1) = B (s + 1) r * (s + 1) ∧ B s r * (r + s + 1) = B s (r + 1) * (r + 1) := by
  intro n
  induction n with
  | zero =>
    intro s r h
    obtain rfl : s = 0 := by omega
    obtain rfl : r = 0 := by omega
    simp [B]
  | succ n ih =>
    intro s r h
    constructor
    · cases r with
      | zero => simp [Bz]
      | succ r =>
        have := ih s r (by omega)
        rw [Bs]
        have e : B (s + 1) r * (s + 1) = B s (r + 1) * (r + 1) := this.1.symm.trans this.2
        rw [Nat.add_mul, e]
        rw [← Nat.mul_add]
        exact congrArg _ (by omega)
    · cases s with
      | zero => simp [B0]
      | succ s =>
        have := ih s r (by omega)
        rw [Bs]
        have e : B (s + 1) r * (s + 1) = B s (r + 1) * (r + 1) := this.1.symm.trans this.2
        rw [Nat.add_mul, ← e, ← Nat.mul_add]
        exact congrArg _ (by omega)
/-- one turn of the loop -/
theorem turn (s r : Nat) : B s r * (r + s + 1) / (s + 1) = B (s + 1) r := by
  rw [(key _ s r rfl).1]
  exact Nat.mul_div_cancel _ (Nat.succ_pos s)
theorem one (r : Nat) : B 1 r = r + 1 := by
  have := turn 0 r
  rw [B0] at this
  simpa using this.symm
def sp_most_things (K : PySem.W.Frag) : Sp := fun vs H Q _ => ∃ (p r : Nat), vs = [.int p, .int r] ∧ p ≤ 100 ∧ r ≤ 100 ∧ Q (.int (B p r)) H
theorem pure_most_things (K : PySem.W.Frag) (vs : List V) (H : Hp) (Q : VK) (E : XK) (h : sp_most_things K vs H Q E) : t_most_things K { nx := fun _ H' => Q .non H', rt := Q } (start n_most_things vs) H := by
  obtain ⟨p, r, rfl, hp, hr, q⟩ := h
  show t_most_things K _ [some (.int p), some (.int r), none, none] H
  unfold t_most_things
  walk_at "go"
  refine f_rng1 p rfl (by omega) (fun i σ H' => ∃ w, σ = [some (.int p), some (.int r), some (.int (B i r)), w] ∧ H' = H) ?_ ?_ ?_
  · exact ⟨none, by rw [B0] <;> rfl, rfl⟩
  · rintro i σ H' hi ⟨w, rfl, rfl⟩
    walk_at "go"
    refine r_mul (.inr (by omega)) ?_
    walk_at "go"
    have e : (B i r : Int) * ((r : Int) + (i : Int) + 1) / ((i : Int) + 1) = ((B i r * (r + i + 1) / (i + 1) : Nat) : Int) := by simp
    rw [e, turn i r]
    exact ⟨_, rfl, rfl⟩
  · rintro σ H' ⟨w, rfl, rfl⟩
    walk_at "go"
    exact q

def n__law_whole : List Str := ["value"]
def t__law_whole (K : PySem.W.Frag) : TS :=
  (tRet (tAndT K (tCB (rIsi' K) (tCons (tVar 0) (tCons (tC (.ty "int")) tNil))) (tNotT K (tCB (rIsi' K) (tCons (tVar 0) (tCons (tC (.ty "bool")) tNil))))))
def sp__law_whole (K : PySem.W.Frag) : Sp := fun vs H Q _ => ∃ (n : Int), vs = [.int n] ∧ Q (.bl true) H
theorem pure__law_whole (K : PySem.W.Frag) (vs : List V) (H : Hp) (Q : VK) (E : XK) (h : sp__law_whole K vs H Q E) : t__law_whole K { nx := fun _ H' => Q .non H', rt := Q } (start n__law_whole vs) H := by
  obtain ⟨n, rfl, q⟩ := h
  show t__law_whole K _ [some (.int n)] H
  unfold t__law_whole
  walk_at "go"
  exact q

def t__law_cell (K : PySem.W.Frag) : TS :=
  (tSeq (tIfS (tTest (tOp rLt' (tVar 1) (tCB (rLen' K) (tCons (tVar 0) tNil))))
  (tRet (tOp (rIx' K) (tVar 0) (tVar 1)))
  tNext)
  (tSeq (tAsg (tC (.int 17)) (gName 2))
  (tSeq (tFor (iAny K (tVar 0)) (gName 3)
  (tAsg (tOp rMod' (tCB rInt' (tCons (tOp (rAdd' K) (tOp rMul' (tVar 2) (tC (.int 31))) (tOp rMod' (tCB rInt' (tCons (tVar 3) tNil)) (tC (.int 1000003)))) tNil)) (tC (.int 1000003))) (gName 2)))
  (tRet (tOp rMod' (tCB rInt' (tCons (tOp rMul' (tOp rMul' (tOp (rAdd' K) (tVar 2) (tC (.int 7))) (tOp (rAdd' K) (tVar 1) (tC (.int 3)))) (tC (.int 69621))) tNil)) (tC (.int 2147483647)))))))
def n__law_cell : List Str := ["script", "k", "seed", "cell"]
/-- the k-th number of a script, or one made of all -/
def cellI (ns : List Int) (k : Nat) : Int := match ns[k]? with
  | some v => v
  | none => (ns.foldl (fun s c => (s * 31 + c % 1000003) % 1000003) 17 + 7) * ((k : Int) + 3) * 69621 % 2147483647
def sp__law_cell (K : PySem.W.Frag) : Sp := fun vs H Q _ => ∃ (a : Addr) (ns : List Int) (k : Nat), vs = [.ref a, .int k] ∧ SqL K H a (ns.map V.int) ∧ k ≤ 1000 ∧ Q (.int (cellI ns k)) H
theorem pure__law_cell (K : PySem.W.Frag) (vs : List V) (H : Hp) (Q : VK) (E : XK) (h : sp__law_cell K vs H Q E) : t__law_cell K { nx := fun _ H' => Q .non H', rt := Q } (start n__law_cell vs) H := by
  obtain ⟨a, ns, k, rfl, hS, hk, q⟩ := h
  show t__law_cell K _ [some (.ref a), some (.int k), none, none] H
  unfold t__law_cell
  refine s_seqI ?_
  walk_at "go"
  refine r_len hS ?_
  walk_at "go"
  refine if_dec (fun h => ?_) (fun h => ?_)
  · walk_at "go"
    have hk' : k < ns.length := by rw [List.length_map] at h; omega
    refine r_ixL hS (at_nat rfl (show (ns.map V.int)[k]? = some (.int (cellI ns k)) from ?_)) q
    rw [List.getElem?_map, List.getElem?_eq_getElem hk']
    unfold cellI
    rw [List.getElem?_eq_getElem hk'] <;> rfl
  · have hk' : ns.length ≤ k := by rw [List.length_map] at h; omega
    walk_at "go"
    refine f_list (ns.map V.int) hS (fun i σ H' => ∃ s w, σ = [some (.ref a), some (.int k), some (.int s), w] ∧ H' = H ∧ s = (ns.take i).foldl (fun s c => (s * 31 + c % 1000003) % 1000003) 17 ∧ 0 ≤ s ∧ s < 1000003) ?_ ?_ ?_ ?_
    · exact ⟨17, none, rfl, rfl, rfl, by decide, by decide⟩
    · rintro i σ H' _ ⟨_, _, rfl, rfl, _⟩
      exact hS
    · rintro i x σ H' hi ⟨s, w, rfl, rfl, hs, h0, h1⟩
      obtain ⟨n, hn, rfl⟩ := sq_get hi
      walk_at "go"
      refine r_mul (.inr (by decide)) ?_
      walk_at "go"
      refine ⟨_, _, rfl, rfl, ?_, by omega, by omega⟩
      rw [List.take_add_one, hn, List.foldl_append, ← hs]
      rfl
    · rintro σ H' ⟨s, w, rfl, rfl, hs, h0, h1⟩
      walk_at "go"
      refine r_mul (.inr (by omega)) ?_
      walk_at "go"
      refine r_mul (.inr (by decide)) ?_
      walk_at "go"
      have e : cellI ns k = (s + 7) * ((k : Int) + 3) * 69621 % 2147483647 := by
        unfold cellI
        rw [List.getElem?_eq_none hk']
        rw [List.length_map, List.take_length] at hs
        rw [hs]
      rw [e] at q
      exact q

/-- law(script) -/
def t_law (K : PySem.W.Frag) : TS :=
  (tSeq (tAsg (tOp rMod' (tCB rInt' (tCons (tCallR (sp__law_cell K) E0 (tCons (tVar 0) (tCons (tC (.int 0)) tNil))) tNil)) (tC (.int 1000003))) (gName 1))
  (tSeq (tAsg (tOp (rAdd' K) (tC (.int 1)) (tOp rMod' (tCB rInt' (tCons (tVar 1) tNil)) (tC (.int 20)))) (gName 2))
  (tSeq (tAsg (tOp rMod' (tOp rDiv' (tCB rInt' (tCons (tVar 1) tNil)) (tC (.int 20))) (tC (.int 61))) (gName 3))
  (tSeq (tIfS (tTest (tOp (rEq' K) (tOp rMod' (tCB rInt' (tCons (tCallR (sp__law_cell K) E0 (tCons (tVar 0) (tCons (tC (.int 1)) tNil))) tNil)) (tC (.int 2))) (tC (.int 0))))
  (tSeq (tAsg (tOp (rAdd' K) (tC (.int 1)) (tOp rMod' (tCB rInt' (tCons (tVar 1) tNil)) (tC (.int 4)))) (gName 2))
  (tAsg (tOp rMod' (tOp rDiv' (tCB rInt' (tCons (tVar 1) tNil)) (tC (.int 4))) (tC (.int 6))) (gName 3)))
  tNext)
  (tSeq (tAsg (tLst (tCons (tLc (iRng1 (tCons (tOp (rAdd' K) (tVar 3) (tC (.int 1))) tNil)) (gName 10) tYes (tC (.int 1)) [10]) tNil)) (gName 4))
  (tSeq (tFor (iRng2 (tCons (tC (.int 1)) (tCons (tOp (rAdd' K) (tVar 2) (tC (.int 1))) tNil))) (gName 5)
  (tSeq (tAsg (tLst (tCons (tC (.int 1)) tNil)) (gName 6))
  (tSeq (tFor (iRng2 (tCons (tC (.int 1)) (tCons (tOp (rAdd' K) (tVar 3) (tC (.int 1))) tNil))) (gName 7)
  (tDrop (tBM K "list" rAppend (tVar 6) (tCons (tOp (rAdd' K) (tOp (rIx' K) (tVar 6) (tOp rSub' (tVar 7) (tC (.int 1)))) (tOp (rIx' K) (tOp (rIx' K) (tVar 4) (tOp rSub' (tVar 5) (tC (.int 1)))) (tVar 7))) tNil))))
  (tDrop (tBM K "list" rAppend (tVar 4) (tCons (tVar 6) tNil))))))
  (tSeq (tFor (iRng2 (tCons (tC (.int 1)) (tCons (tOp (rAdd' K) (tVar 2) (tC (.int 1))) tNil))) (gName 5)
  (tFor (iRng1 (tCons (tOp (rAdd' K) (tVar 3) (tC (.int 1))) tNil)) (gName 7)
  (tSeq (tAsg (tCallR (sp_most_things K) E0 (tCons (tVar 5) (tCons (tVar 7) tNil))) (gName 8))
  (tIfS (tOr (tNot (tTru' K (tCallR (sp__law_whole K) E0 (tCons (tVar 8) tNil)))) (tTest (tOp (rNe' K) (tVar 8) (tOp (rIx' K) (tOp (rIx' K) (tVar 4) (tVar 5)) (tVar 7)))))
  (tRet (tC (.bl false)))
  tNext))))
  (tSeq (tAsg (tC (.int 1)) (gName 9))
  (tSeq (tFor (iRng1 (tCons (tVar 2) tNil)) (gName 10)
  (tAsg (tOp rDiv' (tOp rMul' (tVar 9) (tOp (rAdd' K) (tOp (rAdd' K) (tVar 3) (tVar 10)) (tC (.int 1)))) (tOp (rAdd' K) (tVar 10) (tC (.int 1)))) (gName 9)))
  (tRet (tAndT K (tOp (rEq' K) (tCallR (sp_most_things K) E0 (tCons (tVar 2) (tCons (tVar 3) tNil))) (tVar 9)) (tAndT K (tOp (rEq' K) (tCallR (sp_most_things K) E0 (tCons (tC (.int 1)) (tCons (tVar 3) tNil))) (tOp (rAdd' K) (tVar 3) (tC (.int 1)))) (tOp (rEq' K) (tCallR (sp_most_things K) E0 (tCons (tVar 2) (tCons (tC (.int 0)) tNil))) (tC (.int 1)))))))))))))))
def n_law : List Str := ["script", "choice", "places", "rounds", "table", "s", "row", "r", "told", "due", "k"]

def sp_law (K : PySem.W.Frag) : Sp := fun vs H Q _ => ∃ (a : Addr) (ns : List Int), vs = [.ref a] ∧ SqL K H a (ns.map V.int) ∧ ns.length ≤ 63 ∧ ∀ H', Q (.bl true) H'
/-- the row j of the table, k long -/
def rowB (j k : Nat) : List V := (List.range k).map fun i => V.int (B j i)
theorem rowB_len (j k : Nat) : (rowB j k).length = k := by unfold rowB; simp
theorem rowB_get {j k i : Nat} (h : i < k) : (rowB j k)[i]? = some (V.int (B j i)) := by unfold rowB; simp [h]
theorem rowB_succ (j k : Nat) : rowB j (k + 1) = rowB j k ++ [V.int (B j k)] := by unfold rowB; rw [List.range_succ, List.map_append] <;> rfl
/-- the rows of a table -/
structure Rows (T : Addr) (as : List Addr) (k : Nat) (H : Hp) : Prop where
  top : H T = some (.lst (as.map V.ref))
  row : ∀ j b, as[j]? = some b → b ≠ T ∧ H b = some (.lst (rowB j k))
theorem pure_law (K : PySem.W.Frag) (vs : List V) (H : Hp) (Q : VK) (E : XK) (h : sp_law K vs H Q E) : t_law K { nx := fun _ H' => Q .non H', rt := Q } (start n_law vs) H := by
  obtain ⟨a, ns, rfl, hS, hn, q⟩ := h
  show t_law K _ [some (.ref a), none, none, none, none, none, none, none, none, none, none] H
  unfold t_law
  walk_at "go"
  refine ⟨a, ns, 0, rfl, hS, by omega, ?_⟩
  generalize cellI ns 0 = c0
  walk_at "go"
  -- the drawn numbers
  refine s_cut (fun σ H' => ∃ (p r : Nat), 1 ≤ p ∧ p ≤ 20 ∧ r ≤ 60 ∧ σ = [some (.ref a), some (.int (c0 % 1000003)), some (.int p), some (.int r), none, none, none, none, none, none, none]) ?_ ?_
  rotate_left
  · intro N hN
    walk_at "go"
    refine ⟨a, ns, 1, rfl, hS, by omega, ?_⟩
    generalize cellI ns 1 = c1
    walk_at "go"
    refine if_dec (fun _ => ?_) (fun _ => ?_)
    · walk_at "go"
      refine hN _ _ ⟨(1 + c0 % 1000003 % 4).toNat, (c0 % 1000003 / 4 % 6).toNat, by omega, by omega, by omega, ?_⟩
      rw [Int.toNat_of_nonneg (by omega), Int.toNat_of_nonneg (by omega)]
    · walk_at "go"
      refine hN _ _ ⟨(1 + c0 % 1000003 % 20).toNat, (c0 % 1000003 / 20 % 61).toNat, by omega, by omega, by omega, ?_⟩
      rw [Int.toNat_of_nonneg (by omega), Int.toNat_of_nonneg (by omega)]
  rintro σ H1 ⟨p, r, hp0, hp, hr, rfl⟩
  generalize V.int (c0 % 1000003) = vc
  clear hS
  walk_at "go"
  -- the first row
  refine c_rng1 (r + 1) ?e (by omega) (fun D i H' => H' D = some (.lst (rowB 0 i))) (fun D hD => upd_same) ?_ ?_
  case e => omega
  · intro D i H' hi p0
    walk_at "go"
    refine ⟨rfl, ?_⟩
    walk_at "go"
    refine ⟨rowB 0 i, p0, smallL (by rw [rowB_len]; omega), ?_⟩
    rw [rowB_succ, B0]
    exact upd_same
  intro R0 H2 h2
  walk_at "go"
  refine ⟨small (by simp), fun T hT => ?_⟩
  have hRT : R0 ≠ T := ne_of_none h2 hT
  walk_at "go"
  -- the other rows
  refine f_rng2 p (by omega) (by omega) (fun i σ H' => ∃ as w5 w6 w7, as.length = i + 1 ∧ Rows T as (r + 1) H' ∧ σ = [some (.ref a), some vc, some (.int p), some (.int r), some (.ref T), w5, w6, w7, none, none, none]) ?_ ?_ ?_
  · refine ⟨[R0], none, none, none, rfl, ⟨upd_same, ?_⟩, rfl⟩
    intro j b hj
    cases j with
    | zero =>
      obtain rfl : R0 = b := Option.some.inj hj
      exact ⟨hRT, by rw [upd_ne hRT]; exact h2⟩
    | succ j => cases hj
  · rintro i σ H3 hi ⟨as, w5, w6, w7, hl, ⟨h1, h2⟩, rfl⟩
    walk_at "go"
    refine ⟨small (by simp), fun R hR => ?_⟩
    have nT : T ≠ R := ne_of_none h1 hR
    obtain ⟨b, hb⟩ : ∃ b, as[i]? = some b := ⟨as[i], by simp [hl]⟩
    obtain ⟨bT, hb2⟩ := h2 i b hb
    have nb : b ≠ R := ne_of_none hb2 hR
    have hrows : ∀ H' : Hp, H' R = some (.lst (rowB (i + 1) (r + 1))) → (∀ c, c ≠ R → H' c = H3 c) → Rows T (as ++ [R]) (r + 1) (upd H' T (.lst ((as ++ [R]).map V.ref))) := by
      intro H' hR' hk
      refine ⟨upd_same, fun j c hj => ?_⟩
      by_cases hji : j < as.length
      · rw [List.getElem?_append_left hji] at hj
        obtain ⟨cT, hc⟩ := h2 j c hj
        exact ⟨cT, by rw [upd_ne cT, hk c (ne_of_none hc hR)]; exact hc⟩
      · have hj2 : j < (as ++ [R]).length := (List.getElem?_eq_some_iff.mp hj).1
        have : j = as.length := by simp at hj2; omega
        subst this
        rw [List.getElem?_append_right (Nat.le_refl _), Nat.sub_self] at hj
        obtain rfl : R = c := Option.some.inj hj
        refine ⟨nT.symm, ?_⟩
        rw [upd_ne nT.symm, hR', hl]
    walk_at "go"
    refine f_rng2 r (by omega) (by omega) (fun k σ H' => ∃ w7, H' R = some (.lst (rowB (i + 1) (k + 1))) ∧ (∀ c, c ≠ R → H' c = H3 c) ∧ σ = [some (.ref a), some vc, some (.int p), some (.int r), some (.ref T), some (.int (1 + i)), some (.ref R), w7, none, none, none]) ?_ ?_ ?_
    · exact ⟨_, by rw [rowB_succ, Bz]; exact upd_same, fun c hc => upd_ne hc, rfl⟩
    · rintro k σ H4 hk ⟨w7, g1, g2, rfl⟩
      walk_at "go"
      refine r_app g1 ?_
      walk_at "go"
      refine r_ixL (SqL.of g1) (at_nat (show (1 + (k : Int) - 1) = (k : Nat) by omega) (rowB_get (by omega))) ?_
      walk_at "go"
      refine r_ixL (SqL.of ((g2 T nT).trans h1)) (at_nat (show (1 + (i : Int) - 1) = (i : Nat) by omega) (show (as.map V.ref)[i]? = some (.ref b) by rw [List.getElem?_map, hb]; rfl)) ?_
      walk_at "go"
      refine r_ixL (SqL.of ((g2 b nb).trans hb2)) (at_nat (show (1 + (k : Int)) = ((k + 1 : Nat) : Int) by omega) (rowB_get (by omega))) ?_
      walk_at "go"
      refine r_app2 g1 (smallL (by rw [rowB_len]; omega)) ?_
      refine ⟨_, ?_, fun c hc => by rw [upd_ne hc]; exact g2 c hc, rfl⟩
      rw [upd_same, rowB_succ (i + 1) (k + 1), Bs]
      rfl
    · rintro σ H4 ⟨w7, g1, g2, rfl⟩
      walk_at "go"
      refine r_app ((g2 T nT).trans h1) ?_
      walk_at "go"
      refine r_app2 ((g2 T nT).trans h1) (smallL (by rw [List.length_map]; omega)) ?_
      refine ⟨as ++ [R], _, _, _, by simp [hl], ?_, rfl⟩
      have := hrows H4 g1 g2
      rw [List.map_append] at this
      exact this
  rintro σ H3 ⟨as, w5, w6, w7, hl, ⟨h1, h2⟩, rfl⟩
  walk_at "go"
  -- the table and most_things agree
  refine f_rng2 p (by omega) (by omega) (fun i σ H' => ∃ w5 w7 w8, Rows T as (r + 1) H' ∧ σ = [some (.ref a), some vc, some (.int p), some (.int r), some (.ref T), w5, w6, w7, w8, none, none]) ?_ ?_ ?_
  · exact ⟨_, _, _, ⟨h1, h2⟩, rfl⟩
  · rintro i σ H4 hi ⟨w5, w7, w8, ⟨h1, h2⟩, rfl⟩
    walk_at "go"
    refine f_rng1 (r + 1) ?e (by omega) (fun k σ H' => ∃ w7 w8, H' = H4 ∧ σ = [some (.ref a), some vc, some (.int p), some (.int r), some (.ref T), some (.int (1 + i)), w6, w7, w8, none, none]) ?_ ?_ ?_
    case e => omega
    · exact ⟨_, _, rfl, rfl⟩
    · rintro k σ H5 hk ⟨w7, w8, rfl, rfl⟩
      walk_at "go"
      refine ⟨1 + i, k, by simp, by omega, by omega, ?_⟩
      walk_at "go"
      refine ⟨_, rfl, ?_⟩
      walk_at "go"
      obtain ⟨b, hb⟩ : ∃ b, as[1 + i]? = some b := ⟨as[1 + i]'(by omega), List.getElem?_eq_getElem _⟩
      obtain ⟨bT, hb2⟩ := h2 _ b hb
      refine r_ixL (SqL.of h1) (at_nat (show (1 + (i : Int)) = ((1 + i : Nat) : Int) by omega) (show (as.map V.ref)[1 + i]? = some (.ref b) by rw [List.getElem?_map, hb]; rfl)) ?_
      walk_at "go"
      refine r_ixL (SqL.of hb2) (at_nat rfl (rowB_get (by omega))) ?_
      walk_at "go"
      refine if_dec (fun _ => ?_) (fun h => absurd rfl h)
      walk_at "go"
      exact ⟨_, _, rfl, rfl⟩
    · rintro σ H5 ⟨w7, w8, rfl, rfl⟩
      exact ⟨_, _, _, ⟨h1, h2⟩, rfl⟩
  rintro σ H4 ⟨w5, w7, w8, ⟨h1, h2⟩, rfl⟩
  walk_at "go"
  -- the product
  refine f_rng1 p rfl (by omega) (fun i σ H' => ∃ w, σ = [some (.ref a), some vc, some (.int p), some (.int r), some (.ref T), w5, w6, w7, w8, some (.int (B i r)), w]) ?_ ?_ ?_
  · exact ⟨none, by rw [B0] <;> rfl⟩
  · rintro i σ H5 hi ⟨w, rfl⟩
    walk_at "go"
    refine r_mul (.inr (by omega)) ?_
    walk_at "go"
    have e : (B i r : Int) * ((r : Int) + (i : Int) + 1) / ((i : Int) + 1) = ((B i r * (r + i + 1) / (i + 1) : Nat) : Int) := by simp
    rw [e, turn i r]
    exact ⟨_, rfl⟩
  rintro σ H5 ⟨w, rfl⟩
  walk_at "go"
  refine ⟨p, r, rfl, by omega, by omega, ?_⟩
  walk_at "go"
  rw [decide_eq_true rfl]
  walk_at "go"
  refine ⟨1, r, rfl, by omega, by omega, ?_⟩
  walk_at "go"
  rw [one, decide_eq_true (by simp)]
  walk_at "go"
  refine ⟨p, 0, rfl, by omega, by omega, ?_⟩
  walk_at "go"
  rw [Bz, decide_eq_true (by rfl)]
  exact q _
end K70

set_option Elab.async false
set_option linter.all false
set_option maxRecDepth 100000
set_option maxHeartbeats 4000000
namespace K70
open PySem PySem.Spec PyProof.Rows L2 G
theorem len_most_things (K : PySem.W.Frag) (vs : List V) (H : Hp) (Q : VK) (E : XK) (h : sp_most_things K vs H Q E) : vs.length = 2 := by obtain ⟨_, _, rfl, _⟩ := h; rfl
theorem len__law_whole (K : PySem.W.Frag) (vs : List V) (H : Hp) (Q : VK) (E : XK) (h : sp__law_whole K vs H Q E) : vs.length = 1 := by obtain ⟨_, rfl, _⟩ := h; rfl
theorem len__law_cell (K : PySem.W.Frag) (vs : List V) (H : Hp) (Q : VK) (E : XK) (h : sp__law_cell K vs H Q E) : vs.length = 2 := by obtain ⟨_, _, _, rfl, _⟩ := h; rfl
theorem len_law (K : PySem.W.Frag) (vs : List V) (H : Hp) (Q : VK) (E : XK) (h : sp_law K vs H Q E) : vs.length = 1 := by obtain ⟨_, _, rfl, _⟩ := h; rfl
def top (i : Nat) : Stmt := PySem.Challenge.pw_looporpile_k70_binomials.main.body.getD i (.Pass ⟨0, 0, 0, 0⟩)
abbrev s_most_things : Stmt := top 1
theorem sc_most_things : FnScope n_most_things ["places", "rounds"] (defScope s_most_things) := ⟨rfl, rfl, rfl, by decide +kernel, rfl, by decide +kernel, by decide +kernel⟩
abbrev s__law_whole : Stmt := top 3
theorem sc__law_whole : FnScope n__law_whole ["value"] (defScope s__law_whole) := ⟨rfl, rfl, rfl, by decide +kernel, rfl, by decide +kernel, by decide +kernel⟩
abbrev s__law_cell : Stmt := top 4
theorem sc__law_cell : FnScope n__law_cell ["script", "k"] (defScope s__law_cell) := ⟨rfl, rfl, rfl, by decide +kernel, rfl, by decide +kernel, by decide +kernel⟩
abbrev s_law : Stmt := top 5
theorem sc_law : FnScope n_law ["script"] (defScope s_law) := ⟨rfl, rfl, rfl, by decide +kernel, rfl, by decide +kernel, by decide +kernel⟩
structure ModF (K : PySem.W.Frag) (mg : Str → Option Value) : Prop where
  g__law_cell : mg "_law_cell" = some (.ref (He.ga K "_law_cell"))
  g__law_whole : mg "_law_whole" = some (.ref (He.ga K "_law_whole"))
  g_law : mg "law" = some (.ref (He.ga K "law"))
  g_most_things : mg "most_things" = some (.ref (He.ga K "most_things"))
  k__law_cell : PySem.W.keepIn K (.ref (He.ga K "_law_cell")) = true
  k__law_whole : PySem.W.keepIn K (.ref (He.ga K "_law_whole")) = true
  k_law : PySem.W.keepIn K (.ref (He.ga K "law")) = true
  k_most_things : PySem.W.keepIn K (.ref (He.ga K "most_things")) = true
  f_bool : mg "bool" = none
  f_int : mg "int" = none
  f_isinstance : mg "isinstance" = none
  f_len : mg "len" = none
  f_range : mg "range" = none
  d_most_things : ∃ fd, FunD K "most_things" "most_things" (defArgs s_most_things) (defBody s_most_things) (defScope s_most_things) [] [] (He.ga K "most_things") fd
  d__law_whole : ∃ fd, FunD K "_law_whole" "_law_whole" (defArgs s__law_whole) (defBody s__law_whole) (defScope s__law_whole) [] [] (He.ga K "_law_whole") fd
  d__law_cell : ∃ fd, FunD K "_law_cell" "_law_cell" (defArgs s__law_cell) (defBody s__law_cell) (defScope s__law_cell) [] [] (He.ga K "_law_cell") fd
  d_law : ∃ fd, FunD K "law" "law" (defArgs s_law) (defBody s_law) (defScope s_law) [] [] (He.ga K "law") fd
section
variable {P : Program} {w : World} {K : PySem.W.Frag} {mg : Str → Option Value} {base : Heap}
theorem ok_most_things {k : Nat} (Z : ModF K mg) : FnR P w K mg base CX0 (k + 1) (He.ga K "most_things") (sp_most_things K) := by
  obtain ⟨fd, F⟩ := Z.d_most_things
  have b : Binds K fd ["places", "rounds"] [] := F.bindsN fun _ _ _ _ _ _ us hl => match us, hl with | [_, _], _ => rfl
  refine (FnOk.raw (F.ok (CX := CX0) sc_most_things (len_most_things K) fun cdv A outer s H vs Q E hr h => ⟨t_most_things K, PSs.nox ?_, pure_most_things K vs H Q E h⟩) b .nil).imp fun vs H Q E h => (List.append_nil vs).symm ▸ h
  have hu := hr.units
  exact (pss_cons (ps_set (i := 2) sc_most_things.nd rfl (by first | exact .inl rfl | exact .inr rfl) pe_int)
  (pss_cons (ps_for PassesOwn.never rfl (pi_range1 (by rfl) Z.f_range (pa_cons (pv 0) pa_nil)) (pg_name (i := 3) sc_most_things.nd rfl (by first | exact .inl rfl | exact .inr rfl))
  (pss_one (ps_set (i := 2) sc_most_things.nd rfl (by first | exact .inl rfl | exact .inr rfl) (pe_op o_div (pe_op o_mul (pv 2) (pe_op o_add (pe_op o_add (pv 1) (pv 3)) pe_int)) (pe_op o_add (pv 3) pe_int)))))
  (pss_one (ps_ret (pv 2)))))
theorem ok__law_whole {k : Nat} (Z : ModF K mg) : FnR P w K mg base CX0 (k + 1) (He.ga K "_law_whole") (sp__law_whole K) := by
  obtain ⟨fd, F⟩ := Z.d__law_whole
  have b : Binds K fd ["value"] [] := F.bindsN fun _ _ _ _ _ _ us hl => match us, hl with | [_], _ => rfl
  refine (FnOk.raw (F.ok (CX := CX0) sc__law_whole (len__law_whole K) fun cdv A outer s H vs Q E hr h => ⟨t__law_whole K, PSs.nox ?_, pure__law_whole K vs H Q E h⟩) b .nil).imp fun vs H Q E h => (List.append_nil vs).symm ▸ h
  have hu := hr.units
  exact (pss_one (ps_ret (pe_andT (pe_callB c_isi (by rfl) Z.f_isinstance (by decide +kernel) (pa_cons (pv 0) (pa_cons (pe_bltn (by rfl) Z.f_int (by decide +kernel) rfl) pa_nil))) (pe_one (pe_notT (pe_callB c_isi (by rfl) Z.f_isinstance (by decide +kernel) (pa_cons (pv 0) (pa_cons (pe_bltn (by rfl) Z.f_bool (by decide +kernel) rfl) pa_nil))))))))
theorem ok__law_cell {k : Nat} (Z : ModF K mg) : FnR P w K mg base CX0 (k + 1) (He.ga K "_law_cell") (sp__law_cell K) := by
  obtain ⟨fd, F⟩ := Z.d__law_cell
  have b : Binds K fd ["script", "k"] [] := F.bindsN fun _ _ _ _ _ _ us hl => match us, hl with | [_, _], _ => rfl
  refine (FnOk.raw (F.ok (CX := CX0) sc__law_cell (len__law_cell K) fun cdv A outer s H vs Q E hr h => ⟨t__law_cell K, PSs.nox ?_, pure__law_cell K vs H Q E h⟩) b .nil).imp fun vs H Q E h => (List.append_nil vs).symm ▸ h
  have hu := hr.units
  exact (pss_cons (ps_if (pt_cmpR o_lt (pv 1) (pe_callB c_len (by rfl) Z.f_len (by decide +kernel) (pa_cons (pv 0) pa_nil)) (nomark _))
  (pss_one (ps_ret (pe_ix (o_ix hu) (pv 0) (pv 1) (fun _ _ => rfl))))
  pss_nil)
  (pss_cons (ps_set (i := 2) sc__law_cell.nd rfl (by first | exact .inl rfl | exact .inr rfl) pe_int)
  (pss_cons (ps_for PassesOwn.never rfl (pi_any (pv 0)) (pg_name (i := 3) sc__law_cell.nd rfl (by first | exact .inl rfl | exact .inr rfl))
  (pss_one (ps_set (i := 2) sc__law_cell.nd rfl (by first | exact .inl rfl | exact .inr rfl) (pe_op o_mod (pe_callTy c_int (by rfl) Z.f_int (by decide +kernel) (pa_cons (pe_op o_add (pe_op o_mul (pv 2) pe_int) (pe_op o_mod (pe_callTy c_int (by rfl) Z.f_int (by decide +kernel) (pa_cons (pv 3) pa_nil)) pe_int)) pa_nil)) pe_int))))
  (pss_one (ps_ret (pe_op o_mod (pe_callTy c_int (by rfl) Z.f_int (by decide +kernel) (pa_cons (pe_op o_mul (pe_op o_mul (pe_op o_add (pv 2) pe_int) (pe_op o_add (pv 1) pe_int)) pe_int) pa_nil)) pe_int))))))
theorem okl_law {k : Nat} {fd : FuncData} (F : FunD K "law" "law" (defArgs s_law) (defBody s_law) (defScope s_law) [] [] (He.ga K "law") fd) (Z : ModF K mg) (c__law_cell : FnR P w K mg base CX0 k (He.ga K "_law_cell") (sp__law_cell K)) (c__law_whole : FnR P w K mg base CX0 k (He.ga K "_law_whole") (sp__law_whole K)) (c_most_things : FnR P w K mg base CX0 k (He.ga K "most_things") (sp_most_things K)) : FnOk P w K mg base CX0 (k + 1) (He.ga K "law") fd ["script"] (sp_law K) := by
  refine F.ok (CX := CX0) sc_law (len_law K) fun cdv A outer s H vs Q E hr h => ⟨t_law K, PSs.nox ?_, pure_law K vs H Q E h⟩
  have hu := hr.units
  exact (pss_cons (ps_set (i := 1) sc_law.nd rfl (by first | exact .inl rfl | exact .inr rfl) (pe_op o_mod (pe_callTy c_int (by rfl) Z.f_int (by decide +kernel) (pa_cons (pe_callR c__law_cell (hr.mono (Nat.le_refl _)) (by rfl) Z.g__law_cell Z.k__law_cell pass0 (pa_cons (pv 0) (pa_cons pe_int pa_nil))) pa_nil)) pe_int))
  (pss_cons (ps_set (i := 2) sc_law.nd rfl (by first | exact .inl rfl | exact .inr rfl) (pe_op o_add pe_int (pe_op o_mod (pe_callTy c_int (by rfl) Z.f_int (by decide +kernel) (pa_cons (pv 1) pa_nil)) pe_int)))
  (pss_cons (ps_set (i := 3) sc_law.nd rfl (by first | exact .inl rfl | exact .inr rfl) (pe_op o_mod (pe_op o_div (pe_callTy c_int (by rfl) Z.f_int (by decide +kernel) (pa_cons (pv 1) pa_nil)) pe_int) pe_int))
  (pss_cons (ps_if (pt_cmpR (o_eq hu) (pe_op o_mod (pe_callTy c_int (by rfl) Z.f_int (by decide +kernel) (pa_cons (pe_callR c__law_cell (hr.mono (Nat.le_refl _)) (by rfl) Z.g__law_cell Z.k__law_cell pass0 (pa_cons (pv 0) (pa_cons pe_int pa_nil))) pa_nil)) pe_int) pe_int (nomark _))
  (pss_cons (ps_set (i := 2) sc_law.nd rfl (by first | exact .inl rfl | exact .inr rfl) (pe_op o_add pe_int (pe_op o_mod (pe_callTy c_int (by rfl) Z.f_int (by decide +kernel) (pa_cons (pv 1) pa_nil)) pe_int)))
  (pss_one (ps_set (i := 3) sc_law.nd rfl (by first | exact .inl rfl | exact .inr rfl) (pe_op o_mod (pe_op o_div (pe_callTy c_int (by rfl) Z.f_int (by decide +kernel) (pa_cons (pv 1) pa_nil)) pe_int) pe_int))))
  pss_nil)
  (pss_cons (ps_set (i := 4) sc_law.nd rfl (by first | exact .inl rfl | exact .inr rfl) (pe_lst (pa_cons (pe_lc (own := [("k", 10)]) rfl sc_law.nd (pi_range1 (by rfl) Z.f_range (pa_cons (pe_op o_add (pv 3) pe_int) pa_nil)) (blkOk_by (N := n_law) (sc := defScope s_law) (own := [("k", 10)]) (by decide +kernel)) (fun _ _ _ _ _ => (pg_name (i := 10) sc_law.nd rfl (by first | exact .inl rfl | exact .inr rfl))) (fun _ _ _ _ _ => pts_nil) (fun _ _ _ _ _ => pe_int)) pa_nil)))
  (pss_cons (ps_for PassesOwn.never rfl (pi_range2 (by rfl) Z.f_range (pa_cons pe_int (pa_cons (pe_op o_add (pv 2) pe_int) pa_nil))) (pg_name (i := 5) sc_law.nd rfl (by first | exact .inl rfl | exact .inr rfl))
  (pss_cons (ps_set (i := 6) sc_law.nd rfl (by first | exact .inl rfl | exact .inr rfl) (pe_lst (pa_cons pe_int pa_nil)))
  (pss_cons (ps_for PassesOwn.never rfl (pi_range2 (by rfl) Z.f_range (pa_cons pe_int (pa_cons (pe_op o_add (pv 3) pe_int) pa_nil))) (pg_name (i := 7) sc_law.nd rfl (by first | exact .inl rfl | exact .inr rfl))
  (pss_one (ps_expr (pe_bm PySem.F.plainAttrs_list PySem.F.slot_list_append PySem.F.type_list_append mt_append (pv 6) (pa_cons (pe_op o_add (pe_ix (o_ix hu) (pv 6) (pe_op o_sub (pv 7) pe_int) (fun _ _ => rfl)) (pe_ix (o_ix hu) (pe_ix (o_ix hu) (pv 4) (pe_op o_sub (pv 5) pe_int) (fun _ _ => rfl)) (pv 7) (fun _ _ => rfl))) pa_nil)))))
  (pss_one (ps_expr (pe_bm PySem.F.plainAttrs_list PySem.F.slot_list_append PySem.F.type_list_append mt_append (pv 4) (pa_cons (pv 6) pa_nil)))))))
  (pss_cons (ps_for PassesOwn.never rfl (pi_range2 (by rfl) Z.f_range (pa_cons pe_int (pa_cons (pe_op o_add (pv 2) pe_int) pa_nil))) (pg_name (i := 5) sc_law.nd rfl (by first | exact .inl rfl | exact .inr rfl))
  (pss_one (ps_for PassesOwn.never rfl (pi_range1 (by rfl) Z.f_range (pa_cons (pe_op o_add (pv 3) pe_int) pa_nil)) (pg_name (i := 7) sc_law.nd rfl (by first | exact .inl rfl | exact .inr rfl))
  (pss_cons (ps_set (i := 8) sc_law.nd rfl (by first | exact .inl rfl | exact .inr rfl) (pe_callR c_most_things (hr.mono (Nat.le_refl _)) (by rfl) Z.g_most_things Z.k_most_things pass0 (pa_cons (pv 5) (pa_cons (pv 7) pa_nil))))
  (pss_one (ps_if (PW.pt (pw_or (pt_not (pt_truth (pe_callR c__law_whole (hr.mono (Nat.le_refl _)) (by rfl) Z.g__law_whole Z.k__law_whole pass0 (pa_cons (pv 8) pa_nil)) (by intro _; rfl))) (pw_or1 (pt_cmpR (o_ne hu) (pv 8) (pe_ix (o_ix hu) (pe_ix (o_ix hu) (pv 4) (pv 5) (fun _ _ => rfl)) (pv 7) (fun _ _ => rfl)) (nomark _)))))
  (pss_one (ps_ret pe_bl))
  pss_nil))))))
  (pss_cons (ps_set (i := 9) sc_law.nd rfl (by first | exact .inl rfl | exact .inr rfl) pe_int)
  (pss_cons (ps_for PassesOwn.never rfl (pi_range1 (by rfl) Z.f_range (pa_cons (pv 2) pa_nil)) (pg_name (i := 10) sc_law.nd rfl (by first | exact .inl rfl | exact .inr rfl))
  (pss_one (ps_set (i := 9) sc_law.nd rfl (by first | exact .inl rfl | exact .inr rfl) (pe_op o_div (pe_op o_mul (pv 9) (pe_op o_add (pe_op o_add (pv 3) (pv 10)) pe_int)) (pe_op o_add (pv 10) pe_int)))))
  (pss_one (ps_ret (pe_andT (pe_cmpR (o_eq hu) (pe_callR c_most_things (hr.mono (Nat.le_refl _)) (by rfl) Z.g_most_things Z.k_most_things pass0 (pa_cons (pv 2) (pa_cons (pv 3) pa_nil))) (pv 9) (nomark _)) (pe_andT (pe_cmpR (o_eq hu) (pe_callR c_most_things (hr.mono (Nat.le_refl _)) (by rfl) Z.g_most_things Z.k_most_things pass0 (pa_cons pe_int (pa_cons (pv 3) pa_nil))) (pe_op o_add (pv 3) pe_int) (nomark _)) (pe_one (pe_cmpR (o_eq hu) (pe_callR c_most_things (hr.mono (Nat.le_refl _)) (by rfl) Z.g_most_things Z.k_most_things pass0 (pa_cons (pv 2) (pa_cons pe_int pa_nil))) pe_int (nomark _))))))))))))))))
end
def d0 : He.DefD := ⟨("most_things", none), "most_things", "most_things", defArgs s_most_things, defBody s_most_things, defScope s_most_things, [], []⟩
def d1 : He.DefD := ⟨("_law_whole", none), "_law_whole", "_law_whole", defArgs s__law_whole, defBody s__law_whole, defScope s__law_whole, [], []⟩
def d2 : He.DefD := ⟨("_law_cell", none), "_law_cell", "_law_cell", defArgs s__law_cell, defBody s__law_cell, defScope s__law_cell, [], []⟩
def d3 : He.DefD := ⟨("law", none), "law", "law", defArgs s_law, defBody s_law, defScope s_law, [], []⟩
def fn : List He.DefD := [d0, d1, d2, d3]
def fa : List He.Fa := [.glo "_law_cell", .glo "_law_whole", .glo "law", .glo "most_things", .keep "_law_cell", .keep "_law_whole", .keep "law", .keep "most_things", .free "bool", .free "int", .free "isinstance", .free "len", .free "range"]
theorem modF {K : PySem.W.Frag} {h : Heap} {mg : Str → Option Value} (X : K.In h) (G : h.Ns mainGlobals mg) (c : He.SaysD fa fn K) : ModF K mg where
  g__law_cell := He.glo_ok X G (c.fact 0 (f := .glo "_law_cell") rfl)
  g__law_whole := He.glo_ok X G (c.fact 1 (f := .glo "_law_whole") rfl)
  g_law := He.glo_ok X G (c.fact 2 (f := .glo "law") rfl)
  g_most_things := He.glo_ok X G (c.fact 3 (f := .glo "most_things") rfl)
  k__law_cell := He.keep_ok (c.fact 4 (f := .keep "_law_cell") rfl)
  k__law_whole := He.keep_ok (c.fact 5 (f := .keep "_law_whole") rfl)
  k_law := He.keep_ok (c.fact 6 (f := .keep "law") rfl)
  k_most_things := He.keep_ok (c.fact 7 (f := .keep "most_things") rfl)
  f_bool := He.free_ok X G (c.fact 8 (f := .free "bool") rfl)
  f_int := He.free_ok X G (c.fact 9 (f := .free "int") rfl)
  f_isinstance := He.free_ok X G (c.fact 10 (f := .free "isinstance") rfl)
  f_len := He.free_ok X G (c.fact 11 (f := .free "len") rfl)
  f_range := He.free_ok X G (c.fact 12 (f := .free "range") rfl)
  d_most_things := c.def_ 0 (d := d0) rfl
  d__law_whole := c.def_ 1 (d := d1) rfl
  d__law_cell := c.def_ 2 (d := d2) rfl
  d_law := c.def_ 3 (d := d3) rfl
abbrev R : PySem.W.OpenRow := PySem.W.OpenLaw.row PySem.Challenge.rw_looporpile_k70_binomials
abbrev hk : PySem.W.Hook := He.hookD 4 fa fn
def ob (s : PySem.W.SharedT) : He.AlD := He.obsDG 4 fa fn (HandSHeadRun.getT s)
theorem ob_eq (s : PySem.W.SharedT) : ob s = hk.obs s.abs := He.obsDG_eq (HandSHeadRun.getT_eq s)
theorem run (w : World) : HandSHeadRun.RunEq R (PySem.W.view R.prog [5]) hk ob 600 ["most_things", "_law_whole", "_law_cell"] w := by
  intro os
  kernel_rfl
theorem facts {P : Program} {w : World} {K : PySem.W.Frag} {h : Heap} {mg : Str → Option Value} {f : Addr} (X : K.In h) (G : h.Ns mainGlobals mg) (hfa : mg ("law" : Str) = some (.ref f)) (c : He.SaysD fa fn K) :
    ∃ fd : FuncData, (∀ (s : Shared) (v : Value), BindsTo s fd ⟨[v], []⟩ [("script", v)]) ∧ ∀ base : Heap, K.In base → base.Ns mainGlobals mg → FnOk P w K mg base CX0 2 f fd ["script"] (sp_law K) := by
  have Z := modF X G c
  obtain ⟨fd, F⟩ := Z.d_law
  have e := hfa.symm.trans Z.g_law
  cases e
  have b := FunD.bindsA (ps := ["script"]) F fun _ _ _ _ _ _ us hl => match us, hl with | [_], _ => rfl
  exact ⟨fd, fun s v => b s [v] rfl, fun base _ _ => okl_law F Z (ok__law_cell Z) (ok__law_whole Z) (ok_most_things Z)⟩
end K70
open PySem PySem.W PySem.Calls PyProof.Rows
theorem PySem.Challenge.cw_looporpile_k70_binomials_holds : PySem.Challenge.rw_looporpile_k70_binomials.Holds := by
  w_on; o_law
  refine HandSHeadRun.head_any (r := OpenLaw.row PySem.Challenge.rw_looporpile_k70_binomials) (q := view (OpenLaw.row PySem.Challenge.rw_looporpile_k70_binomials).prog [5]) (H := K70.hk) (ob := K70.ob) (M := 600) (loose := ["most_things", "_law_whole", "_law_cell"]) (d := HandSHeadRun.topDef (OpenLaw.row PySem.Challenge.rw_looporpile_k70_binomials).prog 5) (kwd := []) K70.ob_eq
    (by kernel_rfl) (fun s => by kernel_rfl) K70.run (by kernel_rfl) (by kernel_rfl) (by kernel_rfl) (by rfl) (by first | assumption | decide +kernel) (by decide +kernel) ⟨rfl, rfl, rfl, rfl, rfl, by decide +kernel⟩ ?hw ?hc
  case hw => w_witness2
  case hc =>
    refine L2.walk_ofE (l := PySem.Challenge.rw_looporpile_k70_binomials) (n := 63) (k := 2) (x := "script") (CX := L2.CX0) rfl (by decide) (by kernel_rfl) ⟨rfl, by decide, by decide⟩ ?F (fun _ _ _ _ z => z)
    intro w mg fa h Y G hmg0
    obtain ⟨K, KX, c⟩ := Y
    have hmg : mg ("law" : PySem.Str) = some (.ref fa) := by
      have e : (HandSHeadRun.topDef (OpenLaw.row PySem.Challenge.rw_looporpile_k70_binomials).prog 5).name = ("law" : PySem.Str) := by kernel_rfl
      rw [← e]
      exact hmg0
    obtain ⟨fd, hb, hF⟩ := K70.facts (P := (PySem.Challenge.rw_looporpile_k70_binomials).prog) (w := w) KX G hmg c
    exact ⟨K, fd, K70.sp_law K, KX, hb, fun H a ns hl _ hS => ⟨a, ns, rfl, hS, hl, fun _ => rfl⟩, hF⟩
#print axioms PySem.Challenge.cw_looporpile_k70_binomials_holds

