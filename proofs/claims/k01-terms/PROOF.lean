import PyProof.Rows.All
import Wide.All
import OpenK.AllK
import Wide.FinOn
import KE.KStateDown
import Lean
import HandS.ForMost
import HandS.ForExc
import HandS.More
import HandS.Star
import HandS.IsInst
import HandS.Conv
import HandS.Flow
import HandS.Defaults
import HandS.Walk
import HandS.Head0
import HandS.Head1
import HandS.Head2
import HandS.HeadEnd
import HandS.HeadHook1
import HandS.HeadHook2
import HandS.TupAny
import HandS.TupLe
import HandS.Small
import HandS.ExcIs
import HandS.TryOnly
import HandS.Zip
import HandS.Deep
import HandS.Steps
import HandS.Rev
import HandS.WordsExc
import HandS.ExcInit
import KE.KDictKeyed
import KE.KDictDisplayH
import HandS.DictComp
import HandS.FStr
import HandS.StrMore
import KE.SortData
import HandS.SortKw
import KE.SortKeyHeap
import KE.GoesZip
import KE.GoesMore
import KE.GoesEnum
import PyProof.StrBlock
import PySem.Challenge.RW_looporpile_k01_terms
set_option Elab.async false
set_option linter.all false
set_option maxRecDepth 10000000
set_option maxHeartbeats 4000000
/-! Lay: my own layer over HandS: rules by positional promises, operators for all kinds of values, a ledger of objects. -/
namespace G
open PySem PySem.Spec PyProof.Rows L2

/-! ### calls -/
def tCallR (sp : Sp) (E : XK) (t : TA) : TE := fun σ H Q => t σ H fun vs H1 => sp vs H1 Q E
section
variable {X : Cx} {CX : CXT} {k : Nat} {f C : Addr} {sp : Sp} {E : XK} {x m : Str} {e o : Expr} {es : List Expr} {te ta : TE} {t : TA} {p pos apos : Pos}
theorem pe_callR (F : FnR X.prog X.w X.K X.mg X.base CX k f sp) (hr : Room k X.A) (hg : Gl X x) (hm : X.mg x = some (.ref f)) (hk : PySem.W.keepIn X.K (.ref f) = true) (hx : Passes CX X E)
    (ha : PA X (e :: es) t) (hdb : (x == ("__debug__" : Str)) = false := by decide) (he : starEach (e :: es) X.env = (false, eval e X.env) :: starEach es X.env := by rfl) (hpl : (backTo pos (starEach es X.env)).any (·.1) = false := by rfl) :
    PE X (.Call (.Name x p) (e :: es) [] pos) (tCallR sp E t) := by
  refine ⟨fun pins s σ H Q I h => ?_⟩
  refine wpAny_Call_Name_kw (ld_glob I hg hm ?_ hdb)
  refine PySem.W.callWith_K (h₀ := X.base) I.ok.mod.kin hk (thn (ha.run pos pins s σ H _ I h) fun us s1 ⟨vs, H1, I1, r, q⟩ => ⟨I1.kIn, ?_⟩) he hpl
  exact wpAny_call (run_fnR F hr hx I1 r q)
/-- two readings of one expression -/
theorem PE.or {t t' : TE} (h : PE X e t) (h' : PE X e t') : PE X e (fun σ H Q => t σ H Q ∨ t' σ H Q) :=
  ⟨fun pins s σ H Q I q => q.elim (fun q => h.run pins s σ H Q I q) fun q => h'.run pins s σ H Q I q⟩
theorem PE.imp {t t' : TE} (h : PE X e t) (hi : ∀ σ H Q, t' σ H Q → t σ H Q) : PE X e t' := ⟨fun pins s σ H Q I q => h.run pins s σ H Q I (hi σ H Q q)⟩
theorem PT.imp {t t' : TT} (h : PT X e t) (hi : ∀ σ H Q, t' σ H Q → t σ H Q) : PT X e t' := ⟨fun pins s σ H Q I q => h.run pins s σ H Q I (hi σ H Q q)⟩
theorem OpR.imp {f : Value → Value → Sem Value} {r r' : R2} (h : OpR X f r) (hi : ∀ x y H Q, r' x y H Q → r x y H Q) : OpR X f r' :=
  fun pins s σ H x y v u Q I r1 r2 q => h pins s σ H x y v u Q I r1 r2 (hi _ _ _ _ q)
theorem CallR.imp {f : Value} {r r' : List V → Hp → VK → Prop} (h : CallR X f r) (hi : ∀ x H Q, r' x H Q → r x H Q) : CallR X f r' :=
  fun pins s σ H xs us Q I r1 q => h pins s σ H xs us Q I r1 (hi _ _ _ q)
end

/-! ### operators -/
def rAdd' (K : PySem.W.Frag) : R2
  | .int i, .int j, H, Q => Q (.int (i + j)) H
  | .str i, .str j, H, Q => i.length + j.length ≤ sizeLine ∧ Q (.str (i ++ j)) H
  | .ref a, .ref b, H, Q => (∃ xs zs, Rd H a (.lst xs) ∧ Rd H b (.lst zs) ∧ xs.length + zs.length ≤ sizeLine ∧ ∀ p, H p = none → Q (.ref p) (upd H p (.lst (xs ++ zs)))) ∨ rCatT K (.ref a) (.ref b) H Q
  | _, _, _, _ => False
def rSub' : R2
  | .int i, .int j, H, Q => Q (.int (i - j)) H
  | _, _, _, _ => False
/-- one factor within 2^64 -/
def rMul' : R2
  | .int i, .int j, H, Q => CMul i j ∧ Q (.int (i * j)) H
  | .str x, .int j, H, Q => MulOk x j ∧ Q (.str (Txt.mul x j)) H
  | _, _, _, _ => False
def rDiv' : R2
  | .int i, .int j, H, Q => (0 < j ∧ j < 1073741824) ∧ Q (.int (i / j)) H
  | _, _, _, _ => False
def rMod' : R2
  | .int i, .int j, H, Q => 0 < j ∧ Q (.int (i % j)) H
  | _, _, _, _ => False
def rPow' : R2
  | .int i, .int j, H, Q => CPow i j ∧ Q (.int (i ^ j.toNat)) H
  | _, _, _, _ => False
def rLt' : R2
  | .int i, .int j, H, Q => Q (.bl (decide (i < j))) H
  | .str i, .str j, H, Q => Q (.bl (decide (i.cps.toList < j.cps.toList))) H
  | _, _, _, _ => False
def rLe' : R2
  | .int i, .int j, H, Q => Q (.bl (decide (i ≤ j))) H
  | _, _, _, _ => False
def rGt' : R2
  | .int i, .int j, H, Q => Q (.bl (decide (j < i))) H
  | _, _, _, _ => False
def rGe' : R2
  | .int i, .int j, H, Q => Q (.bl (decide (j ≤ i))) H
  | _, _, _, _ => False
section
variable {X : Cx}
theorem op_catR : OpR X (binaryOp .Add) (fun x y H Q => ∃ l b xs zs, x = .ref l ∧ y = .ref b ∧ Rd H l (.lst xs) ∧ Rd H b (.lst zs) ∧ xs.length + zs.length ≤ sizeLine ∧ ∀ p, H p = none → Q (.ref p) (upd H p (.lst (xs ++ zs)))) := by
  intro pins s σ H x y v u Q I rx ry h
  obtain ⟨l, b, xs, zs, rfl, rfl, hH, hB, hz, q⟩ := h
  cases rx
  cases ry
  obtain ⟨z, its, n, r, e⟩ := hH.ok I.hok
  obtain ⟨z2, its2, n2, r2, e2⟩ := hB.ok I.hok
  have hl := r.length
  have hl2 := r2.length
  refine PySem.P.add_list e e2 ?_ (by rw [List.size_toArray, List.size_toArray]; omega)
  have ea : its.toArray ++ its2.toArray = (its ++ its2).toArray := by simp
  rw [ea]
  exact ⟨.ref _, _, I.lnew (t' := s.toks) (r.append r2) (by rw [List.length_append]; omega), rfl, q _ I.fresh⟩
theorem o_add : OpR X (binaryOp .Add) (rAdd' X.K) := by
  refine OpR.imp (OpR.or op_add (OpR.or op_add_str (OpR.or op_catR op_catT))) fun x y H Q h => ?_
  cases x <;> cases y <;> first
    | exact h.elim
    | exact .inl ⟨_, _, rfl, rfl, h⟩
    | exact .inr (.inl ⟨_, _, rfl, rfl, h.1, h.2⟩)
    | skip
  rcases h with ⟨xs, zs, h1, h2, h3, h4⟩ | h
  · exact .inr (.inr (.inl ⟨_, _, xs, zs, rfl, rfl, h1, h2, h3, h4⟩))
  · exact .inr (.inr (.inr h))
theorem o_sub : OpR X (binaryOp .Sub) rSub' := OpR.imp op_sub fun x y H Q h => by
  cases x <;> cases y <;> first | exact h.elim | exact ⟨_, _, rfl, rfl, h⟩
theorem o_mulS : OpR X (binaryOp .Mult) (fun x y H Q => ∃ z j, x = .str z ∧ y = .int j ∧ MulOk z j ∧ Q (.str (Txt.mul z j)) H) := by
  intro pins s σ H x y v u Q I rx ry h
  obtain ⟨z, j, rfl, rfl, hok, q⟩ := h
  obtain ⟨t, rfl⟩ := rx
  obtain ⟨t2, rfl⟩ := ry
  exact PySem.SB.mul hok fun t' k => ⟨.str _, H, I.tok _, ⟨t', rfl⟩, q⟩
theorem o_mul : OpR X (binaryOp .Mult) rMul' := OpR.imp (OpR.or op_mul o_mulS) fun x y H Q h => by
  cases x <;> cases y <;> first | exact h.elim | exact .inl ⟨_, _, rfl, rfl, h⟩ | exact .inr ⟨_, _, rfl, rfl, h.1, h.2⟩
theorem o_div : OpR X (binaryOp .FloorDiv) rDiv' := OpR.imp op_fdiv fun x y H Q h => by
  cases x <;> cases y <;> first | exact h.elim | exact ⟨_, _, rfl, rfl, h⟩
theorem o_mod : OpR X (binaryOp .Mod) rMod' := OpR.imp op_mod fun x y H Q h => by
  cases x <;> cases y <;> first | exact h.elim | exact ⟨_, _, rfl, rfl, h⟩
theorem o_pow : OpR X (binaryOp .Pow) rPow' := OpR.imp op_pow fun x y H Q h => by
  cases x <;> cases y <;> first | exact h.elim | exact ⟨_, _, rfl, rfl, h⟩
theorem o_lt : OpR X (compareOp .Lt) rLt' := OpR.imp (OpR.or op_lt op_lt_str) fun x y H Q h => by
  cases x <;> cases y <;> first | exact h.elim | exact .inl ⟨_, _, rfl, rfl, h⟩ | exact .inr ⟨_, _, rfl, rfl, h⟩
theorem o_le : OpR X (compareOp .LtE) rLe' := OpR.imp op_le fun x y H Q h => by
  cases x <;> cases y <;> first | exact h.elim | exact ⟨_, _, rfl, rfl, h⟩
theorem o_gt : OpR X (compareOp .Gt) rGt' := OpR.imp op_gt fun x y H Q h => by
  cases x <;> cases y <;> first | exact h.elim | exact ⟨_, _, rfl, rfl, h⟩
theorem o_ge : OpR X (compareOp .GtE) rGe' := OpR.imp op_ge fun x y H Q h => by
  cases x <;> cases y <;> first | exact h.elim | exact ⟨_, _, rfl, rfl, h⟩
end

/-! ### truth, equality, subscripts -/
def tTru' (K : PySem.W.Frag) (te : TE) : TT := fun σ H Q => te σ H fun x H' => ∃ k, TruV K x H' k ∧ Q k H'
def rNeg' : V → Hp → VK → Prop
  | .int i, H, Q => Q (.int (-i)) H
  | _, _, _ => False
def rEq' (K : PySem.W.Frag) : R2 := fun x y H Q => (scal x y = true ∧ Q (.bl (decide (x = y))) H) ∨ rEqD K x y H Q
def rNe' (K : PySem.W.Frag) : R2 := fun x y H Q => (scal x y = true ∧ Q (.bl (!decide (x = y))) H) ∨ rNeD K x y H Q
def rIx' (K : PySem.W.Frag) : R2 := fun x y H Q => rIxL K x y H Q ∨ rIxT K x y H Q ∨ rIxS x y H Q ∨ ∃ a v, x = .ref a ∧ DGet H a y (some v) ∧ Q v H
def rInt' : List V → Hp → VK → Prop
  | [.int i], H, Q => Q (.int i) H
  | _, _, _ => False
def rLen' (K : PySem.W.Frag) : List V → Hp → VK → Prop
  | [.ref p], H, Q => (∃ ys, (SqL K H p ys ∨ SqT K H p ys) ∧ Q (.int ys.length) H)
  | [.str z], H, Q => z.length ≤ sizeLine ∧ Q (.int z.length) H
  | _, _, _ => False
def rIsi' (K : PySem.W.Frag) : List V → Hp → VK → Prop := fun xs H Q => rIsi K xs H Q ∨ rIsiT K xs H Q ∨ rIsiK K xs H Q
section
variable {X : Cx} {a b e : Expr} {te : TE} {pos : Pos}
theorem o_neg : UnR X (unaryOp .USub) rNeg' := fun pins s σ H x v Q I r h => by
  cases x <;> first | exact h.elim | exact un_neg pins s σ H _ v Q I r ⟨_, rfl, h⟩
theorem o_eq (hu : X.A.units + 64 < cLine) : OpR X (compareOp .Eq) (rEq' X.K) := OpR.or op_eq (op_eqD hu)
theorem o_ne (hu : X.A.units + 64 < cLine) : OpR X (compareOp .NotEq) (rNe' X.K) := OpR.or op_ne (op_neD hu)
theorem ix_dict (hu : X.A.units + 64 < cLine) : IxR X (fun x y H Q => ∃ a v, x = .ref a ∧ DGet H a y (some v) ∧ Q v H) := by
  intro value slice pins s σ H x y v u Q I rx ry q hs
  obtain ⟨a, z, rfl, g, q⟩ := q
  obtain rfl : v = Value.ref a := rx
  exact tail_any (dict_typeIs I g) PySem.F.slot_dict_getitem.lookup (d_getItem (by omega) I g ry fun w' s' I' r' => ⟨z, H, I', r', q⟩) hs
theorem o_ix (hu : X.A.units + 64 < cLine) : IxR X (rIx' X.K) := ix_list.or (ix_tup.or (ix_str.or (ix_dict hu)))
theorem c_int : CallR X (.type "int") rInt' := CallR.imp call_int1 fun xs H Q h => by
  match xs, h with
  | [.int i], h => exact .inl ⟨i, rfl, h⟩
theorem c_len : CallR X (.builtin "len") (rLen' X.K) := CallR.imp (CallR.or call_len_seq call_len_str) fun xs H Q h => by
  match xs, h with
  | [.ref p], ⟨ys, h, q⟩ => exact .inl ⟨p, ys, rfl, h, q⟩
  | [.str z], ⟨h, q⟩ => exact .inr ⟨z, rfl, h, q⟩
theorem c_isi : CallR X (.builtin "isinstance") (rIsi' X.K) := CallR.or call_isi (CallR.or call_isiT call_isiK)
end
/-! ### iterables -/
def iAny (K : PySem.W.Frag) (te : TE) : TI := fun σ H R => te σ H fun x H1 => (∃ a, x = .ref a ∧ (∃ xs, SqL K H1 a xs) ∧ R (Itl K a) H1) ∨ (∃ a, x = .ref a ∧ (∃ xs, SqT K H1 a xs) ∧ R (Itt K a) H1) ∨ (∃ z, x = .str z ∧ R (Its z) H1)
section
variable {X : Cx} {tg e : Expr} {te : TE}
/-- by the value that has come -/
theorem pi_any (he : PE X e te) : PI X tg e (iAny X.K te) := by
  refine ⟨fun pins s σ H R I h => ?_⟩
  refine thn (he.run pins s σ H _ I h) fun v s1 ⟨x, H1, I1, r1, q1⟩ => ?_
  rcases q1 with ⟨a, rfl, ⟨xs, hq⟩, q⟩ | ⟨a, rfl, ⟨xs, hq⟩, q⟩ | ⟨z, rfl, q⟩
  · obtain rfl : v = Value.ref a := r1
    obtain ⟨its, _, p, _⟩ := I1.list hq
    exact wpAny_pyIter_list p.isList (pi_one (tk := s1.toks) I1 _ (turn_list a _) ⟨_, Heap.get?_push_size _ rfl, rfl, rfl⟩ q)
  · obtain rfl : v = Value.ref a := r1
    obtain ⟨its, _, p, _⟩ := I1.tuple hq
    exact wpAny_pyIter_tuple (show s1.heap.IsTuple a its.toArray from p) (pi_one (tk := s1.toks) I1 _ (turn_tuple a _) ⟨_, Heap.get?_push_size _ rfl, rfl, rfl⟩ q)
  · obtain ⟨t, rfl⟩ := r1
    by_cases ha : z.cps.all (· < 128) = true
    · exact wpAny_pyIter_ascii ha (pi_one (tk := s1.toks) I1 _ (turn_str _ z t "str_ascii_iterator" (Or.inl rfl)) ⟨_, Heap.get?_push_size _ rfl, rfl, rfl⟩ q)
    · exact wpAny_pyIter_wide (by simpa using ha) (pi_one (tk := s1.toks) I1 _ (turn_str _ z t "str_iterator" (Or.inr rfl)) ⟨_, Heap.get?_push_size _ rfl, rfl, rfl⟩ q)
end

/-! ### steps of a reading -/
section
variable {K : PySem.W.Frag} {σ : L2.St} {H : Hp} {Q : VK} {D : Ends} {ta tb te : TE} {t u : TS} {tt tu : TT} {v x y : V} {i : Nat} {QB : Bool → Hp → Prop} {p : Prop} [Decidable p] {A B : Prop}
theorem e_var (h : σ[i]? = some (some v)) (q : Q v H) : tVar i σ H Q := ⟨v, h, q⟩
theorem e_c (q : Q v H) : tC v σ H Q := q
theorem e_op {r : R2} (q : ta σ H fun x H1 => tb σ H1 fun y H2 => r x y H2 Q) : tOp r ta tb σ H Q := q
theorem e_un {r : V → Hp → VK → Prop} (q : ta σ H fun x H1 => r x H1 Q) : tUn r ta σ H Q := q
theorem e_cb {r : List V → Hp → VK → Prop} {a : TA} (q : a σ H fun vs H1 => r vs H1 Q) : tCB r a σ H Q := q
theorem e_call {sp : Sp} {E : XK} {a : TA} (q : a σ H fun vs H1 => sp vs H1 Q E) : tCallR sp E a σ H Q := q
theorem a_nil {QA : List V → Hp → Prop} (q : QA [] H) : tNil σ H QA := q
theorem a_cons {tr : TA} {QA : List V → Hp → Prop} (q : ta σ H fun x H1 => tr σ H1 fun xs H2 => QA (x :: xs) H2) : tCons ta tr σ H QA := q
theorem e_lst {a : TA} (q : a σ H fun xs H1 => xs.length ≤ sizeLine ∧ ∀ p, H1 p = none → Q (.ref p) (upd H1 p (.lst xs))) : tLst a σ H Q := q
theorem e_tup {a : TA} (q : a σ H fun xs H1 => xs.length ≤ sizeLine ∧ ∀ p, H1 p = none → Q (.ref p) (upd H1 p (.tup xs))) : tTup a σ H Q := q
theorem e_if (q : tt σ H fun c H1 => if c = true then ta σ H1 Q else tb σ H1 Q) : tIf tt ta tb σ H Q := q
theorem e_andT (q : ta σ H fun x H1 => ∃ k, TruV K x H1 k ∧ if k = true then tb σ H1 Q else Q x H1) : tAndT K ta tb σ H Q := q
theorem e_orT (q : ta σ H fun x H1 => ∃ k, TruV K x H1 k ∧ if k = true then Q x H1 else tb σ H1 Q) : tOrT K ta tb σ H Q := q
theorem e_notT (q : ta σ H fun x H1 => ∃ k, TruV K x H1 k ∧ Q (.bl (!k)) H1) : tNotT K ta σ H Q := q
theorem e_chain {r r' : R2} {tc : TE} (q : ta σ H fun x H1 => tb σ H1 fun y H2 => r x y H2 fun z H3 => ∃ k, z = .bl k ∧ (if k = true then tc σ H3 fun w' H4 => r' y w' H4 Q else Q (.bl false) H3)) : tChain r r' ta tb tc σ H Q := q
theorem e_lc {wi : TI} {g : TG} {vs : List Nat} (q : wi σ H fun J H1 => ∀ D, H1 D = none → ∃ W : Nat → Nat → Hp → Prop, (∃ m, W 0 m (upd H1 D (.lst []))) ∧ ∀ i m H, W i m H →
  (J.stop i H ∧ Q (.ref D) H) ∨ (J.go i H ∧ ∃ Nx : Hp → Prop, (∀ H', Nx H' → ∃ m', m' < m ∧ W (i + 1) m' H') ∧ ∀ x H', J.yld i H x H' → g x (wipe σ vs) H' fun σ2 H2 => wipe σ2 vs = wipe σ vs ∧ tt σ2 H2 fun b H3 =>
    if b = true then te σ2 H3 fun y H4 => ∃ acc, H4 D = some (.lst acc) ∧ acc.length < sizeLine ∧ Nx (upd H4 D (.lst (acc ++ [y]))) else Nx H3)) : tLc wi g tt te vs σ H Q := q
theorem t_test (q : te σ H fun x H' => ∃ k, x = .bl k ∧ QB k H') : tTest te σ H QB := q
theorem t_tru (q : te σ H fun x H' => ∃ k, TruV K x H' k ∧ QB k H') : tTru' K te σ H QB := q
theorem t_and (q : tt σ H fun c H1 => if c = true then tu σ H1 QB else QB false H1) : tAnd tt tu σ H QB := q
theorem t_or (q : tt σ H fun c H1 => if c = true then QB true H1 else tu σ H1 QB) : tOr tt tu σ H QB := q
theorem t_not (q : tt σ H fun c H1 => QB (!c) H1) : tNot tt σ H QB := q
theorem t_yes (q : QB true H) : tYes σ H QB := q
theorem s_seq (q : t { D with nx := u D } σ H) : tSeq t u D σ H := q
theorem s_seqA {g : TG} (q : te σ H fun x H1 => g x σ H1 (u D)) : tSeq (tAsg te g) u D σ H := q
theorem s_seqF {wi : TI} {g : TG} (q : tFor wi g t { D with nx := u D } σ H) : tSeq (tFor wi g t) u D σ H := q
theorem s_seqW (q : tWhile tt t { D with nx := u D } σ H) : tSeq (tWhile tt t) u D σ H := q
theorem s_seqD (q : te σ H fun _ H1 => u D σ H1) : tSeq (tDrop te) u D σ H := q
theorem s_seqI {w : TS} (q : tt σ H fun b H1 => if b = true then t { D with nx := u D } σ H1 else w { D with nx := u D } σ H1) : tSeq (tIfS tt t w) u D σ H := q
/-- a statement, then the rest, which is shown once from Mid -/
theorem s_cut (Mid : L2.St → Hp → Prop) (h2 : ∀ σ' H', Mid σ' H' → u D σ' H') (h1 : ∀ N : L2.St → Hp → Prop, (∀ σ' H', Mid σ' H' → N σ' H') → t { D with nx := N } σ H) : tSeq t u D σ H := h1 _ h2
theorem s_asg {g : TG} (q : te σ H fun x H1 => g x σ H1 D.nx) : tAsg te g D σ H := q
theorem s_drop (q : te σ H fun _ H1 => D.nx σ H1) : tDrop te D σ H := q
theorem s_ret (q : te σ H D.rt) : tRet te D σ H := q
theorem s_if (q : tt σ H fun b H1 => if b = true then t D σ H1 else u D σ H1) : tIfS tt t u D σ H := q
theorem s_next (q : D.nx σ H) : tNext D σ H := q
theorem s_brk (q : D.bk σ H) : tBreak D σ H := q
theorem s_cont (q : D.ct σ H) : tCont D σ H := q
theorem g_name {QS : L2.St → Hp → Prop} (q : QS (σ.set i (some v)) H) : gName i v σ H QS := q
-- leaves
theorem l_bl {R : Bool → Prop} {b : Bool} (q : R b) : ∃ k, V.bl b = V.bl k ∧ R k := ⟨b, rfl, q⟩
theorem l_tbl {R : Bool → Prop} {b : Bool} (q : R b) : ∃ k, TruV K (.bl b) H k ∧ R k := ⟨b, rfl, q⟩
theorem l_tint {R : Bool → Prop} {n : Int} (q : R (n != 0)) : ∃ k, TruV K (.int n) H k ∧ R k := ⟨_, rfl, q⟩
theorem l_tnon {R : Bool → Prop} (q : R false) : ∃ k, TruV K .non H k ∧ R k := ⟨_, rfl, q⟩
theorem l_tstr {R : Bool → Prop} {z : Str} (h : z.length ≤ sizeLine) (q : R ((z.length : Int) != 0)) : ∃ k, TruV K (.str z) H k ∧ R k := ⟨_, ⟨h, rfl⟩, q⟩
theorem l_tlst {R : Bool → Prop} {a : Addr} {xs : List V} (h : SqL K H a xs) (q : R (!xs.isEmpty)) : ∃ k, TruV K (.ref a) H k ∧ R k := ⟨_, .inl ⟨xs, h, rfl⟩, q⟩
theorem l_ttup {R : Bool → Prop} {a : Addr} {xs : List V} (h : SqT K H a xs) (q : R (!xs.isEmpty)) : ∃ k, TruV K (.ref a) H k ∧ R k := ⟨_, .inr (.inl ⟨xs, h, rfl⟩), q⟩
theorem if_dec (h1 : p → A) (h2 : ¬ p → B) : if decide p = true then A else B := by
  by_cases h : p
  · rw [if_pos (decide_eq_true h)]; exact h1 h
  · rw [if_neg (by simpa using h)]; exact h2 h
theorem if_ndec (h1 : ¬ p → A) (h2 : p → B) : if (!decide p) = true then A else B := by
  by_cases h : p
  · rw [if_neg (by simpa using h)]; exact h2 h
  · rw [if_pos (by simpa using h)]; exact h1 h
theorem if_b {b : Bool} (h1 : b = true → A) (h2 : b = false → B) : if b = true then A else B := by
  cases b with
  | true => rw [if_pos rfl]; exact h1 rfl
  | false => rw [if_neg (by decide)]; exact h2 rfl
theorem if_tt (h : A) : if true = true then A else B := by rw [if_pos rfl]; exact h
theorem if_ff (h : B) : if false = true then A else B := by rw [if_neg (by decide)]; exact h
theorem if_not {b : Bool} (h : if b = true then B else A) : if (!b) = true then A else B := by
  cases b
  · exact if_tt (by rw [if_neg (by decide)] at h; exact h)
  · exact if_ff (by rw [if_pos rfl] at h; exact h)
-- operators
theorem r_add {n m : Int} (q : Q (.int (n + m)) H) : rAdd' K (.int n) (.int m) H Q := q
theorem r_adds {n m : Str} (h : n.length + m.length ≤ sizeLine) (q : Q (.str (n ++ m)) H) : rAdd' K (.str n) (.str m) H Q := ⟨h, q⟩
theorem r_sub {n m : Int} (q : Q (.int (n - m)) H) : rSub' (.int n) (.int m) H Q := q
theorem r_mul {n m : Int} (h : CMul n m) (q : Q (.int (n * m)) H) : rMul' (.int n) (.int m) H Q := ⟨h, q⟩
theorem r_div {n m : Int} (h : 0 < m ∧ m < 1073741824) (q : Q (.int (n / m)) H) : rDiv' (.int n) (.int m) H Q := ⟨h, q⟩
theorem r_mod {n m : Int} (h : 0 < m) (q : Q (.int (n % m)) H) : rMod' (.int n) (.int m) H Q := ⟨h, q⟩
theorem r_lt {n m : Int} (q : Q (.bl (decide (n < m))) H) : rLt' (.int n) (.int m) H Q := q
theorem r_le {n m : Int} (q : Q (.bl (decide (n ≤ m))) H) : rLe' (.int n) (.int m) H Q := q
theorem r_gt {n m : Int} (q : Q (.bl (decide (m < n))) H) : rGt' (.int n) (.int m) H Q := q
theorem r_ge {n m : Int} (q : Q (.bl (decide (m ≤ n))) H) : rGe' (.int n) (.int m) H Q := q
theorem dec_ii {n m : Int} : decide (V.int n = V.int m) = decide (n = m) := by rw [Bool.eq_iff_iff]; simp
theorem dec_ss {n m : Str} : decide (V.str n = V.str m) = decide (n = m) := by rw [Bool.eq_iff_iff]; simp
theorem dec_bb {n m : Bool} : decide (V.bl n = V.bl m) = decide (n = m) := by rw [Bool.eq_iff_iff]; simp
theorem r_eqi {n m : Int} (q : Q (.bl (decide (n = m))) H) : rEq' K (.int n) (.int m) H Q := .inl ⟨rfl, by rw [dec_ii]; exact q⟩
theorem r_nei {n m : Int} (q : Q (.bl (!decide (n = m))) H) : rNe' K (.int n) (.int m) H Q := .inl ⟨rfl, by rw [dec_ii]; exact q⟩
theorem r_eqs {n m : Str} (q : Q (.bl (decide (n = m))) H) : rEq' K (.str n) (.str m) H Q := .inl ⟨rfl, by rw [dec_ss]; exact q⟩
theorem r_nes {n m : Str} (q : Q (.bl (!decide (n = m))) H) : rNe' K (.str n) (.str m) H Q := .inl ⟨rfl, by rw [dec_ss]; exact q⟩
theorem r_eqb {n m : Bool} (q : Q (.bl (decide (n = m))) H) : rEq' K (.bl n) (.bl m) H Q := .inl ⟨rfl, by rw [dec_bb]; exact q⟩
theorem r_neb {n m : Bool} (q : Q (.bl (!decide (n = m))) H) : rNe' K (.bl n) (.bl m) H Q := .inl ⟨rfl, by rw [dec_bb]; exact q⟩
theorem r_int {n : Int} (q : Q (.int n) H) : rInt' [.int n] H Q := q
theorem r_neg {n : Int} (q : Q (.int (-n)) H) : rNeg' (.int n) H Q := q
theorem r_len {a : Addr} {ys : List V} (h : SqL K H a ys) (q : Q (.int ys.length) H) : rLen' K [.ref a] H Q := ⟨ys, .inl h, q⟩
theorem r_lenT {a : Addr} {ys : List V} (h : SqT K H a ys) (q : Q (.int ys.length) H) : rLen' K [.ref a] H Q := ⟨ys, .inr h, q⟩
theorem r_lens {z : Str} (h : z.length ≤ sizeLine) (q : Q (.int z.length) H) : rLen' K [.str z] H Q := ⟨h, q⟩
theorem r_ixL {a : Addr} {xs : List V} {n : Int} (h : SqL K H a xs) (e : atI xs n = some v) (q : Q v H) : rIx' K (.ref a) (.int n) H Q := .inl ⟨a, xs, n, v, rfl, rfl, h, e, q⟩
theorem r_ixT {a : Addr} {xs : List V} {n : Int} (h : SqT K H a xs) (e : atI xs n = some v) (q : Q v H) : rIx' K (.ref a) (.int n) H Q := .inr (.inl ⟨a, xs, n, v, rfl, rfl, h, e, q⟩)
theorem r_ixS {z : Str} {n : Int} {c : Nat} (h : z.length ≤ sizeLine) (e : atI z.cps.toList n = some c) (q : Q (.str ⟨#[c]⟩) H) : rIx' K (.str z) (.int n) H Q := .inr (.inr (.inl ⟨z, n, c, rfl, rfl, h, e, q⟩))
theorem r_ixD {a : Addr} (h : DGet H a y (some v)) (q : Q v H) : rIx' K (.ref a) y H Q := .inr (.inr (.inr ⟨a, v, rfl, h, q⟩))
theorem r_isi {t T : String} {b : Bool} (ty : TyX K H x (.type t)) (h : kitB t T = some b) (q : Q (.bl b) H) : rIsi' K [x, .ty T] H Q := .inl ⟨x, .ty T, _, _, b, rfl, .ty T, ty, kit_ty h, q⟩
theorem kb_ii : kitB "int" "int" = some true := by decide +kernel
theorem kb_ib : kitB "int" "bool" = some false := by decide +kernel
theorem kb_is : kitB "int" "str" = some false := by decide +kernel
theorem kb_bi : kitB "bool" "int" = some true := by decide +kernel
theorem kb_bb : kitB "bool" "bool" = some true := by decide +kernel
theorem kb_bs : kitB "bool" "str" = some false := by decide +kernel
theorem kb_si : kitB "str" "int" = some false := by decide +kernel
theorem kb_sb : kitB "str" "bool" = some false := by decide +kernel
theorem kb_ss : kitB "str" "str" = some true := by decide +kernel
theorem kb_ns : kitB "NoneType" "str" = some false := by decide +kernel
theorem kb_ni : kitB "NoneType" "int" = some false := by decide +kernel
theorem kb_ls : kitB "list" "str" = some false := by decide +kernel
theorem kb_ts : kitB "tuple" "str" = some false := by decide +kernel
theorem r_isi_ii {n : Int} (q : Q (.bl true) H) : rIsi' K [.int n, .ty "int"] H Q := r_isi (.base (.int _)) kb_ii q
theorem r_isi_ib {n : Int} (q : Q (.bl false) H) : rIsi' K [.int n, .ty "bool"] H Q := r_isi (.base (.int _)) kb_ib q
theorem r_isi_is {n : Int} (q : Q (.bl false) H) : rIsi' K [.int n, .ty "str"] H Q := r_isi (.base (.int _)) kb_is q
theorem r_isi_bi {n : Bool} (q : Q (.bl true) H) : rIsi' K [.bl n, .ty "int"] H Q := r_isi (.base (.bl _)) kb_bi q
theorem r_isi_bb {n : Bool} (q : Q (.bl true) H) : rIsi' K [.bl n, .ty "bool"] H Q := r_isi (.base (.bl _)) kb_bb q
theorem r_isi_bs {n : Bool} (q : Q (.bl false) H) : rIsi' K [.bl n, .ty "str"] H Q := r_isi (.base (.bl _)) kb_bs q
theorem r_isi_si {n : Str} (q : Q (.bl false) H) : rIsi' K [.str n, .ty "int"] H Q := r_isi (.base (.str _)) kb_si q
theorem r_isi_sb {n : Str} (q : Q (.bl false) H) : rIsi' K [.str n, .ty "bool"] H Q := r_isi (.base (.str _)) kb_sb q
theorem r_isi_ss {n : Str} (q : Q (.bl true) H) : rIsi' K [.str n, .ty "str"] H Q := r_isi (.base (.str _)) kb_ss q
theorem r_isi_ns (q : Q (.bl false) H) : rIsi' K [.non, .ty "str"] H Q := r_isi (.base .non) kb_ns q
theorem r_isi_ni (q : Q (.bl false) H) : rIsi' K [.non, .ty "int"] H Q := r_isi (.base .non) kb_ni q
-- ranges
theorem i_rng1 {a : TA} {R : It → Hp → Prop} (q : a σ H fun vs H1 => ∃ j : Int, vs = [.int j] ∧ -(2 ^ 62) ≤ j ∧ j < 2 ^ 62 ∧ R (Itr 0 j.toNat) H1) : iRng1 a σ H R := q
theorem i_rng2 {a : TA} {R : It → Hp → Prop} (q : a σ H fun vs H1 => ∃ i j : Int, vs = [.int i, .int j] ∧ (-(2 ^ 62) ≤ i ∧ i < 2 ^ 62 ∧ -(2 ^ 62) ≤ j ∧ j < 2 ^ 62) ∧ R (Itr i (j - i).toNat) H1) : iRng2 a σ H R := q
theorem i_any {R : It → Hp → Prop} (q : te σ H fun x H1 => (∃ a, x = .ref a ∧ (∃ xs, SqL K H1 a xs) ∧ R (Itl K a) H1) ∨ (∃ a, x = .ref a ∧ (∃ xs, SqT K H1 a xs) ∧ R (Itt K a) H1) ∨ (∃ z, x = .str z ∧ R (Its z) H1)) : iAny K te σ H R := q
theorem s_for {wi : TI} {g : TG} (q : wi σ H fun J H1 => ∃ W : Nat → Nat → L2.St → Hp → Prop, (∃ m, W 0 m σ H1) ∧ ∀ i m σ H, W i m σ H →
  (J.stop i H ∧ D.nx σ H) ∨ (J.go i H ∧ ∃ N : L2.St → Hp → Prop, (∀ σ' H', N σ' H' → ∃ m', m' < m ∧ W (i + 1) m' σ' H') ∧ ∀ x H', J.yld i H x H' → g x σ H' fun σ2 H2 => t { D with nx := N, ct := N, bk := D.nx } σ2 H2)) : tFor wi g t D σ H := q
theorem l_rng1 {n : Int} {R : It → Hp → Prop} (h : -1000000000 ≤ n ∧ n ≤ 1000000000) (q : R (Itr 0 n.toNat) H) : ∃ j : Int, [V.int n] = [V.int j] ∧ -(2 ^ 62) ≤ j ∧ j < 2 ^ 62 ∧ R (Itr 0 j.toNat) H := ⟨n, rfl, by omega, by omega, q⟩
theorem l_rng2 {n m : Int} {R : It → Hp → Prop} (h : (-1000000000 ≤ n ∧ n ≤ 1000000000) ∧ -1000000000 ≤ m ∧ m ≤ 1000000000) (q : R (Itr n (m - n).toNat) H) :
    ∃ i j : Int, [V.int n, V.int m] = [V.int i, V.int j] ∧ (-(2 ^ 62) ≤ i ∧ i < 2 ^ 62 ∧ -(2 ^ 62) ≤ j ∧ j < 2 ^ 62) ∧ R (Itr i (j - i).toNat) H := ⟨n, m, rfl, by omega, q⟩
-- methods
theorem e_app {ao ax : TE} {QV : VK} (q : ao σ H fun x H1 => (∃ a, x = .ref a ∧ ∃ xs, H1 a = some (.lst xs)) ∧ ax σ H1 fun y H2 => ∃ a xs, x = .ref a ∧ H2 a = some (.lst xs) ∧ xs.length < sizeLine ∧ QV .non (upd H2 a (.lst (xs ++ [y])))) (mono : ∀ σ H (Q Q' : VK), (∀ v H', Q v H' → Q' v H') → ao σ H Q → ao σ H Q') (mono2 : ∀ σ H (Q Q' : VK), (∀ v H', Q v H' → Q' v H') → ax σ H Q → ax σ H Q') :
    tBM K "list" rAppend ao (tCons ax tNil) σ H QV := by
  refine mono σ H _ _ (fun x H1 h => ?_) q
  obtain ⟨⟨a, rfl, xs, hx⟩, h⟩ := h
  refine ⟨.inl ⟨rfl, xs, SqL.of hx⟩, ?_⟩
  refine mono2 σ H1 _ _ (fun y H2 h => ?_) h
  obtain ⟨b, ys, e, h1, h2, h3⟩ := h
  exact ⟨b, ys, y, e, rfl, h1, h2, h3⟩
end
/-- the tactic's reach: a reading is run until a fact is asked -/
theorem bm_step {K : PySem.W.Frag} {T : String} {r : V → List V → Hp → VK → Prop} {to : TE} {t : TA} {σ : L2.St} {H : Hp} {Q : VK} (q : to σ H fun x H1 => tyV K T x H1 ∧ t σ H1 fun xs H2 => r x xs H2 Q) : tBM K T r to t σ H Q := q
/-- x.append(y) of a list that stands at a -/
theorem r_app {K : PySem.W.Frag} {σ : L2.St} {H : Hp} {Q : VK} {ax : TE} {a : Addr} {xs : List V} (h : H a = some (.lst xs)) (q : ax σ H fun y H2 => rAppend (.ref a) [y] H2 Q) :
    tyV K "list" (.ref a) H ∧ (tCons ax tNil) σ H fun vs H2 => rAppend (.ref a) vs H2 Q := ⟨.inl ⟨rfl, xs, SqL.of h⟩, q⟩
theorem r_app2 {H : Hp} {Q : VK} {a : Addr} {xs : List V} {y : V} (h : H a = some (.lst xs)) (hn : xs.length < sizeLine) (q : Q .non (upd H a (.lst (xs ++ [y])))) : rAppend (.ref a) [y] H Q := ⟨a, xs, y, rfl, rfl, h, hn, q⟩

/-! ### a ledger of objects -/
theorem nd_ix {α : Type} {xs : List α} (h : xs.Nodup) {i j : Nat} {x : α} (h1 : xs[i]? = some x) (h2 : xs[j]? = some x) : i = j := by
  have a := (List.getElem?_eq_some_iff.mp h1)
  have b := (List.getElem?_eq_some_iff.mp h2)
  obtain ⟨a1, a2⟩ := a
  obtain ⟨b1, b2⟩ := b
  exact (List.getElem_inj h).mp (a2.trans b2.symm)
/-- H0 the heap at the entry; M what may change of it; L the objects that are known by now -/
structure Led (H0 : Hp) (M : List Addr) (L : List (Addr × HO)) (H : Hp) : Prop where
  keep : ∀ a o, H0 a = some o → a ∉ M → H a = some o
  has : ∀ e ∈ L, H e.1 = some e.2
  nd : (L.map Prod.fst).Nodup
  new : ∀ e ∈ L, e.1 ∈ M ∨ H0 e.1 = none
section
variable {H0 H H' : Hp} {M : List Addr} {L : List (Addr × HO)} {p : Addr} {o u : HO} {K : PySem.W.Frag} {Q : VK}
theorem Led.start (H0 : Hp) : Led H0 [] [] H0 := ⟨fun _ _ h _ => h, fun _ h => (by cases h), List.nodup_nil, fun _ h => (by cases h)⟩
/-- one object of the entry's may change -/
theorem Led.start1 (h : H0 p = some o) : Led H0 [p] [(p, o)] H0 :=
  ⟨fun _ _ h _ => h, fun e he => by rw [List.mem_singleton.mp he]; exact h, by simp, fun e he => by rw [List.mem_singleton.mp he]; exact .inl (List.mem_singleton.mpr rfl)⟩
theorem Led.at_ (l : Led H0 M L H) (i : Nat) (h : L[i]? = some (p, o) := by rfl) : H p = some o := l.has (p, o) (List.mem_of_getElem? h)
theorem Led.alloc (l : Led H0 M L H) (h : H p = none) (hM : ∀ a ∈ M, ∃ u, H a = some u := by intro a h; cases h) (o : HO) : Led H0 M ((p, o) :: L) (upd H p o) := by
  have h0 : p ∉ M → H0 p = none := fun hp => by
    cases q : H0 p with
    | none => rfl
    | some u => rw [l.keep p u q hp] at h; cases h
  have hpM : p ∉ M := fun hp => by
    obtain ⟨u, e⟩ := hM p hp
    rw [e] at h; cases h
  refine ⟨fun a u ha hm => ?_, fun e he => ?_, ?_, fun e he => ?_⟩
  · rw [upd_ne (ne_of_none (l.keep a u ha hm) h)]; exact l.keep a u ha hm
  · rcases List.mem_cons.mp he with rfl | he
    · exact upd_same
    · rw [upd_ne (ne_of_none (l.has e he) h)]; exact l.has e he
  · refine List.nodup_cons.mpr ⟨fun hm => ?_, l.nd⟩
    obtain ⟨e, he, e1⟩ := List.mem_map.mp hm
    have := l.has e he
    rw [e1] at this
    rw [this] at h; cases h
  · rcases List.mem_cons.mp he with rfl | he
    · exact .inr (h0 hpM)
    · exact l.new e he
theorem Led.put (l : Led H0 M L H) (i : Nat) (h : L[i]? = some (p, o) := by rfl) (u : HO) : Led H0 M (L.set i (p, u)) (upd H p u) := by
  have hi : i < L.length := (List.getElem?_eq_some_iff.mp h).1
  have hmem : (p, o) ∈ L := List.mem_of_getElem? h
  have hmap : (L.set i (p, u)).map Prod.fst = L.map Prod.fst := by
    rw [List.map_set]
    refine List.ext_getElem? fun j => ?_
    by_cases hj : i = j
    · subst hj
      rw [List.getElem?_set_self (by simpa using hi), List.getElem?_map, h]
      rfl
    · rw [List.getElem?_set_ne hj]
  have hpn : p ∈ M ∨ H0 p = none := l.new _ hmem
  refine ⟨fun a w ha hm => ?_, fun e he => ?_, by rw [hmap]; exact l.nd, fun e he => ?_⟩
  · have hne : a ≠ p := by
      rintro rfl
      rcases hpn with z | z
      · exact hm z
      · rw [z] at ha; cases ha
    rw [upd_ne hne]; exact l.keep a w ha hm
  · obtain ⟨j, hj, e1⟩ := List.mem_iff_getElem.mp he
    have hj' : j < L.length := by simpa using hj
    by_cases e2 : i = j
    · subst e2
      rw [List.getElem_set_self] at e1
      subst e1
      exact upd_same
    · rw [List.getElem_set_ne e2] at e1
      have hin : e ∈ L := by rw [← e1]; exact List.getElem_mem _
      have hne : e.1 ≠ p := fun z => by
        have a1 : (L.map Prod.fst)[j]? = some p := by rw [List.getElem?_map, List.getElem?_eq_getElem hj', e1, ← z]; rfl
        have a2 : (L.map Prod.fst)[i]? = some p := by rw [List.getElem?_map, h]; rfl
        exact e2 (nd_ix l.nd a2 a1)
      rw [upd_ne hne]; exact l.has e hin
  · rcases List.mem_or_eq_of_mem_set he with he | rfl
    · exact l.new e he
    · exact hpn
/-- behind a call that leaves all as it was -/
theorem Led.same (l : Led H0 M L H) (s : Same H H') : Led H0 M L H' := ⟨fun a o h hm => s a o (l.keep a o h hm), fun e he => s _ _ (l.has e he), l.nd, l.new⟩
theorem Led.toSame (l : Led H0 [] L H) : Same H0 H := fun a o h => l.keep a o h (by simp)
/-- some objects forgotten -/
theorem Led.sub {L' : List (Addr × HO)} (l : Led H0 M L H) (h : List.Sublist L' L := by repeat (first | exact List.Sublist.refl _ | exact List.nil_sublist _ | apply List.Sublist.cons₂ | apply List.Sublist.cons)) : Led H0 M L' H :=
  ⟨l.keep, fun e he => l.has e (h.subset he), (List.Sublist.map Prod.fst h).nodup l.nd, fun e he => l.new e (h.subset he)⟩
theorem Led.seqL {a : Addr} {xs : List V} (l : Led H0 [] L H) (h : SqL K H0 a xs) : SqL K H a xs := l.toSame.seq h
theorem l_lst {xs : List V} (l : Led H0 [] L H) (hn : xs.length ≤ sizeLine) (q : ∀ p H', Led H0 [] ((p, .lst xs) :: L) H' → Q (.ref p) H') : xs.length ≤ sizeLine ∧ ∀ p, H p = none → Q (.ref p) (upd H p (.lst xs)) :=
  ⟨hn, fun p hp => q p _ (l.alloc hp (o := .lst xs))⟩
theorem l_tup {xs : List V} (l : Led H0 [] L H) (hn : xs.length ≤ sizeLine) (q : ∀ p H', Led H0 [] ((p, .tup xs) :: L) H' → Q (.ref p) H') : xs.length ≤ sizeLine ∧ ∀ p, H p = none → Q (.ref p) (upd H p (.tup xs)) :=
  ⟨hn, fun p hp => q p _ (l.alloc hp (o := .tup xs))⟩
theorem small {n : Nat} (h : n ≤ 10000000) : n ≤ sizeLine := Nat.le_trans h (by decide)
theorem smallL {n : Nat} (h : n < 10000000) : n < sizeLine := Nat.lt_of_lt_of_le h (by decide)
end

/-! ### loops over ranges -/
section
variable {nx0 : L2.St → Hp → Prop} {rt0 : VK} {σ : L2.St} {H : Hp} {g : TG} {t : TS}
theorem f_rng1 {m : Int} (n : Nat) (e : m = (n : Int)) (hn : n ≤ 1000000000) (Pv : Nat → L2.St → Hp → Prop) (h0 : Pv 0 σ H)
    (hs : ∀ (i : Nat) σ H, i < n → Pv i σ H → g (.int (i : Int)) σ H fun σ2 H2 => t { nx := Pv (i + 1), rt := rt0, bk := nx0, ct := Pv (i + 1) } σ2 H2) (hd : ∀ σ H, Pv n σ H → nx0 σ H) :
    ∃ j : Int, [V.int m] = [V.int j] ∧ -(2 ^ 62) ≤ j ∧ j < 2 ^ 62 ∧ ∃ W : Nat → Nat → L2.St → Hp → Prop, (∃ m, W 0 m σ H) ∧ ∀ i m σ H, W i m σ H →
      ((Itr 0 j.toNat).stop i H ∧ nx0 σ H) ∨ ((Itr 0 j.toNat).go i H ∧ ∃ N : L2.St → Hp → Prop, (∀ σ' H', N σ' H' → ∃ m', m' < m ∧ W (i + 1) m' σ' H') ∧ ∀ x H', (Itr 0 j.toNat).yld i H x H' → g x σ H' fun σ2 H2 => t { nx := N, rt := rt0, bk := nx0, ct := N } σ2 H2) := by
  subst e
  refine ⟨n, rfl, by omega, by omega, ?_⟩
  rw [Int.toNat_natCast]
  refine for_range (lo := 0) (n := n) (D := { nx := nx0, rt := rt0 }) Pv h0 (fun i σ H hi p => ?_) hd
  rw [Int.zero_add]
  exact hs i σ H hi p
theorem f_rng2 {a b : Int} (n : Nat) (e : b - a = (n : Int)) (h1 : -1000000000 ≤ a ∧ b ≤ 1000000000) (Pv : Nat → L2.St → Hp → Prop) (h0 : Pv 0 σ H)
    (hs : ∀ (i : Nat) σ H, i < n → Pv i σ H → g (.int (a + (i : Int))) σ H fun σ2 H2 => t { nx := Pv (i + 1), rt := rt0, bk := nx0, ct := Pv (i + 1) } σ2 H2) (hd : ∀ σ H, Pv n σ H → nx0 σ H) :
    ∃ i j : Int, [V.int a, V.int b] = [V.int i, V.int j] ∧ (-(2 ^ 62) ≤ i ∧ i < 2 ^ 62 ∧ -(2 ^ 62) ≤ j ∧ j < 2 ^ 62) ∧ ∃ W : Nat → Nat → L2.St → Hp → Prop, (∃ m, W 0 m σ H) ∧ ∀ k m σ H, W k m σ H →
      ((Itr i (j - i).toNat).stop k H ∧ nx0 σ H) ∨ ((Itr i (j - i).toNat).go k H ∧ ∃ N : L2.St → Hp → Prop, (∀ σ' H', N σ' H' → ∃ m', m' < m ∧ W (k + 1) m' σ' H') ∧ ∀ x H', (Itr i (j - i).toNat).yld k H x H' → g x σ H' fun σ2 H2 => t { nx := N, rt := rt0, bk := nx0, ct := N } σ2 H2) := by
  refine ⟨a, b, rfl, by omega, ?_⟩
  rw [e, Int.toNat_natCast]
  exact for_range (lo := a) (n := n) (D := { nx := nx0, rt := rt0 }) Pv h0 hs hd
/-- [.. for x in range(..)], one list made -/
theorem c_rng1 {m : Int} {tt : TT} {te : TE} {vs : List Nat} {Q : Addr → Hp → Prop} (n : Nat) (e : m = (n : Int)) (hn : n ≤ 1000000000) (Pv : Addr → Nat → Hp → Prop) (h0 : ∀ D, H D = none → Pv D 0 (upd H D (.lst [])))
    (hs : ∀ D (i : Nat) H, i < n → Pv D i H → g (.int (i : Int)) (wipe σ vs) H fun σ2 H2 => wipe σ2 vs = wipe σ vs ∧ tt σ2 H2 fun b H3 =>
      if b = true then te σ2 H3 fun y H4 => ∃ acc, H4 D = some (.lst acc) ∧ acc.length < sizeLine ∧ Pv D (i + 1) (upd H4 D (.lst (acc ++ [y]))) else Pv D (i + 1) H3) (hd : ∀ D H, Pv D n H → Q D H) :
    ∃ j : Int, [V.int m] = [V.int j] ∧ -(2 ^ 62) ≤ j ∧ j < 2 ^ 62 ∧ ∀ D, H D = none → ∃ W : Nat → Nat → Hp → Prop, (∃ m, W 0 m (upd H D (.lst []))) ∧ ∀ i m H, W i m H →
      ((Itr 0 j.toNat).stop i H ∧ Q D H) ∨ ((Itr 0 j.toNat).go i H ∧ ∃ Nx : Hp → Prop, (∀ H', Nx H' → ∃ m', m' < m ∧ W (i + 1) m' H') ∧ ∀ x H', (Itr 0 j.toNat).yld i H x H' → g x (wipe σ vs) H' fun σ2 H2 => wipe σ2 vs = wipe σ vs ∧ tt σ2 H2 fun b H3 =>
        if b = true then te σ2 H3 fun y H4 => ∃ acc, H4 D = some (.lst acc) ∧ acc.length < sizeLine ∧ Nx (upd H4 D (.lst (acc ++ [y]))) else Nx H3) := by
  subst e
  refine ⟨n, rfl, by omega, by omega, fun D hD => ?_⟩
  rw [Int.toNat_natCast]
  refine lc_range (lo := 0) (n := n) (Pv D) (h0 D hD) (fun i H hi p => ?_) (hd D)
  rw [Int.zero_add]
  exact hs D i H hi p
end

/-! ### loops over lists -/
section
variable {nx0 : L2.St → Hp → Prop} {rt0 : VK} {σ : L2.St} {H : Hp} {g : TG} {t : TS} {K : PySem.W.Frag}
theorem f_list {a : Addr} (xs : List V) (h : SqL K H a xs) (Pv : Nat → L2.St → Hp → Prop) (h0 : Pv 0 σ H) (hl : ∀ i σ H, i ≤ xs.length → Pv i σ H → SqL K H a xs)
    (hs : ∀ i x σ H, xs[i]? = some x → Pv i σ H → g x σ H fun σ2 H2 => t { nx := Pv (i + 1), rt := rt0, bk := nx0, ct := Pv (i + 1) } σ2 H2) (hd : ∀ σ H, Pv xs.length σ H → nx0 σ H) {Z : Prop} :
    (∃ b, V.ref a = V.ref b ∧ (∃ xs, SqL K H b xs) ∧ ∃ W : Nat → Nat → L2.St → Hp → Prop, (∃ m, W 0 m σ H) ∧ ∀ k m σ H, W k m σ H →
      ((Itl K b).stop k H ∧ nx0 σ H) ∨ ((Itl K b).go k H ∧ ∃ N : L2.St → Hp → Prop, (∀ σ' H', N σ' H' → ∃ m', m' < m ∧ W (k + 1) m' σ' H') ∧ ∀ x H', (Itl K b).yld k H x H' → g x σ H' fun σ2 H2 => t { nx := N, rt := rt0, bk := nx0, ct := N } σ2 H2)) ∨ Z :=
  .inl ⟨a, rfl, ⟨xs, h⟩, for_list (D := { nx := nx0, rt := rt0 }) Pv h0 hl hs hd⟩
theorem f_tup {a : Addr} (xs : List V) (h : SqT K H a xs) (Pv : Nat → L2.St → Hp → Prop) (h0 : Pv 0 σ H) (hl : ∀ i σ H, i ≤ xs.length → Pv i σ H → SqT K H a xs)
    (hs : ∀ i x σ H, xs[i]? = some x → Pv i σ H → g x σ H fun σ2 H2 => t { nx := Pv (i + 1), rt := rt0, bk := nx0, ct := Pv (i + 1) } σ2 H2) (hd : ∀ σ H, Pv xs.length σ H → nx0 σ H) {Y Z : Prop} :
    Y ∨ (∃ b, V.ref a = V.ref b ∧ (∃ xs, SqT K H b xs) ∧ ∃ W : Nat → Nat → L2.St → Hp → Prop, (∃ m, W 0 m σ H) ∧ ∀ k m σ H, W k m σ H →
      ((Itt K b).stop k H ∧ nx0 σ H) ∨ ((Itt K b).go k H ∧ ∃ N : L2.St → Hp → Prop, (∀ σ' H', N σ' H' → ∃ m', m' < m ∧ W (k + 1) m' σ' H') ∧ ∀ x H', (Itt K b).yld k H x H' → g x σ H' fun σ2 H2 => t { nx := N, rt := rt0, bk := nx0, ct := N } σ2 H2)) ∨ Z :=
  .inr (.inl ⟨a, rfl, ⟨xs, h⟩, for_tup (D := { nx := nx0, rt := rt0 }) Pv h0 hl hs hd⟩)
theorem f_str {z : Str} (Pv : Nat → L2.St → Hp → Prop) (h0 : Pv 0 σ H)
    (hs : ∀ i c σ H, z.cps[i]? = some c → Pv i σ H → g (.str ⟨#[c]⟩) σ H fun σ2 H2 => t { nx := Pv (i + 1), rt := rt0, bk := nx0, ct := Pv (i + 1) } σ2 H2) (hd : ∀ σ H, Pv z.cps.size σ H → nx0 σ H) {X Y : Prop} :
    X ∨ Y ∨ (∃ y, V.str z = V.str y ∧ ∃ W : Nat → Nat → L2.St → Hp → Prop, (∃ m, W 0 m σ H) ∧ ∀ k m σ H, W k m σ H →
      ((Its y).stop k H ∧ nx0 σ H) ∨ ((Its y).go k H ∧ ∃ N : L2.St → Hp → Prop, (∀ σ' H', N σ' H' → ∃ m', m' < m ∧ W (k + 1) m' σ' H') ∧ ∀ x H', (Its y).yld k H x H' → g x σ H' fun σ2 H2 => t { nx := N, rt := rt0, bk := nx0, ct := N } σ2 H2)) := by
  refine .inr (.inr ⟨z, rfl, for_it (D := { nx := nx0, rt := rt0 }) walk_str Pv h0 (fun _ _ _ _ _ => trivial) ?_ hd⟩)
  rintro i x σ H H' hi p ⟨rfl, c, hc, rfl⟩
  exact hs i c σ H' hc p
end
theorem sq_get {ns : List Int} {i : Nat} {x : V} (h : (ns.map V.int)[i]? = some x) : ∃ n, ns[i]? = some n ∧ x = .int n := by
  rw [List.getElem?_map] at h
  cases e : ns[i]? with
  | none => rw [e] at h; cases h
  | some n => rw [e] at h; exact ⟨n, rfl, (Option.some.inj h).symm⟩
theorem at_nat {xs : List V} {n : Int} {j : Nat} {v : V} (e : n = (j : Int)) (h : xs[j]? = some v) : atI xs n = some v := by
  subst e
  exact atI_nat h

/-! ### more words -/
def rIs' : R2 := fun x y H Q => (y = .non ∧ Q (.bl (decide (x = .non))) H) ∨ ∃ a b, x = .bl a ∧ y = .bl b ∧ Q (.bl (decide (a = b))) H
def rIsNot' : R2 := fun x y H Q => (y = .non ∧ Q (.bl (!decide (x = .non))) H) ∨ ∃ a b, x = .bl a ∧ y = .bl b ∧ Q (.bl (!decide (a = b))) H
/-- x in d, d a dict -/
def rInK : R2 := fun x y H Q => ∃ a o, y = .ref a ∧ DGet H a x o ∧ Q (.bl o.isSome) H
def rNotInK : R2 := fun x y H Q => ∃ a o, y = .ref a ∧ DGet H a x o ∧ Q (.bl (!o.isSome)) H
def rIn' (K : PySem.W.Frag) : R2 := fun x y H Q => rIn K false x y H Q ∨ rInD K x y H Q ∨ rInS x y H Q ∨ rInK x y H Q
def rNotIn' (K : PySem.W.Frag) : R2 := fun x y H Q => rIn K true x y H Q ∨ rNotInD K x y H Q ∨ rNotInS x y H Q ∨ rNotInK x y H Q
def rMax' (K : PySem.W.Frag) : List V → Hp → VK → Prop := fun vs H Q => (∃ i j, vs = [.int i, .int j] ∧ Q (.int (if j > i then j else i)) H) ∨ rMax K vs H Q
def rMin' (K : PySem.W.Frag) : List V → Hp → VK → Prop := fun vs H Q => (∃ i j, vs = [.int i, .int j] ∧ Q (.int (if j < i then j else i)) H) ∨ rMin K vs H Q
def rTuple' (K : PySem.W.Frag) : List V → Hp → VK → Prop := fun xs H Q => ∃ p ys, xs = [.ref p] ∧ ((SqL K H p ys ∧ ∀ l, H l = none → Q (.ref l) (upd H l (.tup ys))) ∨ (SqT K H p ys ∧ Q (.ref p) H))
def rList' (K : PySem.W.Frag) : List V → Hp → VK → Prop := fun xs H Q => ∃ p ys, xs = [.ref p] ∧ (SqL K H p ys ∨ SqT K H p ys) ∧ ∀ l, H l = none → Q (.ref l) (upd H l (.lst ys))
/-- list(x), x a dict too -/
def rListA (K : PySem.W.Frag) : List V → Hp → VK → Prop := fun xs H Q => rList' K xs H Q ∨ rListD xs H Q
def rSl' (K : PySem.W.Frag) : V → Option Int → Option Int → Hp → VK → Prop := fun x lo hi H Q => rSlS x lo hi H Q ∨ rSlL K x lo hi H Q ∨ rSlA K x lo hi H Q
def rSet' : TSet := fun o i v H Q => rSetL o i v H Q ∨ rSetD o i v H Q
section
variable {X : Cx}
theorem o_is : OpR X (compareOp .Is) rIs' := OpR.or op_isN op_is_bl
theorem o_isnot : OpR X (compareOp .IsNot) rIsNot' := OpR.or op_notN op_isnot_bl
theorem c_max (hc : X.calm = true) : CallR X (.builtin "max") (rMax' X.K) := CallR.or (call_max2 hc) (cr_max hc)
theorem c_min (hc : X.calm = true) : CallR X (.builtin "min") (rMin' X.K) := CallR.or (call_min2 hc) (cr_min hc)
theorem c_tuple : CallR X (.type "tuple") (rTuple' X.K) := call_tuple_of
theorem c_list : CallR X (.type "list") (rList' X.K) := call_list_of
theorem s_any : SlR X (rSl' X.K) := SlR.or sl_str (SlR.or sl_list sl_tupA)
theorem PSet.or {t t' : TSet} (h : PSet X t) (h' : PSet X t') : PSet X (fun o i v H Q => t o i v H Q ∨ t' o i v H Q) := fun pins s σ H o i v ov iv u Q I a b c q =>
  q.elim (fun q => h pins s σ H o i v ov iv u Q I a b c q) fun q => h' pins s σ H o i v ov iv u Q I a b c q
theorem s_set (hu : X.A.units + 64 < cLine) : PSet X rSet' := PSet.or set_list (set_dict (by omega))
/-- X(), X an own exception class without own __init__ -/
theorem pmk_own0 {C : Addr} {bmB : List Value} {B newId initId : String} {x : Str} {p pos : Pos} (F : ExcBaseFacts B newId initId bmB) (q : PySem.W.excIn X.K C bmB newId = true) (gC : X.mg x = some (.ref C))
    (kC : PySem.W.keepIn X.K (.ref C) = true) (r : Raises X (.ref C)) (hg : Gl X x) (hdb : (x == ("__debug__" : Str)) = false := by decide) :
    PMk X (.Call (.Name x p) [] [] pos) (fun σ H Q => Q (.ref C) none H) := by
  intro pins s σ H Q I h
  refine wpAny_Call_Name_kw (ld_glob I hg gC ?_ hdb)
  refine PySem.W.callWith_K0 I.kIn kC ?_
  show wpAny _ _ (call (.ref C) []) _ _ _
  obtain ⟨bm, N, nm, qn, bs, hdct, sn, sub, ab, col, dd, k0, k1, k2, k3, k5, mN, hC, hN, hni, T⟩ := exc_obj I.kIn q
  refine wpAny_call_exc_subT F T hC hN hni (fun h' e hm => ?_) (by show 0 ≤ sizeLine; omega)
  exact mk_of I hm r h (I.hok.gone hm.new)
end
section
variable {X : Cx}
theorem op_inK (hu : X.A.units + 65 < cLine) : OpR X (compareOp .In) rInK := by
  intro pins s σ H x y v u Q I rx ry h
  obtain ⟨a, o, rfl, g, q⟩ := h
  cases ry
  exact d_in (by omega) I g rx fun s' I' => ⟨.bl _, H, I', rfl, q⟩
theorem op_notInK (hu : X.A.units + 65 < cLine) : OpR X (compareOp .NotIn) rNotInK := by
  intro pins s σ H x y v u Q I rx ry h
  obtain ⟨a, o, rfl, g, q⟩ := h
  cases ry
  exact d_notIn (by omega) I g rx fun s' I' => ⟨.bl _, H, I', rfl, q⟩
theorem c_listA (hc : X.calm = true) : CallR X (.type "list") (rListA X.K) := CallR.or c_list (call_list_dK hc)
theorem o_in (hu : X.A.units + 65 < cLine) : OpR X (compareOp .In) (rIn' X.K) := OpR.or op_in_seq (OpR.or (op_inD hu) (OpR.or op_inS (op_inK hu)))
theorem o_notin (hu : X.A.units + 65 < cLine) : OpR X (compareOp .NotIn) (rNotIn' X.K) := OpR.or op_notIn_seq (OpR.or (op_notInD hu) (OpR.or op_notInS (op_notInK hu)))
end

/-! ### calls that may raise -/
abbrev WF (E : XK) : WX := fun c d _ H => E c d H
def tRaise (W : WX) (t : L2.St → Hp → XK → Prop) : TS := fun _ σ H => t σ H fun cls d H' => W cls d σ H'
def tMk0 (C : Addr) : L2.St → Hp → XK → Prop := fun _ H Q => Q (.ref C) none H
def tMkA (C : Addr) (t : TA) : L2.St → Hp → XK → Prop := fun σ H Q => t σ H fun vs H1 => vs.length ≤ sizeLine ∧ Q (.ref C) none H1
def tTry (tb : WX → TS) (w : Ends → WX) : TS := fun D σ H => tb (w D) D σ H
def tMakeS (C : Addr) (sp : Sp) (E : L2.St → XK) (t : TA) : TE := fun σ H Q => t σ H fun vs H1 => ∀ x dx, H1 x = none → H1 dx = none → dx ≠ x →
  sp (.ref x :: vs) (upd (upd H1 dx (.own x)) x (.ins C dx [])) (fun v H2 => v = .non ∧ Q (.ref x) H2) (E σ)
def rExtend' (K : PySem.W.Frag) : V → List V → Hp → VK → Prop := fun x vs H Q => ∃ l b xs zs, x = .ref l ∧ vs = [.ref b] ∧ H l = some (.lst xs) ∧ Rd H b (.lst zs) ∧ xs.length + zs.length ≤ sizeLine ∧ Q .non (upd H l (.lst (xs ++ zs)))
section
variable {X : Cx} {CX : CXT} {k : Nat} {f C : Addr} {sp : Sp} {E : L2.St → XK} {x m : Str} {p pos apos : Pos} {e o : Expr} {es : List Expr} {ta : TE} {t : TA}
theorem m_extend : MtM X "list.extend" (rExtend' X.K) := by
  intro pins s σ H x vs v us Q I rx rv h
  obtain ⟨l, b, xs, zs, rfl, rfl, hH, hB, hz, q⟩ := h
  cases rx
  obtain ⟨u, rfl, ru⟩ := rv.one
  cases ru
  obtain ⟨z, its, n, r, hl, e⟩ := I.lstM hH
  obtain ⟨z2, its2, n2, r2, e2⟩ := hB.ok I.hok
  have hl2 := r2.length
  have hsz : its.toArray.size + its2.toArray.size ≤ sizeLine := by rw [List.size_toArray, List.size_toArray]; omega
  have hlong : ¬ (!its.toArray.isEmpty && Builtin.List.listTooLong (its.toArray.size + its2.toArray.size)) = true := by
    rw [notLongL hsz, Bool.and_false]
    exact Bool.false_ne_true
  refine call_meets F.slot_list_extend ⟨_, e, rfl⟩ F.entry_list_extend (F.args_list_extend_2 _ _)
    (AutoSeq1.list_extend_list_list_0 l its.toArray n b its2.toArray n2 hlong (by rw [List.size_toArray]; omega) (by omega)) ⟨e, e2, ?_⟩
  refine ⟨.non, _, I.lset (its' := its ++ its2) hH e (by simp) (r.append r2) ?_, rfl, q⟩
  rw [List.length_append]
  omega
theorem units65 {k : Nat} {A : Around} (r : Room k A) : A.units + 65 < cLine := by have := r.un; omega
theorem passS0 {σ : L2.St} {E : XK} : PassesAt CX0 X σ E := fun _ _ _ _ _ _ h => h.elim
theorem run_fnSR {pins : List (Addr × Obj)} {σ : L2.St} {H : Hp} {s : Shared} {Q : VK} {us : List Value} {vs : List V} (F : FnR X.prog X.w X.K X.mg X.base CX k f sp) (hr : Room k X.A) (hx : PassesAt CX X σ (E σ))
    (I : Inv X pins σ H s) (r : Vals vs us) (h : sp vs H Q (E σ)) : wpAny (model X.prog X.w) X.A (call (.ref f) us) (EP X pins σ Q) X.xe s := by
  refine wpAny_call (codeAny_mono (F X.A X.stack s H us vs Q (E σ) hr I.env0 r h) fun r s' hq => ?_)
  cases r with
  | error e => exact hx pins H s e s' I hq
  | ok fl =>
    cases fl with
    | ret u => exact I.after hq
    | next => exact False.elim hq
    | brk => exact False.elim hq
    | cont => exact False.elim hq
theorem pe_callSR (F : FnR X.prog X.w X.K X.mg X.base CX k f sp) (hr : Room k X.A) (hg : Gl X x) (hm : X.mg x = some (.ref f)) (hk : PySem.W.keepIn X.K (.ref f) = true) (hx : ∀ σ, PassesAt CX X σ (E σ))
    (ha : PA X (e :: es) t) (hdb : (x == ("__debug__" : Str)) = false := by decide) (he : starEach (e :: es) X.env = (false, eval e X.env) :: starEach es X.env := by rfl) (hpl : (backTo pos (starEach es X.env)).any (·.1) = false := by rfl) :
    PE X (.Call (.Name x p) (e :: es) [] pos) (tCallS sp E t) := by
  refine ⟨fun pins s σ H Q I h => ?_⟩
  refine wpAny_Call_Name_kw (ld_glob I hg hm ?_ hdb)
  refine PySem.W.callWith_K (h₀ := X.base) I.ok.mod.kin hk (thn (ha.run pos pins s σ H _ I h) fun us s1 ⟨vs, H1, I1, r, q⟩ => ⟨I1.kIn, ?_⟩) he hpl
  exact run_fnSR F hr (hx σ) I1 r q
theorem run_makeSR {pins : List (Addr × Obj)} {σ : L2.St} {H : Hp} {s : Shared} {Q : VK} {us : List Value} {vs : List V} (M : Mk X.K C f) (F : FnR X.prog X.w X.K X.mg X.base CX k f sp) (hr : Room (k + 1) X.A)
    (hx : PassesAt (fun st H s E e s' => CX st H s E e s') X σ (E σ)) (I : Inv X pins σ H s) (r : Vals vs us)
    (hce : ∀ (H0 H1 : Hp) (s1 : Shared) (e : Value) (s' : Shared), True)
    (h : ∀ x dx, H x = none → H dx = none → dx ≠ x → sp (.ref x :: vs) (upd (upd H dx (.own x)) x (.ins C dx [])) (fun v H2 => v = .non ∧ Q (.ref x) H2) (E σ)) :
    wpAny (model X.prog X.w) X.A (call (.ref C) us) (EP X pins σ Q) X.xe s := by
  have hq := h (s.heap.objs.size + 1) s.heap.objs.size (I.hok.fresh (Nat.le_succ _)) (I.hok.fresh (Nat.le_refl _)) (Nat.ne_of_lt (Nat.lt_succ_self _))
  have I2 := Inv.made (C := C) I
  have r2 : Vals (V.ref (s.heap.objs.size + 1) :: vs) (Value.ref (s.heap.objs.size + 1) :: us) := .cons rfl r
  refine wpAny_call (make_map (f := f) I.kIn M.makes M.init (beq_iff_eq.mp M.fn) (codeAny_mono (F _ X.stack _ _ (Value.ref (s.heap.objs.size + 1) :: us) _ _ (E σ) (hr.make C us []) (I2.env0.make C us []) r2 hq) fun r s' hq' => ?_))
  cases r with
  | error e => exact hx pins _ _ e s' I2 hq'
  | ok fl =>
    cases fl with
    | ret u =>
      obtain ⟨v, H', I3, rv, ev, q3⟩ := I2.after hq'
      subst ev
      exact ⟨rv, ⟨V.ref (s.heap.objs.size + 1), H', I3, rfl, q3⟩⟩
    | next => exact False.elim hq'
    | brk => exact False.elim hq'
    | cont => exact False.elim hq'
theorem pe_makeSR (M : Mk X.K C f) (F : FnR X.prog X.w X.K X.mg X.base CX k f sp) (hr : Room (k + 1) X.A) (hg : Gl X x) (hm : X.mg x = some (.ref C)) (hx : ∀ σ, PassesAt CX X σ (E σ)) (ha : PA X (e :: es) t) (hdb : (x == ("__debug__" : Str)) = false := by decide)
    (he : starEach (e :: es) X.env = (false, eval e X.env) :: starEach es X.env := by rfl) (hpl : (backTo pos (starEach es X.env)).any (·.1) = false := by rfl) : PE X (.Call (.Name x p) (e :: es) [] pos) (tMakeS C sp E t) := by
  refine ⟨fun pins s σ H Q I h => ?_⟩
  refine wpAny_Call_Name_kw (ld_glob I hg hm ?_ hdb)
  refine PySem.W.callWith_K (h₀ := X.base) I.ok.mod.kin M.kp (thn (ha.run pos pins s σ H _ I h) fun us s1 ⟨vs, H1, I1, r, q⟩ => ⟨I1.kIn, ?_⟩) he hpl
  exact run_makeSR M F hr (hx σ) I1 r (fun _ _ _ _ _ => trivial) q
/-- isinstance(e, c), e the exception that the suite holds -/
def rIsEX (K : PySem.W.Frag) (a : Addr) (cls : Value) (d : Option Addr) : List V → Hp → VK → Prop := fun xs H Q => d = none ∧ ∃ (D : Addr) (c : V) (cv : Value) (b : Bool), cls = .ref D ∧ ExcC K D ∧ xs = [.ref a, c] ∧ (∀ u, RelV c u → u = cv) ∧ PySem.W.kitOne K (.ref D) cv = some b ∧ Q (.bl b) H
theorem call_isEX {a : Addr} {cls : Value} {d : Option Addr} {oe : Obj} {pn : List (Addr × Obj)} (hz : Zc cls d oe) (hf : ∃ vs, oe.data = .fields vs) : CallR (X.suite a ((a, oe) :: pn)) (.builtin "isinstance") (rIsEX X.K a cls d) := by
  intro pins s σ H xs us Q I r h
  obtain ⟨rfl, D, c, cv, b, rfl, hC, h⟩ := h
  exact call_isE hC hz hf pins s σ H xs us Q I r ⟨c, cv, b, h⟩
end
/-! ### a hook with further facts -/
abbrev AlX : Type := He.AlD × Bool
structure SaysX (fa : List He.Fa) (fn : List He.DefD) (fx : List (PySem.W.Frag → Bool)) (K : PySem.W.Frag) : Prop where
  d : He.SaysD fa fn K
  x : (fx.all fun f => f K) = true
def obsX (fa : List He.Fa) (fn : List He.DefD) (fx : List (PySem.W.Frag → Bool)) (K : PySem.W.Frag) : AlX := (He.obsD fa fn K, fx.all fun f => f K)
def obsXG (n : Nat) (fa : List He.Fa) (fn : List He.DefD) (fx : List (PySem.W.Frag → Bool)) (g : Addr → Option Obj) : AlX := obsX fa fn fx (He.frG g (He.asD g n))
def hookX (n : Nat) (fa : List He.Fa) (fn : List He.DefD) (fx : List (PySem.W.Frag → Bool)) : PySem.W.Hook where
  α := AlX
  obs := fun s => obsXG n fa fn fx s.heap.get?
  val := fun _ => (He.valD fn, true)
  says := fun _ h => ∃ K : PySem.W.Frag, K.In h ∧ SaysX fa fn fx K
  of := fun _ _ e => ⟨_, He.frG_in, congrArg Prod.fst e, congrArg Prod.snd e⟩
  keeps := fun _ _ _ ⟨K, hK, c⟩ k => ⟨K, PySem.W.Frag.In.keeps hK k, c⟩
theorem obsXG_eq {n : Nat} {fa : List He.Fa} {fn : List He.DefD} {fx : List (PySem.W.Frag → Bool)} {g : Addr → Option Obj} {s : Shared} (h : ∀ a, g a = s.heap.get? a) : obsXG n fa fn fx g = (hookX n fa fn fx).obs s := by
  have e : g = s.heap.get? := funext h
  rw [e] <;> rfl
theorem SaysX.extra {fa : List He.Fa} {fn : List He.DefD} {fx : List (PySem.W.Frag → Bool)} {K : PySem.W.Frag} (c : SaysX fa fn fx K) (i : Nat) {f : PySem.W.Frag → Bool} (h : fx[i]? = some f := by rfl) : f K = true :=
  List.all_eq_true.mp c.x f (List.mem_of_getElem? h)
def fKit (x y : Str) (b : Bool) : PySem.W.Frag → Bool := fun K => decide (PySem.W.kitOne K (.ref (He.ga K x)) (.ref (He.ga K y)) = some b)
theorem fKit_ok {K : PySem.W.Frag} {x y : Str} {b : Bool} (h : fKit x y b K = true) : PySem.W.kitOne K (.ref (He.ga K x)) (.ref (He.ga K y)) = some b := of_decide_eq_true h
def fExcC (x : Str) : PySem.W.Frag → Bool := fun K =>
  He.eqO (PySem.W.findIn K (.ref (He.ga K x)) "__getattribute__") (some (some (.builtin "BaseException.__getattribute__"))) && (He.eqO (PySem.W.findIn K (.ref (He.ga K x)) "__getattr__") (some none) && (decide (PySem.W.subIn K (.ref (He.ga K x)) (.type "BaseException") = some true) &&
    (PySem.W.hasDictIn K (He.ga K x) && (He.eqO (PySem.W.findIn K (.ref (He.ga K x)) "__class__") (some (some (.builtin "object.__class__"))) && (He.eqO (PySem.W.specialIn K (.builtin "object.__class__") "__get__") (some (some (.builtin "getset_descriptor.__get__"))) &&
      (decide (PySem.W.takesIn K (.builtin "object.__class__") = some true) && decide (PySem.W.mroIn K (He.ga K x) (.type "object") = some true)))))))
theorem fExcC_ok {K : PySem.W.Frag} {x : Str} (h : fExcC x K = true) : ExcC K (He.ga K x) := by
  unfold fExcC at h
  obtain ⟨h1, h⟩ := He.ba h
  obtain ⟨h2, h⟩ := He.ba h
  obtain ⟨h3, h⟩ := He.ba h
  obtain ⟨h4, h⟩ := He.ba h
  obtain ⟨h5, h⟩ := He.ba h
  obtain ⟨h6, h⟩ := He.ba h
  obtain ⟨h7, h8⟩ := He.ba h
  exact ⟨He.eqO_ok h1, He.eqO_ok h2, of_decide_eq_true h3, h4, He.eqO_ok h5, He.eqO_ok h6, of_decide_eq_true h7, of_decide_eq_true h8⟩
/-! ### methods that may raise -/
def tMethS (C : Addr) (m : Str) (sp : Sp) (E : L2.St → XK) (ta : TE) (t : TA) : TE := fun σ H Q => ta σ H fun x H1 => ∃ a dx fs, x = .ref a ∧ H1 a = some (.ins C dx fs) ∧ fs.lookup m = none ∧ t σ H1 fun vs H2 => sp (x :: vs) H2 Q (E σ)
theorem pe_methSR {X : Cx} {CX : CXT} {k : Nat} {C f : Addr} {m : Str} {sp : Sp} {E : L2.St → XK} {o e : Expr} {es : List Expr} {ta : TE} {t : TA} {apos pos : Pos} {pl : Sem Bool} (he : PE X o ta) (c : Cls X.K C) (hm : Meth X.K C m f)
    (F : FnR X.prog X.w X.K X.mg X.base CX k f sp) (hr : Room k X.A) (hx : ∀ σ, PassesAt CX X σ (E σ)) (ha : PA X (e :: es) t)
    (hst : starEach (e :: es) X.env = (false, eval e X.env) :: starEach es X.env := by rfl) (hpl : (backTo pos (starEach es X.env)).any (·.1) = false := by rfl)
    (ht : eval (.Call (.Attribute o m apos) (e :: es) [] pos) X.env = (do
      let ov ← eval o X.env
      standAt apos.atName
      let (f, first) ← holding [ov] (getMethod ov m pl)
      callWith pos f first (backTo pos (starEach (e :: es) X.env)) (backToKw pos (keywordEach [] X.env))) := by rfl) :
    PE X (.Call (.Attribute o m apos) (e :: es) [] pos) (tMethS C m sp E ta t) := by
  refine ⟨fun pins s σ H Q I h => ?_⟩
  refine PySem.W.methodCall_KW (pl := pl) (thn (he.run pins s σ H _ I h) fun u s1 ⟨x, H1, I1, rx, a, dx, fs, ex, ea, l, q⟩ => ?_) ht
  subst ex
  obtain rfl : u = Value.ref a := rx
  refine getmeth_ok I1 ea c hm l ?_
  refine PySem.W.callWith_K (first := [.ref a]) (h₀ := X.base) I1.ok.mod.kin hm.kp (thn (ha.run pos pins s1 σ H1 _ I1 q) fun us s2 ⟨vs, H2, I2, r, q2⟩ => ⟨I2.kIn, ?_⟩) hst hpl
  exact run_fnSR (us := .ref a :: us) (vs := .ref a :: vs) F hr (hx σ) I2 (.cons rfl r) q2
/-! ### more methods -/
def rInsert' : V → List V → Hp → VK → Prop := fun x vs H Q => ∃ (l : Addr) (xs : List V) (i : Int) (y : V), x = .ref l ∧ vs = [.int i, y] ∧ H l = some (.lst xs) ∧ xs.length < sizeLine ∧ 0 ≤ i ∧ i < 2 ^ 63 ∧
    Q .non (upd H l (.lst (xs.take i.toNat ++ [y] ++ xs.drop i.toNat)))
theorem m_insert {X : Cx} : MtR X "list.insert" rInsert' := mt_insert
theorem pe_methSR0 {X : Cx} {CX : CXT} {k : Nat} {C f : Addr} {m : Str} {sp : Sp} {E : L2.St → XK} {o : Expr} {ta : TE} {apos pos : Pos} {pl : Sem Bool} (he : PE X o ta) (c : Cls X.K C) (hm : Meth X.K C m f)
    (F : FnR X.prog X.w X.K X.mg X.base CX k f sp) (hr : Room k X.A) (hx : ∀ σ, PassesAt CX X σ (E σ))
    (ht : eval (.Call (.Attribute o m apos) [] [] pos) X.env = (do
      let ov ← eval o X.env
      standAt apos.atName
      let (f, first) ← holding [ov] (getMethod ov m pl)
      callWith pos f first (backTo pos (starEach [] X.env)) (backToKw pos (keywordEach [] X.env))) := by rfl) :
    PE X (.Call (.Attribute o m apos) [] [] pos) (tMethS C m sp E ta tNil) := by
  refine ⟨fun pins s σ H Q I h => ?_⟩
  refine PySem.W.methodCall_KW (pl := pl) (thn (he.run pins s σ H _ I h) fun u s1 ⟨x, H1, I1, rx, a, dx, fs, ex, ea, l, q⟩ => ?_) ht
  subst ex
  obtain rfl : u = Value.ref a := rx
  refine getmeth_ok I1 ea c hm l ?_
  exact PySem.W.callWith_K0 (first := [.ref a]) I1.kIn hm.kp (run_fnSR (us := [.ref a]) (vs := [.ref a]) F hr (hx σ) I1 (.cons rfl .nil) q)
end G

set_option Elab.async false
set_option linter.all false
set_option maxRecDepth 100000
set_option maxHeartbeats 4000000
/-! Lnd: dicts whose keys are tuples, nested: {k: v}, k in d, d[k] = v, d[k]. -/
namespace L2
open PySem PySem.Spec PyProof.Rows
abbrev NEnt := NestedKey × Addr × Value
def nent (w : World) (x : NEnt) : DictEntry := ⟨x.1.hash w, .ref x.2.1, x.2.2⟩
/-- a dict with these entries -/
def ndF (w : World) (a : Addr) (xs : List NEnt) (h : Heap) : Prop := (a == sysModules) = false ∧ xs.length ≤ sizeLine ∧ (∃ o es ep, h.get? a = some o ∧ o.ExactDict ∧ o.data = .dict es ep ∧ es.toList = xs.map (nent w)) ∧ (xs.map (·.1)).Nodup
def ndO (w : World) (a : Addr) (xs : List NEnt) : HO := .ext (ndF w a xs)
theorem ndF_obj {P : Program} {w : World} {H : Hp} {h : Heap} {a : Addr} {xs : List NEnt} (q : ndF w a xs h) : ObjOk P w H h a (ndO w a xs) := by
  refine ⟨q, ?_, fun h1 h2 f k => ?_⟩
  · obtain ⟨_, _, ⟨o, es, ep, e, _⟩, _⟩ := q
    exact ⟨o, e⟩
  · obtain ⟨f1, f2, ⟨o, es, ep, e, r⟩, f4⟩ := f
    exact ⟨f1, f2, ⟨o, es, ep, k _ e, r⟩, f4⟩
/-- the description speaks of its own object -/
theorem ndO_own {P : Program} {w : World} {H : Hp} {h : Heap} {p a : Addr} {xs : List NEnt} (q : ObjOk P w H h p (ndO w a xs)) : a = p ∧ ndF w a xs h := by
  obtain ⟨f, ⟨o, e⟩, st⟩ := q
  refine ⟨?_, f⟩
  obtain ⟨G, g1, g2⟩ := restrict h fun b => decide (b = p)
  have hf := st h G f fun o q => (g1 p (decide_eq_true rfl)).trans q
  obtain ⟨_, _, ⟨o', _, _, e', _⟩, _⟩ := hf
  by_cases hap : a = p
  · exact hap
  · rw [g2 a (decide_eq_false hap)] at e'
    cases e'
/- a value stands for a key -/
mutual
inductive NIs (K : PySem.W.Frag) (H : Hp) : V → NestedKey → Prop
  | non : NIs K H .non .none
  | int (i : Int) : NIs K H (.int i) (.num i)
  | str (x : Str) : NIs K H (.str x) (.text x)
  | tup {a : Addr} {xs : List V} {ks : List NestedKey} : SqT K H a xs → NIsAll K H xs ks → NIs K H (.ref a) (.tup ks)
inductive NIsAll (K : PySem.W.Frag) (H : Hp) : List V → List NestedKey → Prop
  | nil : NIsAll K H [] []
  | cons {v : V} {vs : List V} {k : NestedKey} {ks : List NestedKey} : NIs K H v k → NIsAll K H vs ks → NIsAll K H (v :: vs) (k :: ks)
end
section
variable {X : Cx} {pins : List (Addr × Obj)} {σ : St} {H : Hp} {s : Shared}
mutual
theorem NIs.at (I : Inv X pins σ H s) : ∀ (k : NestedKey) (v : V) (u : Value), NIs X.K H v k → RelV v u → NestedIs s.heap k u
  | .none, _, u, h, r => by cases h; cases (show u = Value.none from r); exact .none
  | .num i, _, u, h, r => by cases h; obtain ⟨t, rfl⟩ := r; exact .int i t
  | .text x, _, u, h, r => by cases h; obtain ⟨t, rfl⟩ := r; exact .text x t
  | .tup ks, _, u, h, r => by
    cases h with
    | tup h1 h2 =>
      obtain ⟨its, rv, p, _⟩ := I.tuple h1
      obtain ⟨o, ho, hc, n, hd⟩ := p
      cases (show u = Value.ref _ from r)
      exact .tup ho hc hd (NIsAll.at I ks _ _ h2 (by simpa using rv))
theorem NIsAll.at (I : Inv X pins σ H s) : ∀ (ks : List NestedKey) (vs : List V) (us : List Value), NIsAll X.K H vs ks → Vals vs us → NestedAll s.heap ks us
  | [], _, _, h, r => by cases h; cases r; exact .nil
  | k :: ks, _, _, h, r => by
    cases h with
    | cons a b =>
      cases r with
      | cons c d => exact .cons (NIs.at I k _ _ a c) (NIsAll.at I ks _ _ b d)
end
/-- the keys stand -/
def NKeys (K : PySem.W.Frag) (H : Hp) (xs : List NEnt) : Prop := ∀ e ∈ xs, NIs K H (.ref e.2.1) e.1 ∧ e.1.depth ≤ 8
theorem nd_dict (I : Inv X pins σ H s) {p a : Addr} {xs : List NEnt} (h : H p = some (ndO X.w a xs)) (hk : NKeys X.K H xs) : a = p ∧ (p == sysModules) = false ∧ xs.length ≤ sizeLine ∧ s.heap.DictOfH (nestedKind X.prog X.w) p xs := by
  obtain ⟨e, f⟩ := ndO_own (I.hok _ _ h)
  subst e
  obtain ⟨f1, f2, ⟨o, es, ep, e1, e2, e3, e4⟩, f4⟩ := f
  exact ⟨rfl, f1, f2, o, es, ep, e1, e2, e3, e4, fun x hx => ⟨NIs.at I _ _ _ (hk x hx).1 rfl, (hk x hx).2⟩, f4⟩
end
/-- k in d -/
def rInN (K : PySem.W.Frag) (w : World) : R2 := fun x y H Q => ∃ p a xs b k, y = .ref p ∧ x = .ref b ∧ H p = some (ndO w a xs) ∧ NKeys K H xs ∧ NIs K H (.ref b) k ∧ k.depth ≤ 8 ∧ Q (.bl (atKey xs k).isSome) H
def rNotInN (K : PySem.W.Frag) (w : World) : R2 := fun x y H Q => ∃ p a xs b k, y = .ref p ∧ x = .ref b ∧ H p = some (ndO w a xs) ∧ NKeys K H xs ∧ NIs K H (.ref b) k ∧ k.depth ≤ 8 ∧ Q (.bl (!(atKey xs k).isSome)) H
/-- d[k] -/
def rIxN (K : PySem.W.Frag) (w : World) : R2 := fun x y H Q => ∃ p a xs b k u, x = .ref p ∧ y = .ref b ∧ H p = some (ndO w a xs) ∧ NKeys K H xs ∧ NIs K H (.ref b) k ∧ k.depth ≤ 8 ∧ atKey xs k = some u ∧ ∀ v, RelV v u.2 → Q v H
/-- d[k] = v -/
def rSetN (K : PySem.W.Frag) (w : World) : TSet := fun o i v H Q => ∃ p a xs b k, o = .ref p ∧ i = .ref b ∧ H p = some (ndO w a xs) ∧ NKeys K H xs ∧ NIs K H (.ref b) k ∧ k.depth ≤ 8 ∧ xs.length < sizeLine ∧ ∀ u, RelV v u → Q (upd H p (ndO w p (storedH xs k b u)))
/-- {k: v} -/
def tND1 (K : PySem.W.Frag) (w : World) (tk tv : TE) : TE := fun σ H Q => ∀ p, H p = none → tk σ (upd H p (ndO w p [])) fun x H1 => tv σ H1 fun y H2 => H2 p = some (ndO w p []) ∧ ∃ b k, x = .ref b ∧ NIs K H2 x k ∧ k.depth ≤ 8 ∧ ∀ u, RelV y u → Q (.ref p) (upd H2 p (ndO w p [(k, b, u)]))
theorem storedH_len {xs : List NEnt} {k : NestedKey} {b : Addr} {u : Value} : (storedH xs k b u).length ≤ xs.length + 1 := by
  unfold storedH
  split
  · simp
  · simp
section
variable {X : Cx}
theorem op_inN (hu : X.A.units + 65 < cLine) : OpR X (compareOp .In) (rInN X.K X.w) := by
  intro pins s σ H x y v u Q I rx ry h
  obtain ⟨p, a, xs, b, k, rfl, rfl, hd, hk, hi, hdep, q⟩ := h
  obtain ⟨e, f1, f2, dd⟩ := nd_dict I hd hk
  cases rx; cases ry
  exact wpAny_in_heap (knd := nestedKind X.prog X.w) (show X.A.units + 1 + 8 < cLine by omega) ⟨NIs.at I _ _ _ hi rfl, hdep⟩ f1 dd ⟨.bl _, H, I.tok _, rfl, q⟩
theorem op_notInN (hu : X.A.units + 65 < cLine) : OpR X (compareOp .NotIn) (rNotInN X.K X.w) := by
  intro pins s σ H x y v u Q I rx ry h
  obtain ⟨p, a, xs, b, k, rfl, rfl, hd, hk, hi, hdep, q⟩ := h
  obtain ⟨e, f1, f2, dd⟩ := nd_dict I hd hk
  cases rx; cases ry
  exact wpAny_notIn_heap (knd := nestedKind X.prog X.w) (show X.A.units + 1 + 8 < cLine by omega) ⟨NIs.at I _ _ _ hi rfl, hdep⟩ f1 dd ⟨.bl _, H, I.tok _, rfl, q⟩
theorem set_nd (hu : X.A.units + 64 < cLine) : PSet X (rSetN X.K X.w) := by
  intro pins s σ H o i v ov iv u Q I ro ri rv h
  obtain ⟨p, a, xs, b, k, rfl, rfl, hd, hk, hi, hdep, hl, q⟩ := h
  obtain ⟨e, f1, f2, dd⟩ := nd_dict I hd hk
  cases (show ov = Value.ref p from ro)
  cases (show iv = Value.ref b from ri)
  refine wpAny_setItem_heap (knd := nestedKind X.prog X.w) (hsz := f2) (show X.A.units + 1 + 8 < cLine by omega) ⟨NIs.at I _ _ _ hi rfl, hdep⟩ dd fun h' dd' hs => ?_
  obtain ⟨o, es, ep, g1, g2, g3, g4, g5, g6⟩ := dd'
  have hl2 : (storedH xs k b u).length ≤ sizeLine := by
    have := storedH_len (xs := xs) (k := k) (b := b) (u := u)
    omega
  exact ⟨_, d_write I (by rw [hd]; exact True.intro) hs ⟨o, g1⟩ (ndF_obj ⟨f1, hl2, ⟨o, es, ep, g1, g2, g3, g4⟩, g6⟩), q u rv⟩
theorem pe_nd1 (hu : X.A.units + 64 < cLine) {ke ve : Expr} {tk tv : TE} {pos : Pos} (hk : PE X ke tk) (hv : PE X ve tv) : PE X (.Dict [some ke] [ve] pos) (tND1 X.K X.w tk tv) := by
  refine ⟨fun pins s σ H Q I q => ?_⟩
  have hn := I.hok.fresh (Nat.le_refl s.heap.objs.size)
  have low : (s.heap.objs.size == sysModules) = false := by
    exact beq_eq_false_iff_ne.mpr (Nat.ne_of_gt I.big)
  have I1 := I.laid (a := s.heap.objs.size) (o := ndO X.w s.heap.objs.size []) (h' := s.heap.push { cls := .type "dict", data := .dict #[] }) (t' := s.toks) (fun _ _ q => Heap.get?_push_of_some _ q) (Nat.le_refl _)
    (ndF_obj ⟨low, Nat.zero_le _, ⟨_, #[], 0, Heap.get?_push_size _ rfl, ⟨rfl, rfl, rfl⟩, rfl, rfl⟩, List.nodup_nil⟩)
  have hsh : (evalEachOpt [some ke] X.env).zip ((evalEach [ve] X.env).map fun v => do let x ← v; standAt pos; pure x) = (pairTrees [some ke] [ve] X.env pos).map fun p => (some p.1, p.2) := by
    first
      | rfl
      | exact zip_pairTrees [some ke] [ve] X.env pos rfl rfl
  have h0 : pairTrees [some ke] [ve] X.env pos ≠ [] := fun z => by cases z
  rw [arm_eval_Dict, hsh, dictDisplay_pairs _ h0 (by show (1 : Nat) < 17; decide)]
  refine wpAny_bind (wpAny_standAt (wpAny_bind (wpAny_subDictH (knd := nestedKind X.prog X.w) (Q := fun d s' => wpAny (model X.prog X.w) X.A (pure (Value.ref d)) (EP X pins σ Q) X.xe s') (show X.A.units + 8 < cLine by omega) (by show (1 : Nat) ≤ 15; decide) ?_)))
  refine pairTrees_cons_walk (thn (hk.run pins _ σ _ _ I1 (q _ hn)) fun u s1 hq1 => ?_)
  obtain ⟨x, H1, I1', rx, q1⟩ := hq1
  refine thn (hv.run pins s1 σ H1 _ I1' q1) fun u2 s2 hq2 => ?_
  obtain ⟨y, H2, I2, ry, hp, b, k, rfl, hi, hdep, q2⟩ := hq2
  cases (show u = Value.ref b from rx)
  refine pairTrees_nil_walk ?_
  obtain ⟨e, f1, f2, dd⟩ := nd_dict I2 hp (fun e he => by cases he)
  refine ⟨[(k, b, u2)], ⟨rfl, rfl, ⟨NIs.at I2 _ _ _ hi rfl, hdep⟩, trivial⟩, dd, fun h' tk hd hs => ?_⟩
  obtain ⟨o, es, ep, g1, g2, g3, g4, g5, g6⟩ := hd
  exact wpAny_pure ⟨.ref s.heap.objs.size, _, d_write (t' := tk) I2 (by rw [hp]; exact True.intro) hs ⟨o, g1⟩ (ndF_obj ⟨f1, by show (1 : Nat) ≤ sizeLine; decide, ⟨o, es, ep, g1, g2, g3, g4⟩, g6⟩), rfl, q2 u2 ry⟩
end
end L2

set_option Elab.async false
set_option linter.all false
set_option maxRecDepth 10000000
set_option maxHeartbeats 4000000
/-! Dat: values as data. A reading is told by data alone: no heap stands in the judgements. -/
namespace G
open PySem PySem.Spec PyProof.Rows L2

inductive D where
  | non | bl (b : Bool) | int (i : Int) | str (x : Str) | tup (ds : List D) | lst (ds : List D) | ins (C : Addr) (ns : List Str) (ds : List D) | kl (ds : List D) | val (v : V) | dct (ks : List L2.Key) (ds : List D) | ndc (w : World) (kds ds : List D)

mutual
/-- tuples as keys -/
def nkD : D → NestedKey
  | .non => .none
  | .int i => .num i
  | .str x => .text x
  | .tup ds => .tup (nkL ds)
  | _ => .none
def nkL : List D → List NestedKey
  | [] => []
  | d :: ds => nkD d :: nkL ds
end
mutual
def D.nk : D → Bool
  | .non => true
  | .int _ => true
  | .str _ => true
  | .tup ds => D.nkAll ds
  | _ => false
def D.nkAll : List D → Bool
  | [] => true
  | d :: ds => d.nk && D.nkAll ds
end
/-- a key: a tuple of such -/
def D.key (d : D) : Bool := d.nk && decide ((nkD d).depth ≤ 8) && (match d with | .tup _ => true | _ => false)
mutual
/-- in the heap R the value v stands for the datum -/
inductive Rep (K : PySem.W.Frag) (R : Hp) : V → D → Prop
  | non : Rep K R .non .non
  | bl (b : Bool) : Rep K R (.bl b) (.bl b)
  | int (i : Int) : Rep K R (.int i) (.int i)
  | str (x : Str) : Rep K R (.str x) (.str x)
  | tup {a : Addr} {xs : List V} {ds : List D} : SqT K R a xs → RepL K R xs ds → Rep K R (.ref a) (.tup ds)
  | lst {a : Addr} {xs : List V} {ds : List D} : Rd R a (.lst xs) → RepL K R xs ds → Rep K R (.ref a) (.lst ds)
  | kl {a : Addr} {xs : List V} {ds : List D} : SqL K R a xs → RepL K R xs ds → Rep K R (.ref a) (.kl ds)
  | ins {a C dx : Addr} {ns : List Str} {vs : List V} {ds : List D} : R a = some (.ins C dx (ns.zip vs)) → ns.length = ds.length → RepL K R vs ds → Rep K R (.ref a) (.ins C ns ds)
  | val (v : V) : Rep K R v (.val v)
  | ndc {p a : Addr} {w : World} {xs : List NEnt} {vs : List V} {kds ds : List D} : R p = some (ndO w a xs) → xs.map (·.1) = kds.map nkD → (∀ d ∈ kds, d.key = true) → RepL K R (xs.map fun e => V.ref e.2.1) kds → Vals vs (xs.map fun e => e.2.2) → RepL K R vs ds → Rep K R (.ref p) (.ndc w kds ds)
  | dct {a : Addr} {ks : List L2.Key} {vs : List V} {ds : List D} : R a = some (.dK (ks.zip vs)) → ks.length = ds.length → RepL K R vs ds → Rep K R (.ref a) (.dct ks ds)
inductive RepL (K : PySem.W.Frag) (R : Hp) : List V → List D → Prop
  | nil : RepL K R [] []
  | cons {v : V} {vs : List V} {d : D} {ds : List D} : Rep K R v d → RepL K R vs ds → RepL K R (v :: vs) (d :: ds)
end

theorem rdSame {R R' : Hp} {a : Addr} {o : HO} (h : Same R R') (q : Rd R a o) : Rd R' a o := q.elim (fun e => .inl (h _ _ e)) fun ⟨x, e⟩ => .inr ⟨x, h _ _ e⟩
theorem rdS {K : PySem.W.Frag} {R R' : Hp} {a : Addr} {xs : List V} (h : Same R R') (q : Rd R a (.lst xs)) : SqL K R' a xs := .inl (rdSame h q)
theorem sqT_mono {K : PySem.W.Frag} {R R' : Hp} {a : Addr} {xs : List V} (h : ∀ b zs, Rd R b (.tup zs) → Rd R' b (.tup zs)) (q : SqT K R a xs) : SqT K R' a xs := by
  rcases q with q | q
  · exact .inl (h _ _ q)
  · exact .inr q
theorem sqT_same {K : PySem.W.Frag} {R R' : Hp} {a : Addr} {xs : List V} (h : Same R R') (q : SqT K R a xs) : SqT K R' a xs :=
  sqT_mono (fun b zs r => r.elim (fun e => .inl (h _ _ e)) fun ⟨o, e⟩ => .inr ⟨o, h _ _ e⟩) q
section
variable {K : PySem.W.Frag} {R R' : Hp}
mutual
theorem Rep.mono (h : Same R R') : ∀ (d : D) (v : V), Rep K R v d → Rep K R' v d
  | .non, _, q => by cases q; exact .non
  | .bl b, _, q => by cases q; exact .bl b
  | .int i, _, q => by cases q; exact .int i
  | .str x, _, q => by cases q; exact .str x
  | .tup ds, _, q => by
    cases q with
    | tup a b => exact .tup (sqT_same h a) (RepL.mono h ds _ b)
  | .lst ds, _, q => by
    cases q with
    | lst a b => exact .lst (rdSame h a) (RepL.mono h ds _ b)
  | .kl ds, _, q => by
    cases q with
    | kl a b => exact .kl (h.seq a) (RepL.mono h ds _ b)
  | .ins C ns ds, _, q => by
    cases q with
    | ins a l b => exact .ins (h _ _ a) l (RepL.mono h ds _ b)
  | .val v, _, q => by cases q; exact .val v
  | .dct ks ds, _, q => by
    cases q with
    | dct a l b => exact .dct (h _ _ a) l (RepL.mono h ds _ b)
  | .ndc w kds ds, _, q => by
    cases q with
    | ndc a b c d e f => exact .ndc (h _ _ a) b c (RepL.mono h kds _ d) e (RepL.mono h ds _ f)
theorem RepL.mono (h : Same R R') : ∀ (ds : List D) (vs : List V), RepL K R vs ds → RepL K R' vs ds
  | [], _, q => by cases q; exact .nil
  | d :: ds, _, q => by
    cases q with
    | cons a b => exact .cons (Rep.mono h d _ a) (RepL.mono h ds _ b)
end
/- no list in it -/
mutual
def D.sol : D → Bool
  | .tup ds => D.solL ds
  | .lst _ => false
  | .ins _ _ _ => false
  | .kl _ => false
  | .dct _ _ => false
  | .ndc _ _ _ => false
  | _ => true
def D.solL : List D → Bool
  | [] => true
  | d :: ds => d.sol && D.solL ds
end
mutual
theorem Rep.solid (h : ∀ b zs, Rd R b (.tup zs) → Rd R' b (.tup zs)) : ∀ (d : D) (v : V), d.sol = true → Rep K R v d → Rep K R' v d
  | .non, _, _, q => by cases q; exact .non
  | .bl b, _, _, q => by cases q; exact .bl b
  | .int i, _, _, q => by cases q; exact .int i
  | .str x, _, _, q => by cases q; exact .str x
  | .tup ds, _, s, q => by
    cases q with
    | tup a b => exact .tup (sqT_mono h a) (RepL.solid h ds _ (by simpa [D.sol] using s) b)
  | .lst ds, _, s, _ => by simp [D.sol] at s
  | .ins C ns ds, _, s, _ => by simp [D.sol] at s
  | .kl ds, _, s, _ => by simp [D.sol] at s
  | .val v, _, _, q => by cases q; exact .val v
  | .dct ks ds, _, s, _ => by simp [D.sol] at s
  | .ndc _ _ _, _, s, _ => by simp [D.sol] at s
theorem RepL.solid (h : ∀ b zs, Rd R b (.tup zs) → Rd R' b (.tup zs)) : ∀ (ds : List D) (vs : List V), D.solL ds = true → RepL K R vs ds → RepL K R' vs ds
  | [], _, _, q => by cases q; exact .nil
  | d :: ds, _, s, q => by
    simp only [D.solL, Bool.and_eq_true] at s
    cases q with
    | cons a b => exact .cons (Rep.solid h d _ s.1 a) (RepL.solid h ds _ s.2 b)
end
theorem RepL.len : ∀ {vs : List V} {ds : List D}, RepL K R vs ds → vs.length = ds.length
  | _, _, .nil => rfl
  | _, _, .cons _ t => by rw [List.length_cons, List.length_cons, RepL.len t]
theorem RepL.get : ∀ {vs : List V} {ds : List D} {i : Nat} {d : D}, RepL K R vs ds → ds[i]? = some d → ∃ v, vs[i]? = some v ∧ Rep K R v d
  | _, _, _, _, .nil, e => by simp at e
  | _, _, 0, _, .cons r _, e => by
    simp at e
    subst e
    exact ⟨_, rfl, r⟩
  | _, _, i + 1, d, .cons _ t, e => by
    obtain ⟨v, h1, h2⟩ := RepL.get (i := i) (d := d) t (by simpa using e)
    exact ⟨v, by simpa using h1, h2⟩
theorem RepL.getV : ∀ {vs : List V} {ds : List D} {i : Nat} {v : V}, RepL K R vs ds → vs[i]? = some v → ∃ d, ds[i]? = some d ∧ Rep K R v d
  | _, _, _, _, .nil, e => by simp at e
  | _, _, 0, _, .cons r _, e => by
    simp at e
    subst e
    exact ⟨_, rfl, r⟩
  | _, _, i + 1, v, .cons _ t, e => by
    obtain ⟨d, h1, h2⟩ := RepL.getV (i := i) (v := v) t (by simpa using e)
    exact ⟨d, by simpa using h1, h2⟩
theorem RepL.app : ∀ {vs ws : List V} {ds es : List D}, RepL K R vs ds → RepL K R ws es → RepL K R (vs ++ ws) (ds ++ es)
  | _, _, _, _, .nil, s => s
  | _, _, _, _, .cons r t, s => .cons r (RepL.app t s)
theorem RepL.take : ∀ {vs : List V} {ds : List D} (n : Nat), RepL K R vs ds → RepL K R (vs.take n) (ds.take n)
  | _, _, 0, _ => .nil
  | _, _, _ + 1, .nil => .nil
  | _, _, n + 1, .cons r t => .cons r (RepL.take n t)
theorem RepL.drop : ∀ {vs : List V} {ds : List D} (n : Nat), RepL K R vs ds → RepL K R (vs.drop n) (ds.drop n)
  | _, _, 0, r => r
  | _, _, _ + 1, .nil => .nil
  | _, _, n + 1, .cons _ t => RepL.drop n t
theorem RepL.set : ∀ {vs : List V} {ds : List D} (i : Nat) {v : V} {d : D}, RepL K R vs ds → Rep K R v d → RepL K R (vs.set i v) (ds.set i d)
  | _, _, _, _, _, .nil, _ => .nil
  | _, _, 0, _, _, .cons _ t, q => .cons q t
  | _, _, i + 1, _, _, .cons r t, q => .cons r (RepL.set i t q)
theorem RepL.last {vs : List V} {ds : List D} (h : RepL K R vs ds) : RepL K R vs.dropLast ds.dropLast := by
  rw [List.dropLast_eq_take, List.dropLast_eq_take, h.len]
  exact h.take _
end

/-! ### how the heaps grow: H the heap, R the part of it that the data stand in -/
structure Gr (H R H' R' : Hp) : Prop where
  h : Same H H'
  r : Same R R'
  i : Same R' H'
  o : ∀ a o, H a = some o → R a = none → R' a = none
theorem Gr.refl {H R : Hp} (h : Same R H) : Gr H R H R := ⟨Same.refl _, Same.refl _, h, fun _ _ _ e => e⟩
theorem Gr.trans {H R H1 R1 H2 R2 : Hp} (a : Gr H R H1 R1) (b : Gr H1 R1 H2 R2) : Gr H R H2 R2 :=
  ⟨a.h.trans b.h, a.r.trans b.r, b.i, fun x o e n => b.o x o (a.h x o e) (a.o x o e n)⟩
/-- a new object, kept as data -/
theorem Gr.new {H R : Hp} (h : Same R H) {p : Addr} {u : HO} (hp : H p = none) : Gr H R (upd H p u) (upd R p u) := by
  have rp : R p = none := h.free hp
  refine ⟨fun b o e => ?_, fun b o e => ?_, fun b o e => ?_, fun a o e n => ?_⟩
  · rw [upd_ne (ne_of_none e hp)]; exact e
  · rw [upd_ne (ne_of_none e rp)]; exact e
  · by_cases hb : b = p
    · subst hb; rw [upd_same] at e ⊢; exact e
    · rw [upd_ne hb] at e ⊢; exact h b o e
  · rw [upd_ne (ne_of_none e hp)]; exact n
/-- a new object, not among the data -/
theorem Gr.apart {H R : Hp} (h : Same R H) {p : Addr} {u : HO} (hp : H p = none) : Gr H R (upd H p u) R :=
  ⟨fun b o e => by rw [upd_ne (ne_of_none e hp)]; exact e, Same.refl _, fun b o e => by rw [upd_ne (ne_of_none (h b o e) hp)]; exact h b o e, fun _ _ _ n => n⟩

/-! ### expressions -/
abbrev DEnv := List (Option D)
def EnvR (K : PySem.W.Frag) (R : Hp) (σ : L2.St) (δ : DEnv) : Prop := δ.length ≤ σ.length ∧ ∀ (i : Nat) (d : D), δ[i]? = some (some d) → ∃ v, σ[i]? = some (some v) ∧ Rep K R v d
theorem EnvR.mono {K : PySem.W.Frag} {R R' : Hp} {σ : L2.St} {δ : DEnv} (s : Same R R') (e : EnvR K R σ δ) : EnvR K R' σ δ := ⟨e.1, fun i d h => by
  obtain ⟨v, h1, h2⟩ := e.2 i d h
  exact ⟨v, h1, h2.mono s⟩⟩
/-- the expression gives the datum -/
def DE (K : PySem.W.Frag) (δ : DEnv) (te : TE) (d : D) : Prop := ∀ (H R : Hp) (σ : L2.St) (Q : VK), Same R H → EnvR K R σ δ → (∀ v H' R', Gr H R H' R' → Rep K R' v d → Q v H') → te σ H Q
/-- .. a new list of these -/
def DL (K : PySem.W.Frag) (δ : DEnv) (te : TE) (ds : List D) : Prop := ∀ (H R : Hp) (σ : L2.St) (Q : VK), Same R H → EnvR K R σ δ →
  (∀ p xs H' R', Gr H R H' R' → H p = none → H' p = some (.lst xs) → R' p = none → xs.length ≤ sizeLine → RepL K R' xs ds → Q (.ref p) H') → te σ H Q
def DT (K : PySem.W.Frag) (δ : DEnv) (tt : TT) (b : Bool) : Prop := ∀ (H R : Hp) (σ : L2.St) (Q : Bool → Hp → Prop), Same R H → EnvR K R σ δ → (∀ H' R', Gr H R H' R' → Q b H') → tt σ H Q
def DA (K : PySem.W.Frag) (δ : DEnv) (ta : TA) (ds : List D) : Prop := ∀ (H R : Hp) (σ : L2.St) (Q : List V → Hp → Prop), Same R H → EnvR K R σ δ → (∀ vs H' R', Gr H R H' R' → RepL K R' vs ds → Q vs H') → ta σ H Q
/-- an operation on values gives the datum -/
def DO (K : PySem.W.Frag) (r : R2) (x y z : D) : Prop := ∀ (H R : Hp) (v u : V) (Q : VK), Same R H → Rep K R v x → Rep K R u y → (∀ w H' R', Gr H R H' R' → Rep K R' w z → Q w H') → r v u H Q
def DC (K : PySem.W.Frag) (r : List V → Hp → VK → Prop) (xs : List D) (z : D) : Prop := ∀ (H R : Hp) (vs : List V) (Q : VK), Same R H → RepL K R vs xs → (∀ w H' R', Gr H R H' R' → Rep K R' w z → Q w H') → r vs H Q
section
variable {K : PySem.W.Frag} {δ : DEnv} {ta tb te tc : TE} {tt tu : TT} {a : TA} {x y z d : D} {ds es : List D} {b c : Bool} {i : Nat} {r r' : R2}
theorem d_var (h : δ[i]? = some (some d)) : DE K δ (tVar i) d := fun H R σ Q s e q => by
  obtain ⟨v, h1, h2⟩ := e.2 i d h
  exact ⟨v, h1, q v H R (Gr.refl s) h2⟩
theorem d_non : DE K δ (tC .non) .non := fun H R σ Q s e q => q _ H R (Gr.refl s) .non
theorem d_bl : DE K δ (tC (.bl b)) (.bl b) := fun H R σ Q s e q => q _ H R (Gr.refl s) (.bl b)
theorem d_int {n : Int} : DE K δ (tC (.int n)) (.int n) := fun H R σ Q s e q => q _ H R (Gr.refl s) (.int n)
theorem d_str {n : Str} : DE K δ (tC (.str n)) (.str n) := fun H R σ Q s e q => q _ H R (Gr.refl s) (.str n)
theorem d_val {v : V} : DE K δ (tC v) (.val v) := fun H R σ Q s e q => q _ H R (Gr.refl s) (.val v)
theorem d_op (h1 : DE K δ ta x) (h2 : DE K δ tb y) (h3 : DO K r x y z) : DE K δ (tOp r ta tb) z := fun H R σ Q s e q =>
  h1 H R σ _ s e fun v H1 R1 g1 r1 => h2 H1 R1 σ _ g1.i (e.mono g1.r) fun u H2 R2 g2 r2 => h3 H2 R2 v u Q g2.i (r1.mono g2.r) r2 fun w H3 R3 g3 r3 => q w H3 R3 ((g1.trans g2).trans g3) r3
theorem d_anil : DA K δ tNil [] := fun H R σ Q s e q => q [] H R (Gr.refl s) .nil
theorem d_acons (h1 : DE K δ ta x) (h2 : DA K δ a ds) : DA K δ (tCons ta a) (x :: ds) := fun H R σ Q s e q =>
  h1 H R σ _ s e fun v H1 R1 g1 r1 => h2 H1 R1 σ _ g1.i (e.mono g1.r) fun vs H2 R2 g2 r2 => q (v :: vs) H2 R2 (g1.trans g2) (.cons (r1.mono g2.r) r2)
theorem d_cb {rc : List V → Hp → VK → Prop} (h1 : DA K δ a ds) (h2 : DC K rc ds z) : DE K δ (tCB rc a) z := fun H R σ Q s e q =>
  h1 H R σ _ s e fun vs H1 R1 g1 r1 => h2 H1 R1 vs Q g1.i r1 fun w H2 R2 g2 r2 => q w H2 R2 (g1.trans g2) r2
theorem d_tup (h : DA K δ a ds) (hn : ds.length ≤ 10000000) : DE K δ (tTup a) (.tup ds) := fun H R σ Q s e q =>
  h H R σ _ s e fun vs H1 R1 g1 r1 => ⟨small (by rw [r1.len]; exact hn), fun p hp => q (.ref p) _ _ (g1.trans (Gr.new g1.i hp)) (.tup (SqT.of upd_same) (r1.mono (Gr.new g1.i hp).r))⟩
theorem dl_lst (h : DA K δ a ds) (hn : ds.length ≤ 10000000) : DL K δ (tLst a) ds := fun H R σ Q s e q =>
  h H R σ _ s e fun vs H1 R1 g1 r1 => ⟨small (by rw [r1.len]; exact hn), fun p hp => q p vs _ _ (g1.trans (Gr.apart g1.i hp)) (g1.h.free hp) upd_same (g1.i.free hp) (small (by rw [r1.len]; exact hn)) r1⟩
/-- a new list as data -/
theorem DL.de (h : DL K δ te ds) : DE K δ te (.lst ds) := fun H R σ Q s e q =>
  h H R σ Q s e fun p xs H' R' g hp h1 h2 hn r => by
    have g2 : Gr H R H' (upd R' p (.lst xs)) := by
      refine ⟨g.h, fun b o e => ?_, fun b o e => ?_, fun a o e n => ?_⟩
      · have e' := g.r b o e
        rw [upd_ne (ne_of_none e' h2)]; exact e'
      · by_cases hb : b = p
        · subst hb; rw [upd_same] at e; rw [h1]; exact e
        · rw [upd_ne hb] at e; exact g.i b o e
      · rw [upd_ne (ne_of_none e hp)]; exact g.o a o e n
    refine q (.ref p) H' _ g2 (.lst (.inl upd_same) (r.mono fun b o e => ?_))
    rw [upd_ne (ne_of_none e h2)]; exact e
theorem d_if (h1 : DT K δ tt b) (h2 : b = true → DE K δ ta d) (h3 : b = false → DE K δ tb d) : DE K δ (tIf tt ta tb) d := fun H R σ Q s e q =>
  h1 H R σ _ s e fun H1 R1 g1 => by
    have k : ∀ v H' R', Gr H1 R1 H' R' → Rep K R' v d → Q v H' := fun v H' R' g r => q v H' R' (g1.trans g) r
    cases b with
    | true => exact if_tt (h2 rfl H1 R1 σ Q g1.i (e.mono g1.r) k)
    | false => exact if_ff (h3 rfl H1 R1 σ Q g1.i (e.mono g1.r) k)
theorem dt_test (h : DE K δ te (.bl b)) : DT K δ (tTest te) b := fun H R σ Q s e q => h H R σ _ s e fun v H' R' g r => by cases r; exact ⟨b, rfl, q H' R' g⟩
theorem dt_and (h1 : DT K δ tt b) (h2 : b = true → DT K δ tu c) : DT K δ (tAnd tt tu) (b && c) := fun H R σ Q s e q =>
  h1 H R σ _ s e fun H1 R1 g1 => by
    cases b with
    | true => exact if_tt (h2 rfl H1 R1 σ Q g1.i (e.mono g1.r) fun H' R' g => q H' R' (g1.trans g))
    | false => exact if_ff (q H1 R1 g1)
theorem dt_or (h1 : DT K δ tt b) (h2 : b = false → DT K δ tu c) : DT K δ (tOr tt tu) (b || c) := fun H R σ Q s e q =>
  h1 H R σ _ s e fun H1 R1 g1 => by
    cases b with
    | true => exact if_tt (q H1 R1 g1)
    | false => exact if_ff (h2 rfl H1 R1 σ Q g1.i (e.mono g1.r) fun H' R' g => q H' R' (g1.trans g))
theorem dt_not (h : DT K δ tt b) : DT K δ (tNot tt) (!b) := fun H R σ Q s e q => h H R σ _ s e fun H1 R1 g1 => q H1 R1 g1
theorem dt_yes : DT K δ tYes true := fun H R σ Q s e q => q H R (Gr.refl s)
theorem dt_is (h : DT K δ tt b) (e : b = c) : DT K δ tt c := e ▸ h
theorem de_is (h : DE K δ te x) (e : x = y) : DE K δ te y := e ▸ h
/-- truth -/
def D.truth : D → Bool
  | .non => false
  | .bl b => b
  | .int i => i != 0
  | .str x => (x.length : Int) != 0
  | .tup ds => !ds.isEmpty
  | .lst ds => !ds.isEmpty
  | .dct ks _ => !ks.isEmpty
  | _ => true
def D.truOk : D → Prop
  | .str x => x.length ≤ sizeLine
  | .val _ => False
  | .ins _ _ _ => False
  | .kl _ => False
  | .ndc _ _ _ => False
  | _ => True
theorem Rep.tru {R H : Hp} {v : V} (s : Same R H) (h : Rep K R v d) (o : d.truOk) : TruV K v H d.truth := by
  cases h with
  | non => rfl
  | bl b => rfl
  | int i => rfl
  | str x => exact ⟨o, rfl⟩
  | @tup a xs ds h1 h2 => exact .inr (.inl ⟨xs, sqT_same s h1, by cases h2 <;> rfl⟩)
  | @lst a xs ds h1 h2 => exact .inl ⟨xs, rdS s h1, by cases h2 <;> rfl⟩
  | ins _ _ _ => exact o.elim
  | kl _ _ => exact o.elim
  | val v => exact o.elim
  | ndc _ _ _ _ _ _ => exact o.elim
  | @dct a ks vs ds h1 h2 h3 => exact .inr (.inr ⟨_, s _ _ h1, by
    have := h3.len
    cases ks with
    | nil => rfl
    | cons k ks =>
      cases vs with
      | nil => simp at this h2; omega
      | cons v vs => rfl⟩)
theorem dt_tru (h : DE K δ te d) (o : d.truOk) : DT K δ (tTru' K te) d.truth := fun H R σ Q s e q => h H R σ _ s e fun v H' R' g r => ⟨_, r.tru g.i o, q H' R' g⟩
theorem d_andT (h1 : DE K δ ta x) (o : x.truOk) (h2 : x.truth = true → DE K δ tb y) (hz : z = if x.truth = true then y else x) : DE K δ (tAndT K ta tb) z := fun H R σ Q s e q =>
  h1 H R σ _ s e fun v H1 R1 g1 r1 => ⟨_, r1.tru g1.i o, by
    subst hz
    cases hx : x.truth with
    | true =>
      rw [hx] at q
      exact if_tt (h2 hx H1 R1 σ Q g1.i (e.mono g1.r) fun w H' R' g r => q w H' R' (g1.trans g) (by rw [if_pos rfl]; exact r))
    | false =>
      rw [hx] at q
      exact if_ff (q v H1 R1 g1 (by rw [if_neg (by decide)]; exact r1))⟩
theorem d_orT (h1 : DE K δ ta x) (o : x.truOk) (h2 : x.truth = false → DE K δ tb y) (hz : z = if x.truth = true then x else y) : DE K δ (tOrT K ta tb) z := fun H R σ Q s e q =>
  h1 H R σ _ s e fun v H1 R1 g1 r1 => ⟨_, r1.tru g1.i o, by
    subst hz
    cases hx : x.truth with
    | true =>
      rw [hx] at q
      exact if_tt (q v H1 R1 g1 (by rw [if_pos rfl]; exact r1))
    | false =>
      rw [hx] at q
      exact if_ff (h2 hx H1 R1 σ Q g1.i (e.mono g1.r) fun w H' R' g r => q w H' R' (g1.trans g) (by rw [if_neg (by decide)]; exact r))⟩
theorem d_notT (h1 : DE K δ ta x) (o : x.truOk) : DE K δ (tNotT K ta) (.bl (!x.truth)) := fun H R σ Q s e q =>
  h1 H R σ _ s e fun v H1 R1 g1 r1 => ⟨_, r1.tru g1.i o, q _ H1 R1 g1 (.bl _)⟩
theorem d_chain (h1 : DE K δ ta x) (h2 : DE K δ tb y) (h3 : DO K r x y (.bl b)) (h4 : b = true → DE K δ tc z ∧ DO K r' y z (.bl c)) : DE K δ (tChain r r' ta tb tc) (.bl (b && c)) := fun H R σ Q s e q =>
  h1 H R σ _ s e fun v H1 R1 g1 r1 => h2 H1 R1 σ _ g1.i (e.mono g1.r) fun u H2 R2 g2 r2 => h3 H2 R2 v u _ g2.i (r1.mono g2.r) r2 fun w H3 R3 g3 r3 => by
    cases r3
    refine ⟨b, rfl, ?_⟩
    have gg := (g1.trans g2).trans g3
    cases b with
    | true => exact if_tt ((h4 rfl).1 H3 R3 σ _ gg.i (e.mono gg.r) fun w' H4 R4 g4 r4 => (h4 rfl).2 H4 R4 u w' Q g4.i ((r2.mono g3.r).mono g4.r) r4 fun w2 H5 R5 g5 r5 => q w2 H5 R5 ((gg.trans g4).trans g5) r5)
    | false => exact if_ff (q _ H3 R3 gg (.bl _))
/-- how a def's body ends -/
inductive Res where
  | rt (d : D) | rl (ds : List D) | ex (c : Value) (fs : List (Str × D))
/-- an exception's own dict, as data -/
def ExOk (K : PySem.W.Frag) (R : Hp) : Option Addr → List (Str × D) → Prop
  | none, fs => fs = []
  | some a, fs => fs ≠ [] ∧ ∃ vs, R a = some (.xd ((fs.map Prod.fst).zip vs)) ∧ RepL K R vs (fs.map Prod.snd)
def ResOk (K : PySem.W.Frag) (H R : Hp) (Q : VK) (E : XK) : Res → Prop
  | .rt d => ∀ v H' R', Gr H R H' R' → Rep K R' v d → Q v H'
  | .rl es => ∀ p xs H' R', Gr H R H' R' → H p = none → H' p = some (.lst xs) → R' p = none → xs.length ≤ sizeLine → RepL K R' xs es → Q (.ref p) H'
  | .ex c fs => ∀ dd H' R', Gr H R H' R' → ExOk K R' dd fs → E c dd H'
/-- a def's promise on data -/
def spD (K : PySem.W.Frag) (rel : List D → Res → Prop) : Sp := fun vs H Q E => ∃ R ds r, Same R H ∧ RepL K R vs ds ∧ rel ds r ∧ ResOk K H R Q E r
theorem d_call {rel : List D → Res → Prop} {E : XK} (h1 : DA K δ a ds) (h2 : rel ds (.rt d)) : DE K δ (tCallR (spD K rel) E a) d := fun H R σ Q s e q =>
  h1 H R σ _ s e fun vs H1 R1 g1 r1 => ⟨R1, ds, .rt d, g1.i, r1, h2, fun v H' R' g r => q v H' R' (g1.trans g) r⟩
theorem dl_call {rel : List D → Res → Prop} {E : XK} (h1 : DA K δ a ds) (h2 : rel ds (.rl es)) : DL K δ (tCallR (spD K rel) E a) es := fun H R σ Q s e q =>
  h1 H R σ _ s e fun vs H1 R1 g1 r1 => ⟨R1, ds, .rl es, g1.i, r1, h2, fun p xs H' R' g hp h1 h2 hn r => q p xs H' R' (g1.trans g) (g1.h.free hp) h1 h2 hn r⟩
theorem d_callS {rel : List D → Res → Prop} {E : L2.St → XK} (h1 : DA K δ a ds) (h2 : rel ds (.rt d)) : DE K δ (tCallS (spD K rel) E a) d := fun H R σ Q s e q =>
  h1 H R σ _ s e fun vs H1 R1 g1 r1 => ⟨R1, ds, .rt d, g1.i, r1, h2, fun v H' R' g r => q v H' R' (g1.trans g) r⟩
theorem dl_callS {rel : List D → Res → Prop} {E : L2.St → XK} (h1 : DA K δ a ds) (h2 : rel ds (.rl es)) : DL K δ (tCallS (spD K rel) E a) es := fun H R σ Q s e q =>
  h1 H R σ _ s e fun vs H1 R1 g1 r1 => ⟨R1, ds, .rl es, g1.i, r1, h2, fun p xs H' R' g hp h1 h2 hn r => q p xs H' R' (g1.trans g) (g1.h.free hp) h1 h2 hn r⟩
/-- the expression raises -/
def DEx (K : PySem.W.Frag) (W : WX) (δ : DEnv) (te : TE) (c : Value) (fs : List (Str × D)) : Prop := ∀ (H R : Hp) (σ : L2.St) (Q : VK), Same R H → EnvR K R σ δ → (∀ dd H' R', Gr H R H' R' → ExOk K R' dd fs → W c dd σ H') → te σ H Q
theorem dx_callS {rel : List D → Res → Prop} {W : WX} {c : Value} {fs : List (Str × D)} (h1 : DA K δ a ds) (h2 : rel ds (.ex c fs)) : DEx K W δ (tCallS (spD K rel) (WE W) a) c fs := fun H R σ Q s e q =>
  h1 H R σ _ s e fun vs H1 R1 g1 r1 => ⟨R1, ds, .ex c fs, g1.i, r1, h2, fun dd H' R' g r => q dd H' R' (g1.trans g) r⟩
/-- .. in the first of the arguments that does -/
def DAx (K : PySem.W.Frag) (W : WX) (δ : DEnv) (ta : TA) (c : Value) (fs : List (Str × D)) : Prop := ∀ (H R : Hp) (σ : L2.St) (Q : List V → Hp → Prop), Same R H → EnvR K R σ δ → (∀ dd H' R', Gr H R H' R' → ExOk K R' dd fs → W c dd σ H') → ta σ H Q
theorem dxa_here {W : WX} {c : Value} {fs : List (Str × D)} (h : DEx K W δ ta c fs) : DAx K W δ (tCons ta a) c fs := fun H R σ Q s e q => h H R σ _ s e q
theorem dxa_next {W : WX} {c : Value} {fs : List (Str × D)} (h1 : DE K δ ta d) (h : DAx K W δ a c fs) : DAx K W δ (tCons ta a) c fs := fun H R σ Q s e q =>
  h1 H R σ _ s e fun v H1 R1 g1 _ => h H1 R1 σ _ g1.i (e.mono g1.r) fun dd H' R' g x => q dd H' R' (g1.trans g) x
theorem dx_cb {W : WX} {rc : List V → Hp → VK → Prop} {c : Value} {fs : List (Str × D)} (h : DAx K W δ a c fs) : DEx K W δ (tCB rc a) c fs := fun H R σ Q s e q => h H R σ _ s e q
theorem dx_callA {W : WX} {sp : Sp} {E : L2.St → XK} {c : Value} {fs : List (Str × D)} (h : DAx K W δ a c fs) : DEx K W δ (tCallS sp E a) c fs := fun H R σ Q s e q => h H R σ _ s e q
theorem dx_callA' {W : WX} {sp : Sp} {E : XK} {c : Value} {fs : List (Str × D)} (h : DAx K W δ a c fs) : DEx K W δ (tCallR sp E a) c fs := fun H R σ Q s e q => h H R σ _ s e q
theorem dx_op1 {W : WX} {c : Value} {fs : List (Str × D)} (h : DEx K W δ ta c fs) : DEx K W δ (tOp r ta tb) c fs := fun H R σ Q s e q => h H R σ _ s e q
/-- a field of an instance -/
theorem lookup_zip {ns : List Str} {vs : List V} {ds : List D} {f : Str} {R : Hp} (hl : ns.length = ds.length) (r : RepL K R vs ds) (h : (ns.zip ds).lookup f = some d) : ∃ v, (ns.zip vs).lookup f = some v ∧ Rep K R v d := by
  induction ns generalizing vs ds with
  | nil => simp at h
  | cons n ns ih =>
    cases r with
    | nil => simp at hl
    | @cons v vs d' ds r0 rr =>
      simp only [List.zip_cons_cons, List.lookup_cons] at h ⊢
      cases hb : f == n with
      | true => rw [hb] at h; cases h; exact ⟨v, rfl, r0⟩
      | false => rw [hb] at h; exact ih (by simpa using hl) rr h
theorem d_fld {C : Addr} {ns : List Str} {f : Str} (h1 : DE K δ te (.ins C ns ds)) (hc : Cls K C) (hn : NoAttr K C f) (h : (ns.zip ds).lookup f = some d) : DE K δ (tFld K te f) d := fun H R σ Q s e q =>
  h1 H R σ _ s e fun v H1 R1 g1 r1 => by
    cases r1 with
    | @ins a _ dx _ vs _ hr hl rl =>
      obtain ⟨w, hw, rw'⟩ := lookup_zip hl rl h
      exact ⟨a, C, dx, _, w, rfl, g1.i _ _ hr, hc, hn, hw, q w H1 R1 g1 rw'⟩
end

/-! ### operators on data -/
section
variable {K : PySem.W.Frag}
theorem do_of {r : R2} {x y z : D} (h : ∀ (H R : Hp) (v u : V) (Q : VK), Same R H → Rep K R v x → Rep K R u y → (∀ w, (∀ R, Rep K R w z) → Q w H) → r v u H Q) : DO K r x y z :=
  fun H R v u Q s rv ru q => h H R v u Q s rv ru fun w rw => q w H R (Gr.refl s) (rw R)
theorem o_addi {n m : Int} : DO K (rAdd' K) (.int n) (.int m) (.int (n + m)) := do_of fun H R v u Q s rv ru q => by cases rv; cases ru; exact q _ fun _ => .int _
theorem o_adds {n m : Str} (h : n.length + m.length ≤ sizeLine) : DO K (rAdd' K) (.str n) (.str m) (.str (n ++ m)) := do_of fun H R v u Q s rv ru q => by cases rv; cases ru; exact ⟨h, q _ fun _ => .str _⟩
theorem o_subi {n m : Int} : DO K rSub' (.int n) (.int m) (.int (n - m)) := do_of fun H R v u Q s rv ru q => by cases rv; cases ru; exact q _ fun _ => .int _
theorem o_muli {n m : Int} (h : CMul n m) : DO K rMul' (.int n) (.int m) (.int (n * m)) := do_of fun H R v u Q s rv ru q => by cases rv; cases ru; exact ⟨h, q _ fun _ => .int _⟩
theorem o_divi {n m : Int} (h : 0 < m ∧ m < 1073741824) : DO K rDiv' (.int n) (.int m) (.int (n / m)) := do_of fun H R v u Q s rv ru q => by cases rv; cases ru; exact ⟨h, q _ fun _ => .int _⟩
theorem o_modi {n m : Int} (h : 0 < m) : DO K rMod' (.int n) (.int m) (.int (n % m)) := do_of fun H R v u Q s rv ru q => by cases rv; cases ru; exact ⟨h, q _ fun _ => .int _⟩
theorem o_powi {n m : Int} (h : CPow n m) : DO K rPow' (.int n) (.int m) (.int (n ^ m.toNat)) := do_of fun H R v u Q s rv ru q => by cases rv; cases ru; exact ⟨h, q _ fun _ => .int _⟩
theorem o_lti {n m : Int} : DO K rLt' (.int n) (.int m) (.bl (decide (n < m))) := do_of fun H R v u Q s rv ru q => by cases rv; cases ru; exact q _ fun _ => .bl _
theorem o_lei {n m : Int} : DO K rLe' (.int n) (.int m) (.bl (decide (n ≤ m))) := do_of fun H R v u Q s rv ru q => by cases rv; cases ru; exact q _ fun _ => .bl _
theorem o_gti {n m : Int} : DO K rGt' (.int n) (.int m) (.bl (decide (m < n))) := do_of fun H R v u Q s rv ru q => by cases rv; cases ru; exact q _ fun _ => .bl _
theorem o_gei {n m : Int} : DO K rGe' (.int n) (.int m) (.bl (decide (m ≤ n))) := do_of fun H R v u Q s rv ru q => by cases rv; cases ru; exact q _ fun _ => .bl _
theorem o_eqi {n m : Int} : DO K (rEq' K) (.int n) (.int m) (.bl (decide (n = m))) := do_of fun H R v u Q s rv ru q => by cases rv; cases ru; exact r_eqi (q _ fun _ => .bl _)
theorem o_nei {n m : Int} : DO K (rNe' K) (.int n) (.int m) (.bl (!decide (n = m))) := do_of fun H R v u Q s rv ru q => by cases rv; cases ru; exact r_nei (q _ fun _ => .bl _)
theorem o_eqs {n m : Str} : DO K (rEq' K) (.str n) (.str m) (.bl (decide (n = m))) := do_of fun H R v u Q s rv ru q => by cases rv; cases ru; exact r_eqs (q _ fun _ => .bl _)
theorem o_nes {n m : Str} : DO K (rNe' K) (.str n) (.str m) (.bl (!decide (n = m))) := do_of fun H R v u Q s rv ru q => by cases rv; cases ru; exact r_nes (q _ fun _ => .bl _)
theorem o_eqb {n m : Bool} : DO K (rEq' K) (.bl n) (.bl m) (.bl (decide (n = m))) := do_of fun H R v u Q s rv ru q => by cases rv; cases ru; exact r_eqb (q _ fun _ => .bl _)
theorem o_neb {n m : Bool} : DO K (rNe' K) (.bl n) (.bl m) (.bl (!decide (n = m))) := do_of fun H R v u Q s rv ru q => by cases rv; cases ru; exact r_neb (q _ fun _ => .bl _)
/- data of any depth compared -/
mutual
def D.py : D → PyData
  | .non => .none
  | .bl b => .bool b
  | .int i => .int i
  | .str x => .str x
  | .tup ds => .tuple (D.pyL ds)
  | .lst ds => .list (D.pyL ds)
  | _ => .none
def D.pyL : List D → List PyData
  | [] => []
  | d :: ds => d.py :: D.pyL ds
end
mutual
def D.plain : D → Bool
  | .tup ds => D.plainL ds
  | .lst ds => D.plainL ds
  | .ins _ _ _ => false
  | .kl _ => false
  | .val _ => false
  | .dct _ _ => false
  | .ndc _ _ _ => false
  | _ => true
def D.plainL : List D → Bool
  | [] => true
  | d :: ds => d.plain && D.plainL ds
end
mutual
theorem Rep.dp {R H : Hp} (s : Same R H) : ∀ (d : D) (v : V), d.plain = true → Rep K R v d → Dp K H v d.py
  | .non, _, _, q => by cases q; exact .non
  | .bl b, _, _, q => by cases q; exact .bl b
  | .int i, _, _, q => by cases q; exact .int i
  | .str x, _, _, q => by cases q; exact .str x
  | .tup ds, _, h, q => by
    cases q with
    | tup a b => exact .tup (sqT_same s a) (RepL.dp s ds _ (by simpa [D.plain] using h) b)
  | .lst ds, _, h, q => by
    cases q with
    | lst a b => exact .lst (rdS s a) (RepL.dp s ds _ (by simpa [D.plain] using h) b)
  | .ins _ _ _, _, h, _ => by simp [D.plain] at h
  | .kl _, _, h, _ => by simp [D.plain] at h
  | .val _, _, h, _ => by simp [D.plain] at h
  | .dct _ _, _, h, _ => by simp [D.plain] at h
  | .ndc _ _ _, _, h, _ => by simp [D.plain] at h
theorem RepL.dp {R H : Hp} (s : Same R H) : ∀ (ds : List D) (vs : List V), D.plainL ds = true → RepL K R vs ds → DpAll K H vs (D.pyL ds)
  | [], _, _, q => by cases q; exact .nil
  | d :: ds, _, h, q => by
    simp only [D.plainL, Bool.and_eq_true] at h
    cases q with
    | cons a b => exact .cons (Rep.dp s d _ h.1 a) (RepL.dp s ds _ h.2 b)
end
def D.cmp (d : D) : Bool := d.plain && SeqAt.shaped d.py
theorem o_eqd {x y : D} (h1 : x.cmp = true) (h2 : y.cmp = true) : DO K (rEq' K) x y (.bl (PyData.eqv x.py y.py)) := do_of fun H R v u Q s rv ru q => by
  simp only [D.cmp, Bool.and_eq_true] at h1 h2
  exact .inr ⟨_, _, rv.dp s _ _ h1.1, ru.dp s _ _ h2.1, h1.2, h2.2, q _ fun _ => .bl _⟩
theorem o_ned {x y : D} (h1 : x.cmp = true) (h2 : y.cmp = true) : DO K (rNe' K) x y (.bl (!PyData.eqv x.py y.py)) := do_of fun H R v u Q s rv ru q => by
  simp only [D.cmp, Bool.and_eq_true] at h1 h2
  exact .inr ⟨_, _, rv.dp s _ _ h1.1, ru.dp s _ _ h2.1, h1.2, h2.2, q _ fun _ => .bl _⟩
/-- subscripts -/
theorem o_ixt {ds : List D} {n : Int} {d : D} {j : Nat} (e : ixN ds.length n = some j) (h : ds[j]? = some d) : DO K (rIx' K) (.tup ds) (.int n) d := fun H R v u Q s rv ru q => by
  cases rv with
  | @tup a xs _ h1 h2 =>
    cases ru
    obtain ⟨w, hw, rw'⟩ := h2.get h
    exact r_ixT (sqT_same s h1) (by unfold atI; rw [h2.len, e]; exact hw) (q w H R (Gr.refl s) rw')
theorem o_ixl {ds : List D} {n : Int} {d : D} {j : Nat} (e : ixN ds.length n = some j) (h : ds[j]? = some d) : DO K (rIx' K) (.lst ds) (.int n) d := fun H R v u Q s rv ru q => by
  cases rv with
  | @lst a xs _ h1 h2 =>
    cases ru
    obtain ⟨w, hw, rw'⟩ := h2.get h
    exact r_ixL (rdS s h1) (by unfold atI; rw [h2.len, e]; exact hw) (q w H R (Gr.refl s) rw')
theorem o_ixs {z : Str} {n : Int} {c : Nat} (h : z.length ≤ sizeLine) (e : atI z.cps.toList n = some c) : DO K (rIx' K) (.str z) (.int n) (.str ⟨#[c]⟩) := do_of fun H R v u Q s rv ru q => by
  cases rv; cases ru; exact r_ixS h e (q _ fun _ => .str _)
theorem ixN_of {n : Nat} {m : Int} {j : Nat} (e : m = (j : Int)) (h : j < n) : ixN n m = some j := by
  subst e
  unfold ixN
  rw [if_pos (by omega), if_pos (by omega)]
  simp
/-- calls of built-ins -/
theorem dc_of {r : List V → Hp → VK → Prop} {xs : List D} {z : D} (h : ∀ (H R : Hp) (vs : List V) (Q : VK), Same R H → RepL K R vs xs → (∀ w, (∀ R, Rep K R w z) → Q w H) → r vs H Q) : DC K r xs z :=
  fun H R vs Q s rv q => h H R vs Q s rv fun w rw => q w H R (Gr.refl s) (rw R)
theorem rep1 {R : Hp} {vs : List V} {x : D} (h : RepL K R vs [x]) : ∃ v, vs = [v] ∧ Rep K R v x := by
  cases h with
  | cons a b => cases b; exact ⟨_, rfl, a⟩
theorem rep2 {R : Hp} {vs : List V} {x y : D} (h : RepL K R vs [x, y]) : ∃ v u, vs = [v, u] ∧ Rep K R v x ∧ Rep K R u y := by
  cases h with
  | cons a b => obtain ⟨u, rfl, q⟩ := rep1 b; exact ⟨_, u, rfl, a, q⟩
theorem c_leni {ds : List D} : DC K (rLen' K) [.lst ds] (.int ds.length) := dc_of fun H R vs Q s rv q => by
  obtain ⟨v, rfl, r⟩ := rep1 rv
  cases r with
  | lst h1 h2 => exact r_len (rdS s h1) (by rw [h2.len]; exact q _ fun _ => .int _)
theorem c_lenk {ds : List D} : DC K (rLen' K) [.kl ds] (.int ds.length) := dc_of fun H R vs Q s rv q => by
  obtain ⟨v, rfl, r⟩ := rep1 rv
  cases r with
  | kl h1 h2 => exact r_len (s.seq h1) (by rw [h2.len]; exact q _ fun _ => .int _)
theorem o_ixk {ds : List D} {n : Int} {d : D} {j : Nat} (e : ixN ds.length n = some j) (h : ds[j]? = some d) : DO K (rIx' K) (.kl ds) (.int n) d := fun H R v u Q s rv ru q => by
  cases rv with
  | @kl a xs _ h1 h2 =>
    cases ru
    obtain ⟨w, hw, rw'⟩ := h2.get h
    exact r_ixL (s.seq h1) (by unfold atI; rw [h2.len, e]; exact hw) (q w H R (Gr.refl s) rw')
theorem c_lent {ds : List D} : DC K (rLen' K) [.tup ds] (.int ds.length) := dc_of fun H R vs Q s rv q => by
  obtain ⟨v, rfl, r⟩ := rep1 rv
  cases r with
  | tup h1 h2 => exact r_lenT (sqT_same s h1) (by rw [h2.len]; exact q _ fun _ => .int _)
theorem c_lens {z : Str} (h : z.length ≤ sizeLine) : DC K (rLen' K) [.str z] (.int z.length) := dc_of fun H R vs Q s rv q => by
  obtain ⟨v, rfl, r⟩ := rep1 rv
  cases r; exact r_lens h (q _ fun _ => .int _)
theorem c_inti {n : Int} : DC K rInt' [.int n] (.int n) := dc_of fun H R vs Q s rv q => by
  obtain ⟨v, rfl, r⟩ := rep1 rv
  cases r; exact q _ fun _ => .int _
/-- the type of a datum -/
def D.isV : D → Bool
  | .val _ => true
  | .ins _ _ _ => true
  | .kl _ => true
  | .dct _ _ => true
  | .ndc _ _ _ => true
  | _ => false
def D.typ : D → String
  | .non => "NoneType"
  | .bl _ => "bool"
  | .int _ => "int"
  | .str _ => "str"
  | .tup _ => "tuple"
  | .lst _ => "list"
  | _ => ""
theorem Rep.tyX {R H : Hp} {v : V} {d : D} (s : Same R H) (h : Rep K R v d) (n : d.isV = false) : TyX K H v (.type d.typ) := by
  cases h with
  | non => exact .base .non
  | bl b => exact .base (.bl b)
  | int i => exact .base (.int i)
  | str x => exact .base (.str x)
  | @tup a xs ds h1 h2 =>
    rcases sqT_same s h1 with (e | ⟨o, e⟩) | ⟨o, its, n, e, c, _⟩
    · exact .base (.tup e)
    · exact .fTuple e
    · exact .kTuple e c
  | @lst a xs ds h1 h2 =>
    rcases (rdS s h1 : SqL K H a xs) with (e | ⟨o, e⟩) | ⟨o, its, n, e, c, _⟩
    · exact .base (.lst e)
    · exact .base (.frz e)
    · exact .kList e c
  | ins _ _ _ => cases n
  | kl _ _ => cases n
  | val v => cases n
  | dct _ _ _ => cases n
  | ndc _ _ _ _ _ _ => cases n
theorem c_isi1 {d : D} {T : String} {b : Bool} (n : d.isV = false) (h : kitB d.typ T = some b) : DC K (rIsi' K) [d, .val (.ty T)] (.bl b) := dc_of fun H R vs Q s rv q => by
  obtain ⟨v, u, rfl, r1, r2⟩ := rep2 rv
  cases r2
  exact r_isi (r1.tyX s n) h (q _ fun _ => .bl _)
end
end G

set_option Elab.async false
set_option linter.all false
set_option maxRecDepth 10000000
set_option maxHeartbeats 4000000
/-! Dst: statements told by data. A slot: nothing known, a datum, an object that this name alone holds (ow). -/
namespace G
open PySem PySem.Spec PyProof.Rows L2

/-- the object stands for the datum, its parts in R -/
def Top (K : PySem.W.Frag) (R : Hp) : HO → D → Prop
  | .lst xs, .lst ds => RepL K R xs ds
  | .ins C _ fs, .ins C' ns ds => C = C' ∧ ns.length = ds.length ∧ ∃ vs, fs = ns.zip vs ∧ RepL K R vs ds
  | .ext φ, .ndc w kds ds => ∃ a xs vs, HO.ext φ = ndO w a xs ∧ xs.map (·.1) = kds.map nkD ∧ (∀ d ∈ kds, d.key = true) ∧ RepL K R (xs.map fun e => V.ref e.2.1) kds ∧ Vals vs (xs.map fun e => e.2.2) ∧ RepL K R vs ds
  | .dK kvs, .dct ks ds => ks.length = ds.length ∧ ∃ vs, kvs = ks.zip vs ∧ RepL K R vs ds
  | _, _ => False
def D.solT : D → Bool
  | .lst ds => D.solL ds
  | .ins _ _ ds => D.solL ds
  | .dct _ ds => D.solL ds
  | .ndc _ kds ds => D.solL kds && D.solL ds
  | _ => false
section
variable {K : PySem.W.Frag} {R R' : Hp} {o : HO} {u : D} {p : Addr}
theorem Top.rep (h : R p = some o) (t : Top K R o u) : Rep K R (.ref p) u := by
  cases o <;> cases u <;> first
    | exact t.elim
    | exact .lst (.inl h) t
    | (obtain ⟨hl, vs, rfl, r⟩ := t; exact .dct h hl r)
    | (obtain ⟨a, xs, vs, e, t1, t2, t3, t4, t5⟩ := t; exact .ndc (e ▸ h) t1 t2 t3 t4 t5)
    | skip
  obtain ⟨rfl, hl, vs, rfl, r⟩ := t
  exact .ins h hl r
theorem Top.mono (s : Same R R') (t : Top K R o u) : Top K R' o u := by
  cases o <;> cases u <;> first
    | exact t.elim
    | exact RepL.mono s _ _ t
    | (obtain ⟨hl, vs, rfl, r⟩ := t; exact ⟨hl, vs, rfl, r.mono s⟩)
    | (obtain ⟨a, xs, vs, e, t1, t2, t3, t4, t5⟩ := t; exact ⟨a, xs, vs, e, t1, t2, t3.mono s, t4, t5.mono s⟩)
    | skip
  obtain ⟨rfl, hl, vs, rfl, r⟩ := t
  exact ⟨rfl, hl, vs, rfl, r.mono s⟩
theorem Top.solid (h : ∀ b zs, Rd R b (.tup zs) → Rd R' b (.tup zs)) (s : u.solT = true) (t : Top K R o u) : Top K R' o u := by
  cases o <;> cases u <;> first
    | exact t.elim
    | exact RepL.solid h _ _ s t
    | (obtain ⟨hl, vs, rfl, r⟩ := t; exact ⟨hl, vs, rfl, r.solid h _ _ s⟩)
    | (obtain ⟨a, xs, vs, e, t1, t2, t3, t4, t5⟩ := t; exact ⟨a, xs, vs, e, t1, t2, t3.solid h _ _ (by simp [D.solT] at s; exact s.1), t4, t5.solid h _ _ (by simp [D.solT] at s; exact s.2)⟩)
    | skip
  obtain ⟨rfl, hl, vs, rfl, r⟩ := t
  exact ⟨rfl, hl, vs, rfl, r.solid h _ _ s⟩
theorem Top.ne (t : Top K R o u) : (∀ zs, o ≠ .tup zs) ∧ (∀ ob w, o ≠ .frz ob w) ∧ ∀ fs, o ≠ .xd fs := by
  cases o <;> cases u <;> first
    | exact t.elim
    | (refine ⟨?_, ?_, ?_⟩ <;> (intros; intro z; cases z))
end

inductive Sl where
  | no | va (d : D) | ow (u : D)
def Sl.fr (l : Bool) : Sl → Option D
  | .no => none
  | .va d => some d
  | .ow u => if l then some u else none
abbrev SEnv := List Sl
/-- what an expression may read: with l the owned objects too -/
def fz (l : Bool) (ρ : SEnv) : DEnv := ρ.map (Sl.fr l)
def SlOk (K : PySem.W.Frag) (R H : Hp) (o : Option V) : Sl → Prop
  | .no => True
  | .va d => ∃ v, o = some v ∧ Rep K R v d
  | .ow u => ∃ p x, o = some (.ref p) ∧ H p = some x ∧ R p = none ∧ Top K R x u
structure EvR (K : PySem.W.Frag) (H0 R0 H R : Hp) (σ : L2.St) (ρ : SEnv) : Prop where
  r : Same R0 R
  i : Same R H
  h : Same H0 H
  o : ∀ a o, H0 a = some o → R0 a = none → R a = none
  len : σ.length = ρ.length
  ok : ∀ (i : Nat) (s : Sl), ρ[i]? = some s → ∃ o, σ[i]? = some o ∧ SlOk K R H o s
  ap : ∀ (i j : Nat) (u w : D) (p : Addr), ρ[i]? = some (.ow u) → ρ[j]? = some (.ow w) → σ[i]? = some (some (.ref p)) → σ[j]? = some (some (.ref p)) → i = j
  fr : ∀ (i : Nat) (u : D) (p : Addr), ρ[i]? = some (.ow u) → σ[i]? = some (some (.ref p)) → H0 p = none
def EvS (K : PySem.W.Frag) (H0 R0 H : Hp) (σ : L2.St) (ρ : SEnv) : Prop := ∃ R, EvR K H0 R0 H R σ ρ
/-- an address that an owning name holds -/
def Own (σ : L2.St) (ρ : SEnv) (a : Addr) : Prop := ∃ (i : Nat) (u : D), ρ[i]? = some (.ow u) ∧ σ[i]? = some (some (.ref a))
open Classical in
noncomputable def lend (l : Bool) (H R : Hp) (σ : L2.St) (ρ : SEnv) : Hp := fun a => if l = true ∧ Own σ ρ a then H a else R a
open Classical in
noncomputable def less (l : Bool) (R' : Hp) (σ : L2.St) (ρ : SEnv) : Hp := fun a => if l = true ∧ Own σ ρ a then none else R' a
/-- less is known of the names -/
def wk : SEnv → SEnv → Prop
  | [], [] => True
  | s :: r, s' :: r' => (s' = .no ∨ s = s') ∧ wk r r'
  | _, _ => False
theorem wk.refl : ∀ ρ, wk ρ ρ
  | [] => trivial
  | _ :: r => ⟨.inr rfl, wk.refl r⟩
theorem wk.len : ∀ {ρ ρ' : SEnv}, wk ρ ρ' → ρ.length = ρ'.length
  | [], [], _ => rfl
  | _ :: _, _ :: _, h => by rw [List.length_cons, List.length_cons, wk.len h.2]
  | [], _ :: _, h => h.elim
  | _ :: _, [], h => h.elim
theorem wk.get : ∀ {ρ ρ' : SEnv}, wk ρ ρ' → ∀ {i : Nat} {s : Sl}, ρ'[i]? = some s → s = .no ∨ ρ[i]? = some s
  | [], [], _, i, s, e => by simp at e
  | a :: _, b :: _, h, 0, s, e => by
    simp at e
    subst e
    rcases h.1 with h | h
    · exact .inl h
    · exact .inr (by simp [h])
  | _ :: _, _ :: _, h, i + 1, s, e => by
    have := wk.get h.2 (i := i) (s := s) (by simpa using e)
    simpa using this
  | [], _ :: _, h, _, _, _ => h.elim
  | _ :: _, [], h, _, _, _ => h.elim
section
variable {K : PySem.W.Frag} {H0 R0 H R H' R' : Hp} {σ : L2.St} {ρ : SEnv} {l : Bool}
theorem EvR.own (e : EvR K H0 R0 H R σ ρ) {a : Addr} (h : Own σ ρ a) : (∃ x u, H a = some x ∧ Top K R x u) ∧ R a = none ∧ H0 a = none := by
  obtain ⟨i, ds, h1, h2⟩ := h
  obtain ⟨o, h3, p, x, e1, e2, e3, t⟩ := e.ok i _ h1
  rw [h2] at h3
  have e4 := Option.some.inj h3
  rw [e1] at e4
  have e5 : a = p := V.ref.inj (Option.some.inj e4)
  subst e5
  exact ⟨⟨x, _, e2, t⟩, e3, e.fr i ds a h1 h2⟩
theorem lend_yes {a : Addr} (h : l = true ∧ Own σ ρ a) : lend l H R σ ρ a = H a := by unfold lend; rw [if_pos h]
theorem lend_no {a : Addr} (h : ¬ (l = true ∧ Own σ ρ a)) : lend l H R σ ρ a = R a := by unfold lend; rw [if_neg h]
theorem less_yes {a : Addr} (h : l = true ∧ Own σ ρ a) : less l R' σ ρ a = none := by unfold less; rw [if_pos h]
theorem less_no {a : Addr} (h : ¬ (l = true ∧ Own σ ρ a)) : less l R' σ ρ a = R' a := by unfold less; rw [if_neg h]
theorem lend_f : lend false H R σ ρ = R := by funext a; exact lend_no (fun z => by cases z.1)
theorem less_f : less false R' σ ρ = R' := by funext a; exact less_no (fun z => by cases z.1)
theorem EvR.up (e : EvR K H0 R0 H R σ ρ) : Same R (lend l H R σ ρ) := fun a o h => by
  rw [lend_no (fun z => by rw [(e.own z.2).2.1] at h; cases h)]
  exact h
theorem EvR.lendI (e : EvR K H0 R0 H R σ ρ) : Same (lend l H R σ ρ) H := fun a o h => by
  by_cases z : l = true ∧ Own σ ρ a
  · rw [lend_yes z] at h; exact h
  · rw [lend_no z] at h; exact e.i a o h
theorem EvR.env (e : EvR K H0 R0 H R σ ρ) : EnvR K (lend l H R σ ρ) σ (fz l ρ) := ⟨by rw [e.len]; simp [fz], fun i d h => by
  unfold fz at h
  rw [List.getElem?_map] at h
  cases hs : ρ[i]? with
  | none => rw [hs] at h; cases h
  | some s =>
    rw [hs] at h
    obtain ⟨o, h1, h2⟩ := e.ok i s hs
    cases s with
    | no => cases h
    | va d' =>
      obtain ⟨v, rfl, r⟩ := h2
      have : d' = d := Option.some.inj (Option.some.inj h)
      subst this
      exact ⟨v, h1, r.mono e.up⟩
    | ow u =>
      cases l with
      | false => cases h
      | true =>
        have : u = d := Option.some.inj (Option.some.inj h)
        subst this
        obtain ⟨p, x, rfl, hp, hr, t⟩ := h2
        exact ⟨.ref p, h1, (t.mono e.up).rep (by rw [lend_yes ⟨rfl, i, u, hs, h1⟩]; exact hp)⟩⟩
/-- behind an expression -/
theorem EvR.run (e : EvR K H0 R0 H R σ ρ) (g : Gr H (lend l H R σ ρ) H' R') : EvR K H0 R0 H' (less l R' σ ρ) σ ρ ∧ Same R (less l R' σ ρ) ∧
    (∀ v d, (l = true → d.sol = true) → Rep K R' v d → Rep K (less l R' σ ρ) v d) ∧ (∀ vs ds, (l = true → D.solL ds = true) → RepL K R' vs ds → RepL K (less l R' σ ρ) vs ds) ∧ (∀ a, R' a = none → less l R' σ ρ a = none) ∧
    ∀ a o, R' a = some o → ((∃ zs, o = .tup zs) ∨ ∃ fs, o = .xd fs) → less l R' σ ρ a = some o := by
  have up : Same R (less l R' σ ρ) := fun a o h => by
    rw [less_no (fun z => by rw [(e.own z.2).2.1] at h; cases h)]
    exact g.r a o (e.up a o h)
  have nx : ∀ b o, R' b = some o → ((∃ zs, o = .tup zs) ∨ (∃ fs, o = .xd fs) ∨ ∃ ob w, o = .frz ob w) → ¬ (l = true ∧ Own σ ρ b) := fun b o h q z => by
    obtain ⟨⟨x, u, hx, t⟩, _, _⟩ := e.own z.2
    have h1 : R' b = some x := g.r b _ (by rw [lend_yes z]; exact hx)
    rw [h] at h1
    cases h1
    obtain ⟨n1, n2, n3⟩ := t.ne
    rcases q with ⟨zs, q⟩ | ⟨fs, q⟩ | ⟨ob, w, q⟩
    · exact n1 zs q
    · exact n3 fs q
    · exact n2 ob w q
  have tu : ∀ b zs, Rd R' b (.tup zs) → Rd (less l R' σ ρ) b (.tup zs) := fun b zs h => by
    rcases h with h | ⟨o, h⟩
    · exact .inl (by rw [less_no (nx b _ h (.inl ⟨zs, rfl⟩))]; exact h)
    · exact .inr ⟨o, by rw [less_no (nx b _ h (.inr (.inr ⟨o, _, rfl⟩)))]; exact h⟩
  have eqf : l = false → less l R' σ ρ = R' := fun hl => by
    funext a
    exact less_no (fun z => by rw [hl] at z; cases z.1)
  refine ⟨⟨e.r.trans up, fun a o h => ?_, e.h.trans g.h, fun a o h n => ?_, e.len, fun i s hs => ?_, e.ap, e.fr⟩, up, fun v d hs r => ?_, fun vs ds hs r => ?_, fun a h => ?_, fun a o h q => ?_⟩
  · by_cases z : l = true ∧ Own σ ρ a
    · rw [less_yes z] at h; cases h
    · rw [less_no z] at h; exact g.i a o h
  · by_cases z : l = true ∧ Own σ ρ a
    · exact less_yes z
    · rw [less_no z]
      exact g.o a o (e.h a o h) (by rw [lend_no z]; exact e.o a o h n)
  · obtain ⟨o, h1, h2⟩ := e.ok i s hs
    refine ⟨o, h1, ?_⟩
    cases s with
    | no => trivial
    | va d => obtain ⟨v, h3, r⟩ := h2; exact ⟨v, h3, r.mono up⟩
    | ow u =>
      obtain ⟨p, x, rfl, hp, hr, t⟩ := h2
      refine ⟨p, x, rfl, g.h p _ hp, ?_, t.mono up⟩
      by_cases z : l = true ∧ Own σ ρ p
      · exact less_yes z
      · rw [less_no z]; exact g.o p _ hp (by rw [lend_no z]; exact hr)
  · cases l with
    | false => rw [eqf rfl]; exact r
    | true => exact Rep.solid tu d v (hs rfl) r
  · cases l with
    | false => rw [eqf rfl]; exact r
    | true => exact RepL.solid tu ds vs (hs rfl) r
  · by_cases z : l = true ∧ Own σ ρ a
    · exact less_yes z
    · rw [less_no z]; exact h
  · rw [less_no (nx a o h (q.imp id .inl))]; exact h
theorem EvR.lt (e : EvR K H0 R0 H R σ ρ) {i : Nat} (h : i < ρ.length) : i < σ.length := by rw [e.len]; exact h
theorem EvR.weak {ρ' : SEnv} (e : EvR K H0 R0 H R σ ρ) (w : wk ρ ρ') : EvR K H0 R0 H R σ ρ' := by
  refine ⟨e.r, e.i, e.h, e.o, e.len.trans w.len, fun i s hs => ?_, fun i j u x p h1 h2 => ?_, fun i u p h1 => ?_⟩
  · rcases w.get hs with rfl | h
    · have hi : i < σ.length := by rw [e.len, w.len]; exact (List.getElem?_eq_some_iff.mp hs).1
      exact ⟨_, List.getElem?_eq_getElem hi, trivial⟩
    · exact e.ok i s h
  · rcases w.get h1 with z | g1
    · cases z
    · rcases w.get h2 with z | g2
      · cases z
      · exact e.ap i j u x p g1 g2
  · rcases w.get h1 with z | g1
    · cases z
    · exact e.fr i u p g1
theorem set_self_some {α : Type} {l : List α} {i : Nat} {x y : α} (h : (l.set i x)[i]? = some y) : y = x ∧ i < l.length := by
  have hi : i < l.length := by
    have := (List.getElem?_eq_some_iff.mp h).1
    simpa using this
  rw [List.getElem?_set_self hi] at h
  exact ⟨(Option.some.inj h).symm, hi⟩
/-- a slot takes what is no owned object -/
theorem EvR.setN (e : EvR K H0 R0 H R σ ρ) {i : Nat} {w : Option V} {s0 : Sl} (hn : ∀ u, s0 ≠ .ow u) (r : SlOk K R H w s0) : EvR K H0 R0 H R (σ.set i w) (ρ.set i s0) := by
  have nx : ∀ j u, (ρ.set i s0)[j]? = some (.ow u) → i ≠ j := fun j u h1 z => by
    subst z
    exact hn u (set_self_some h1).1.symm
  refine ⟨e.r, e.i, e.h, e.o, by simp [e.len], fun j s hs => ?_, fun j k ds es p h1 h2 h3 h4 => ?_, fun j ds p h1 h2 => ?_⟩
  · by_cases hj : i = j
    · subst hj
      obtain ⟨rfl, hi⟩ := set_self_some hs
      exact ⟨w, by rw [List.getElem?_set_self (e.lt hi)], r⟩
    · rw [List.getElem?_set_ne hj] at hs ⊢
      exact e.ok j s hs
  · have hj := nx j _ h1
    have hk := nx k _ h2
    rw [List.getElem?_set_ne hj] at h1 h3
    rw [List.getElem?_set_ne hk] at h2 h4
    exact e.ap j k ds es p h1 h2 h3 h4
  · have hj := nx j _ h1
    rw [List.getElem?_set_ne hj] at h1 h2
    exact e.fr j ds p h1 h2
/-- a name takes a datum -/
theorem EvR.setV (e : EvR K H0 R0 H R σ ρ) {i : Nat} {v : V} {d : D} (r : Rep K R v d) : EvR K H0 R0 H R (σ.set i (some v)) (ρ.set i (.va d)) := e.setN (fun _ z => by cases z) ⟨v, rfl, r⟩
theorem EvR.gone (e : EvR K H0 R0 H R σ ρ) {i : Nat} : EvR K H0 R0 H R (σ.set i none) (ρ.set i .no) := e.setN (fun _ z => by cases z) trivial
/-- .. an object of its own -/
theorem EvR.setO (e : EvR K H0 R0 H R σ ρ) {i : Nat} {p : Addr} {x : HO} {u : D} (hp : H p = some x) (hr : R p = none) (h0 : H0 p = none) (t : Top K R x u)
    (hn : ∀ j, j ≠ i → ∀ w, ρ[j]? = some (.ow w) → σ[j]? ≠ some (some (.ref p))) : EvR K H0 R0 H R (σ.set i (some (.ref p))) (ρ.set i (.ow u)) := by
  refine ⟨e.r, e.i, e.h, e.o, by simp [e.len], fun j s hs => ?_, fun j k ds es q h1 h2 h3 h4 => ?_, fun j es q h1 h2 => ?_⟩
  · by_cases hj : i = j
    · subst hj
      obtain ⟨rfl, hi⟩ := set_self_some hs
      exact ⟨some (.ref p), by rw [List.getElem?_set_self (e.lt hi)], p, x, rfl, hp, hr, t⟩
    · rw [List.getElem?_set_ne hj] at hs ⊢
      exact e.ok j s hs
  · by_cases hj : i = j
    · by_cases hk : i = k
      · exact hj.symm.trans hk
      · subst hj
        have e1 := (set_self_some h3).1
        rw [List.getElem?_set_ne hk] at h2 h4
        have : q = p := V.ref.inj (Option.some.inj e1)
        subst this
        exact absurd h4 (hn k (Ne.symm hk) es h2)
    · by_cases hk : i = k
      · subst hk
        have e1 := (set_self_some h4).1
        rw [List.getElem?_set_ne hj] at h1 h3
        have : q = p := V.ref.inj (Option.some.inj e1)
        subst this
        exact absurd h3 (hn j (Ne.symm hj) ds h1)
      · rw [List.getElem?_set_ne hj] at h1 h3
        rw [List.getElem?_set_ne hk] at h2 h4
        exact e.ap j k ds es q h1 h2 h3 h4
  · by_cases hj : i = j
    · subst hj
      have e1 := (set_self_some h2).1
      have : q = p := V.ref.inj (Option.some.inj e1)
      subst this
      exact h0
    · rw [List.getElem?_set_ne hj] at h1 h2
      exact e.fr j es q h1 h2
/-- the object that a name holds is changed -/
theorem EvR.put (e : EvR K H0 R0 H R σ ρ) {i : Nat} {p : Addr} {u w : D} {y : HO} (h1 : ρ[i]? = some (.ow u)) (h2 : σ[i]? = some (some (.ref p))) (t : Top K R y w) : EvR K H0 R0 (upd H p y) R σ (ρ.set i (.ow w)) := by
  have hi : i < ρ.length := (List.getElem?_eq_some_iff.mp h1).1
  obtain ⟨⟨x, u', hx, t0⟩, hr, h0⟩ := e.own ⟨i, u, h1, h2⟩
  refine ⟨e.r, fun b o h => ?_, fun b o h => ?_, e.o, by simp [e.len], fun j s hs => ?_, fun j k ds' es' q g1 g2 g3 g4 => ?_, fun j es' q g1 g2 => ?_⟩
  · rw [upd_ne (ne_of_none h hr)]; exact e.i b o h
  · rw [upd_ne (ne_of_none h h0)]; exact e.h b o h
  · by_cases hj : i = j
    · subst hj
      obtain ⟨rfl, _⟩ := set_self_some hs
      exact ⟨_, h2, p, y, rfl, upd_same, hr, t⟩
    · rw [List.getElem?_set_ne hj] at hs
      obtain ⟨o, g1, g2⟩ := e.ok j s hs
      refine ⟨o, g1, ?_⟩
      cases s with
      | no => trivial
      | va d => exact g2
      | ow es' =>
        obtain ⟨q, zs, rfl, hq, hqr, rl⟩ := g2
        refine ⟨q, zs, rfl, ?_, hqr, rl⟩
        have hne : q ≠ p := fun z => by
          subst z
          exact hj (e.ap i j u es' q h1 hs h2 g1)
        rw [upd_ne hne]; exact hq
  · have back : ∀ m (fs : D), (ρ.set i (.ow w))[m]? = some (Sl.ow fs) → ∃ fs', ρ[m]? = some (Sl.ow fs') := fun m fs hm => by
      by_cases hmi : i = m
      · subst hmi; exact ⟨u, h1⟩
      · rw [List.getElem?_set_ne hmi] at hm; exact ⟨fs, hm⟩
    obtain ⟨_, b1⟩ := back j _ g1
    obtain ⟨_, b2⟩ := back k _ g2
    exact e.ap j k _ _ q b1 b2 g3 g4
  · by_cases hj : i = j
    · subst hj; exact e.fr i u q h1 g2
    · rw [List.getElem?_set_ne hj] at g1; exact e.fr j es' q g1 g2
/-- at the entry of a def -/
theorem EvR.enter {vs : List V} {ds : List D} {n : Nat} (s : Same R H) (r : RepL K R vs ds) : EvR K H R H R (vs.map some ++ List.replicate n none) (ds.map Sl.va ++ List.replicate n Sl.no) := by
  have noow : ∀ (i : Nat) (es : D), (ds.map Sl.va ++ List.replicate n Sl.no)[i]? ≠ some (Sl.ow es) := fun i es h => by
    have hm := List.mem_of_getElem? h
    rcases List.mem_append.mp hm with hm | hm
    · obtain ⟨d, _, e⟩ := List.mem_map.mp hm; cases e
    · have := (List.mem_replicate.mp hm).2; cases this
  refine ⟨Same.refl _, s, Same.refl _, fun _ _ _ n => n, by simp [r.len], fun i sl hs => ?_, fun i j ds es p h1 => absurd h1 (noow i _), fun i ds p h1 => absurd h1 (noow i _)⟩
  by_cases hi : i < ds.length
  · rw [List.getElem?_append_left (by simpa using hi), List.getElem?_map] at hs
    rw [List.getElem?_append_left (by rw [List.length_map, r.len]; exact hi), List.getElem?_map]
    obtain ⟨v, h1, h2⟩ := r.get (List.getElem?_eq_getElem hi)
    rw [List.getElem?_eq_getElem hi] at hs
    cases hs
    exact ⟨some v, by rw [h1]; rfl, v, rfl, h2⟩
  · have hs' : sl = .no := by
      rw [List.getElem?_append_right (by simpa using hi)] at hs
      exact (List.mem_replicate.mp (List.mem_of_getElem? hs)).2
    subst hs'
    have hl : i < (vs.map some ++ List.replicate n (none : Option V)).length := by
      have := (List.getElem?_eq_some_iff.mp hs).1
      simp [r.len] at this ⊢
      exact this
    exact ⟨_, List.getElem?_eq_getElem hl, trivial⟩
theorem EvR.gr (e : EvR K H0 R0 H R σ ρ) : Gr H0 R0 H R := ⟨e.h, e.r, e.i, e.o⟩
/-- the base moved on -/
theorem EvR.base (e : EvR K H0 R0 H R σ ρ) : EvR K H0 R H R σ ρ := ⟨Same.refl _, e.i, e.h, fun _ _ _ n => n, e.len, e.ok, e.ap, e.fr⟩
theorem EvR.unbase {R1 : Hp} (e : EvR K H0 R1 H R σ ρ) (s : Same R0 R1) (o : ∀ a o, H0 a = some o → R0 a = none → R1 a = none) : EvR K H0 R0 H R σ ρ :=
  ⟨s.trans e.r, e.i, e.h, fun a x h n => e.o a x h (o a x h n), e.len, e.ok, e.ap, e.fr⟩
theorem Gr.unbase {R1 : Hp} (g : Gr H0 R1 H' R') (s : Same R0 R1) (o : ∀ a o, H0 a = some o → R0 a = none → R1 a = none) : Gr H0 R0 H' R' := ⟨g.h, s.trans g.r, g.i, fun a x h n => g.o a x h (o a x h n)⟩
end

inductive Out where
  | nx (ρ : SEnv) | rt (d : D) | rl (ds : List D) | bk (ρ : SEnv) | ct (ρ : SEnv) | ex (ρ : SEnv) (c : Value) (fs : List (Str × D))
def OutOk (K : PySem.W.Frag) (H0 R0 : Hp) (W : WX) (E : Ends) : Out → Prop
  | .nx ρ => ∀ σ' H', EvS K H0 R0 H' σ' ρ → E.nx σ' H'
  | .rt d => ∀ v H' R', Gr H0 R0 H' R' → Rep K R' v d → E.rt v H'
  | .rl ds => ∀ p xs H' R', Gr H0 R0 H' R' → H0 p = none → H' p = some (.lst xs) → R' p = none → xs.length ≤ sizeLine → RepL K R' xs ds → E.rt (.ref p) H'
  | .bk ρ => ∀ σ' H', EvS K H0 R0 H' σ' ρ → E.bk σ' H'
  | .ct ρ => ∀ σ' H', EvS K H0 R0 H' σ' ρ → E.ct σ' H'
  | .ex ρ c fs => ∀ σ' H' R' dd, EvR K H0 R0 H' R' σ' ρ → ExOk K R' dd fs → W c dd σ' H'
/-- from names that stand so the statement ends so -/
def DS (K : PySem.W.Frag) (W : WX) (ρ : SEnv) (t : TS) (o : Out) : Prop := ∀ (H0 R0 H : Hp) (σ : L2.St) (E : Ends), EvS K H0 R0 H σ ρ → OutOk K H0 R0 W E o → t E σ H
theorem OutOk.rebase {K : PySem.W.Frag} {H0 R0 R1 : Hp} {W : WX} {E : Ends} (s : Same R0 R1) (h : ∀ a o, H0 a = some o → R0 a = none → R1 a = none) : ∀ {o : Out}, OutOk K H0 R0 W E o → OutOk K H0 R1 W E o
  | .nx _, k => fun σ' H' ⟨R, e⟩ => k σ' H' ⟨R, e.unbase s h⟩
  | .bk _, k => fun σ' H' ⟨R, e⟩ => k σ' H' ⟨R, e.unbase s h⟩
  | .ct _, k => fun σ' H' ⟨R, e⟩ => k σ' H' ⟨R, e.unbase s h⟩
  | .rt _, k => fun v H' R' g r => k v H' R' (g.unbase s h) r
  | .rl _, k => fun p xs H' R' g a b c n r => k p xs H' R' (g.unbase s h) a b c n r
  | .ex _ _ _, k => fun σ' H' R' dd e x => k σ' H' R' dd (e.unbase s h) x
/-- targets: which slots take what -/
def sets : L2.St → List Nat → List V → L2.St
  | σ, i :: is, u :: us => sets (σ.set i (some u)) is us
  | σ, _, _ => σ
def setsD : DEnv → List (Nat × D) → DEnv
  | δ, [] => δ
  | δ, (i, d) :: r => setsD (δ.set i (some d)) r
def setsS : SEnv → List (Nat × D) → SEnv
  | ρ, [] => ρ
  | ρ, (i, d) :: r => setsS (ρ.set i (.va d)) r
def DG (K : PySem.W.Frag) (g : TG) (d : D) (ps : List (Nat × D)) : Prop := ∀ (H R : Hp) (σ : L2.St) (v : V) (QS : L2.St → Hp → Prop), Same R H → Rep K R v d → (∀ us, RepL K R us (ps.map Prod.snd) → QS (sets σ (ps.map Prod.fst) us) H) → g v σ H QS
def DGs (K : PySem.W.Frag) (g : TGs) (ds : List D) (ps : List (Nat × D)) : Prop := ∀ (H R : Hp) (σ : L2.St) (vs : List V) (QS : L2.St → Hp → Prop), Same R H → RepL K R vs ds → (∀ us, RepL K R us (ps.map Prod.snd) → QS (sets σ (ps.map Prod.fst) us) H) → g vs σ H QS
section
variable {K : PySem.W.Frag} {W : WX} {ρ ρ' : SEnv} {l : Bool} {te : TE} {tt : TT} {t u : TS} {d x : D} {ds es : List D} {i : Nat} {o o' : Out} {b : Bool} {g : TG} {gs : TGs} {ps qs : List (Nat × D)} {c : Value} {fs : List (Str × D)}
theorem EvR.sets {H0 R0 H R : Hp} : ∀ {ps : List (Nat × D)} {us : List V} {σ : L2.St} {ρ : SEnv}, EvR K H0 R0 H R σ ρ → RepL K R us (ps.map Prod.snd) → EvR K H0 R0 H R (G.sets σ (ps.map Prod.fst) us) (setsS ρ ps)
  | [], _, _, _, e, .nil => e
  | (i, d) :: _, v :: _, σ, ρ, e, .cons r rr => EvR.sets (σ := σ.set i (some v)) (ρ := ρ.set i (.va d)) (e.setV r) rr
theorem g_name' : DG K (gName i) d [(i, d)] := fun H R σ v QS s r q => q [v] (.cons r .nil)
theorem g_nil : DGs K gNil [] [] := fun H R σ vs QS s r q => by cases r; exact ⟨rfl, q [] .nil⟩
theorem sets_app : ∀ {is js : List Nat} {us ws : List V} {σ : L2.St}, is.length = us.length → sets (sets σ is us) js ws = sets σ (is ++ js) (us ++ ws)
  | [], _, [], _, _, _ => rfl
  | i :: is, js, u :: us, ws, σ, h => by
    show sets (sets (σ.set i (some u)) is us) js ws = sets (σ.set i (some u)) (is ++ js) (us ++ ws)
    exact sets_app (by simpa using h)
  | [], _, _ :: _, _, _, h => by simp at h
  | _ :: _, _, [], _, _, h => by simp at h
theorem g_cons (h1 : DG K g d ps) (h2 : DGs K gs ds qs) : DGs K (gCons g gs) (d :: ds) (ps ++ qs) := fun H R σ vs QS s r q => by
  cases r with
  | @cons v vs _ _ r rr =>
    refine ⟨v, vs, rfl, h1 H R σ v _ s r fun us ru => h2 H R _ vs QS s rr fun ws rw' => ?_⟩
    rw [sets_app (by rw [List.length_map, ru.len, List.length_map])]
    have := q (us ++ ws) (by rw [List.map_append]; exact ru.app rw')
    rw [List.map_append] at this
    exact this
theorem g_tup {n : Nat} (h : DGs K gs ds ps) (hn : ds.length = n) : DG K (gTup K n gs) (.tup ds) ps := fun H R σ v QS s r q => by
  cases r with
  | tup h1 h2 => exact ⟨_, _, rfl, sqT_same s h1, by rw [h2.len]; exact hn, h H R σ _ QS s h2 q⟩

/-! ### the statements -/
theorem x_next : DS K W ρ tNext (.nx ρ) := fun H0 R0 H σ E e k => k σ H e
theorem x_brk : DS K W ρ tBreak (.bk ρ) := fun H0 R0 H σ E e k => k σ H e
theorem x_cont : DS K W ρ tCont (.ct ρ) := fun H0 R0 H σ E e k => k σ H e
theorem x_seq (h1 : DS K W ρ t (.nx ρ')) (h2 : DS K W ρ' u o) : DS K W ρ (tSeq t u) o := fun H0 R0 H σ E e k =>
  h1 H0 R0 H σ _ e fun σ' H' e' => h2 H0 R0 H' σ' E e' k
/-- what leaves the statement leaves the block -/
def Out.out : Out → Bool
  | .nx _ => false
  | _ => true
theorem x_leave (h1 : DS K W ρ t o) (ho : o.out = true) : DS K W ρ (tSeq t u) o := fun H0 R0 H σ E e k =>
  h1 H0 R0 H σ _ e (by cases o <;> first | (cases ho; done) | exact k)
theorem x_is (h : DS K W ρ t o) (e : o = o') : DS K W ρ t o' := e ▸ h
theorem x_weak (w : wk ρ ρ') (h : DS K W ρ' t o) : DS K W ρ t o := fun H0 R0 H σ E ⟨R, e⟩ k => h H0 R0 H σ E ⟨R, e.weak w⟩ k
/-- the outcome weakened -/
def wkO : Out → Out → Prop
  | .nx ρ, .nx ρ' => wk ρ ρ'
  | .bk ρ, .bk ρ' => wk ρ ρ'
  | .ct ρ, .ct ρ' => wk ρ ρ'
  | .ex ρ c fs, .ex ρ' c' fs' => wk ρ ρ' ∧ c = c' ∧ fs = fs'
  | a, b => a = b
theorem OutOk.weak {H0 R0 : Hp} {E : Ends} (w : wkO o o') (k : OutOk K H0 R0 W E o') : OutOk K H0 R0 W E o := by
  cases o <;> cases o' <;> first
    | (exact fun σ' H' ⟨R, e⟩ => k σ' H' ⟨R, e.weak w⟩)
    | (cases w; exact k)
    | (obtain ⟨w, rfl, rfl⟩ := w; exact fun σ' H' R' dd e x => k σ' H' R' dd (e.weak w) x)
    | (exact absurd w (by simp [wkO]))
theorem x_weakO (h : DS K W ρ t o) (w : wkO o o') : DS K W ρ t o' := fun H0 R0 H σ E e k => h H0 R0 H σ E e (k.weak w)
theorem x_if (l : Bool) (h1 : DT K (fz l ρ) tt b) (h2 : b = true → DS K W ρ t o) (h3 : b = false → DS K W ρ u o) : DS K W ρ (tIfS tt t u) o := fun H0 R0 H σ E ⟨R, e⟩ k =>
  h1 H _ σ _ e.lendI e.env fun H1 R1 g => by
    have e1 := (e.run g).1
    cases b with
    | true => exact if_tt (h2 rfl H0 R0 H1 σ E ⟨_, e1⟩ k)
    | false => exact if_ff (h3 rfl H0 R0 H1 σ E ⟨_, e1⟩ k)
theorem x_asg (l : Bool) (h1 : DE K (fz l ρ) te d) (hg : DG K g d ps) (hs : l = true → d.sol = true) : DS K W ρ (tAsg te g) (.nx (setsS ρ ps)) := fun H0 R0 H σ E ⟨R, e⟩ k =>
  h1 H _ σ _ e.lendI e.env fun v H1 R1 g' r => by
    obtain ⟨e1, _, q, _⟩ := e.run g'
    exact hg H1 _ σ v _ e1.i (q v d hs r) fun us ru => k _ H1 ⟨_, e1.sets ru⟩
theorem x_set (l : Bool) (h1 : DE K (fz l ρ) te d) (hs : l = true → d.sol = true) : DS K W ρ (tAsg te (gName i)) (.nx (ρ.set i (.va d))) := x_asg l h1 g_name' hs
theorem EvR.notOwn {H0 R0 H R : Hp} {σ : L2.St} (e : EvR K H0 R0 H R σ ρ) {p : Addr} (hp : H p = none) : ¬ Own σ ρ p := fun h => by
  obtain ⟨⟨x, u, hx, _⟩, _⟩ := e.own h
  rw [hp] at hx; cases hx
theorem x_setL (l : Bool) (h1 : DL K (fz l ρ) te ds) (hs : l = true → D.solL ds = true) : DS K W ρ (tAsg te (gName i)) (.nx (ρ.set i (.ow (.lst ds)))) := fun H0 R0 H σ E ⟨R, e⟩ k =>
  h1 H _ σ _ e.lendI e.env fun p xs H1 R1 g hp h2 h3 h4 r => by
    obtain ⟨e1, _, _, q, n, _⟩ := e.run g
    exact k _ H1 ⟨_, e1.setO h2 (n p h3) (e.h.free hp) (u := .lst ds) (q xs ds hs r) fun j _ es g1 g2 => e.notOwn hp ⟨j, es, g1, g2⟩⟩
theorem x_drop (l : Bool) (h1 : DE K (fz l ρ) te d) : DS K W ρ (tDrop te) (.nx ρ) := fun H0 R0 H σ E ⟨R, e⟩ k =>
  h1 H _ σ _ e.lendI e.env fun v H1 R1 g r => k _ H1 ⟨_, (e.run g).1⟩
theorem EvR.grL {H0 R0 H R H' R' : Hp} {σ : L2.St} (e : EvR K H0 R0 H R σ ρ) (g : Gr H (lend l H R σ ρ) H' R') : Gr H0 R0 H' R' := by
  refine ⟨e.h.trans g.h, (e.r.trans e.up).trans g.r, g.i, fun a o h n => ?_⟩
  by_cases z : l = true ∧ Own σ ρ a
  · rw [(e.own z.2).2.2] at h; cases h
  · exact g.o a o (e.h a o h) (by rw [lend_no z]; exact e.o a o h n)
theorem x_ret (l : Bool) (h1 : DE K (fz l ρ) te d) : DS K W ρ (tRet te) (.rt d) := fun H0 R0 H σ E ⟨R, e⟩ k =>
  h1 H _ σ _ e.lendI e.env fun v H1 R1 g r => k v H1 R1 (e.grL g) r
theorem x_retL (l : Bool) (h1 : DL K (fz l ρ) te ds) : DS K W ρ (tRet te) (.rl ds) := fun H0 R0 H σ E ⟨R, e⟩ k =>
  h1 H _ σ _ e.lendI e.env fun p xs H1 R1 g hp h2 h3 h4 r => k p xs H1 R1 (e.grL g) (e.h.free hp) h2 h3 h4 r
theorem x_retN : DS K W ρ tRetN (.rt .non) := fun H0 R0 H σ E ⟨R, e⟩ k => k .non H R e.gr .non
/-- return x, x an owned list -/
theorem x_retO (h : ρ[i]? = some (.ow (.lst ds))) (hn : ds.length ≤ 10000000) : DS K W ρ (tRet (tVar i)) (.rl ds) := fun H0 R0 H σ E ⟨R, e⟩ k => by
  obtain ⟨o, h1, p, xs, rfl, h2, h3, r⟩ := e.ok i _ h
  cases xs <;> first
    | exact r.elim
    | skip
  rename_i xs
  exact ⟨.ref p, h1, k p xs H R e.gr (e.fr i _ p h h1) h2 h3 (small (by rw [RepL.len r]; exact hn)) r⟩
/-- an owned object may be kept as a datum -/
theorem EvR.freeze {H0 R0 H R : Hp} {σ : L2.St} (e : EvR K H0 R0 H R σ ρ) (h : ρ[i]? = some (.ow x)) : ∃ R', EvR K H0 R0 H R' σ (ρ.set i (.va x)) := by
  have hi : i < ρ.length := (List.getElem?_eq_some_iff.mp h).1
  obtain ⟨o, h1, p, y, rfl, h2, h3, r⟩ := e.ok i _ h
  have h0 := e.fr i _ p h h1
  have up : Same R (upd R p y) := fun b o e' => by rw [upd_ne (ne_of_none e' h3)]; exact e'
  have ne : ∀ m (w : D), (ρ.set i (.va x))[m]? = some (.ow w) → i ≠ m := fun m w hm z => by
    subst z
    have := (set_self_some hm).1; cases this
  refine ⟨upd R p y, e.r.trans up, fun b o e' => ?_, e.h, fun a o e' n => ?_, by simp [e.len], fun j s hs => ?_, fun j k ds' es' q g1 g2 g3 g4 => ?_, fun j es' q g1 g2 => ?_⟩
  · by_cases hb : b = p
    · subst hb; rw [upd_same] at e'; rw [h2]; exact e'
    · rw [upd_ne hb] at e'; exact e.i b o e'
  · rw [upd_ne (ne_of_none e' h0)]; exact e.o a o e' n
  · by_cases hj : i = j
    · subst hj
      obtain ⟨rfl, _⟩ := set_self_some hs
      exact ⟨_, h1, .ref p, rfl, (r.mono up).rep upd_same⟩
    · rw [List.getElem?_set_ne hj] at hs
      obtain ⟨o, g1, g2⟩ := e.ok j s hs
      refine ⟨o, g1, ?_⟩
      cases s with
      | no => trivial
      | va d => obtain ⟨v, g3, r'⟩ := g2; exact ⟨v, g3, r'.mono up⟩
      | ow es' =>
        obtain ⟨q, zs, rfl, hq, hqr, rl⟩ := g2
        refine ⟨q, zs, rfl, hq, ?_, rl.mono up⟩
        have hne : q ≠ p := fun z => by
          subst z
          exact hj (e.ap i j x es' q h hs h1 g1)
        rw [upd_ne hne]; exact hqr
  · have n1 := ne j _ g1
    have n2 := ne k _ g2
    rw [List.getElem?_set_ne n1] at g1
    rw [List.getElem?_set_ne n2] at g2
    exact e.ap j k _ _ q g1 g2 g3 g4
  · have n1 := ne j _ g1
    rw [List.getElem?_set_ne n1] at g1
    exact e.fr j es' q g1 g2
theorem x_frz (i : Nat) (h : ρ[i]? = some (.ow x)) (k : DS K W (ρ.set i (.va x)) t o) : DS K W ρ t o := fun H0 R0 H σ E ⟨R, e⟩ q => by
  obtain ⟨R', e'⟩ := e.freeze h
  exact k H0 R0 H σ E ⟨R', e'⟩ q
/-- behind an operation on an owned list -/
theorem x_own {H0 R0 H : Hp} {σ : L2.St} {P : Prop} (h : ρ[i]? = some (.ow (.lst ds))) (e : EvS K H0 R0 H σ ρ) (k : ∀ p xs R, EvR K H0 R0 H R σ ρ → σ[i]? = some (some (.ref p)) → H p = some (.lst xs) → RepL K R xs ds → P) : P := by
  obtain ⟨R, e⟩ := e
  obtain ⟨o, g1, p, xs, rfl, g2, g3, r⟩ := e.ok i _ h
  cases xs <;> first
    | exact r.elim
    | skip
  rename_i xs
  exact k p xs R e g1 g2 r
/-- x.append(e) -/
theorem x_app (l : Bool) (h : ρ[i]? = some (.ow (.lst ds))) (h1 : DE K (fz l ρ) te d) (hs : l = true → d.sol = true) (hn : ds.length < 10000000) : DS K W ρ (tDrop (tBM K "list" rAppend (tVar i) (tCons te tNil))) (.nx (ρ.set i (.ow (.lst (ds ++ [d]))))) := fun H0 R0 H σ E e k =>
  x_own h e fun p xs R e g1 g2 r => by
    refine ⟨.ref p, g1, .inl ⟨rfl, xs, SqL.of g2⟩, ?_⟩
    refine h1 H _ σ _ e.lendI e.env fun v H1 R1 g r1 => ?_
    obtain ⟨e1, up, q, _⟩ := e.run g
    exact ⟨p, xs, v, rfl, rfl, g.h p _ g2, smallL (by rw [r.len]; exact hn), k _ _ ⟨_, e1.put h g1 (w := .lst (ds ++ [d])) (y := .lst (xs ++ [v])) ((r.mono up).app (.cons (q v d hs r1) .nil))⟩⟩
/-- y = x.pop() -/
theorem x_pop (h : ρ[i]? = some (.ow (.lst (ds ++ [d])))) (hg : DG K g d ps) : DS K W ρ (tAsg (tBM K "list" rPop (tVar i) tNil) g) (.nx (setsS (ρ.set i (.ow (.lst ds))) ps)) := fun H0 R0 H σ E e k =>
  x_own h e fun p xs R e g1 g2 r => by
    have hl := r.len
    obtain ⟨v, hv, rv⟩ := r.get (i := ds.length) (d := d) (by simp)
    refine ⟨.ref p, g1, .inl ⟨rfl, xs, SqL.of g2⟩, p, xs, v, rfl, rfl, g2, ?_, ?_⟩
    · rw [hl, List.length_append]; exact hv
    · have e1 := e.put h g1 (w := .lst ds) (y := .lst xs.dropLast) (by have := r.last; rw [List.dropLast_concat] at this; exact this)
      exact hg _ R σ v _ e1.i rv fun us ru => k _ _ ⟨_, e1.sets ru⟩
theorem x_popD (h : ρ[i]? = some (.ow (.lst (ds ++ [d])))) : DS K W ρ (tDrop (tBM K "list" rPop (tVar i) tNil)) (.nx (ρ.set i (.ow (.lst ds)))) := fun H0 R0 H σ E e k =>
  x_own h e fun p xs R e g1 g2 r => by
    have hl := r.len
    obtain ⟨v, hv, rv⟩ := r.get (i := ds.length) (d := d) (by simp)
    refine ⟨.ref p, g1, .inl ⟨rfl, xs, SqL.of g2⟩, p, xs, v, rfl, rfl, g2, ?_, ?_⟩
    · rw [hl, List.length_append]; exact hv
    · exact k _ _ ⟨_, e.put h g1 (w := .lst ds) (y := .lst xs.dropLast) (by have := r.last; rw [List.dropLast_concat] at this; exact this)⟩
/-! ### errors -/
theorem x_raise0 : DS K W ρ (fun _ σ H => W c none σ H) (.ex ρ c []) := fun H0 R0 H σ E ⟨R, e⟩ k => k σ H R none e rfl
theorem EvR.exc {H0 R0 H R H' R' : Hp} {σ : L2.St} {dd : Option Addr} (e : EvR K H0 R0 H R σ ρ) (g : Gr H (lend l H R σ ρ) H' R') (hs : l = true → D.solL (fs.map Prod.snd) = true) (x : ExOk K R' dd fs) : EvR K H0 R0 H' (less l R' σ ρ) σ ρ ∧ ExOk K (less l R' σ ρ) dd fs := by
  obtain ⟨e1, _, _, q, _, k⟩ := e.run g
  refine ⟨e1, ?_⟩
  cases dd with
  | none => exact x
  | some a =>
    obtain ⟨h0, vs, h1, h2⟩ := x
    exact ⟨h0, vs, k a _ h1 (.inr ⟨_, rfl⟩), q _ _ hs h2⟩
theorem x_setX (l : Bool) (h1 : DEx K W (fz l ρ) te c fs) (hs : l = true → D.solL (fs.map Prod.snd) = true) : DS K W ρ (tAsg te g) (.ex ρ c fs) := fun H0 R0 H σ E ⟨R, e⟩ k =>
  h1 H _ σ _ e.lendI e.env fun dd H1 R1 g x => by
    obtain ⟨a, b⟩ := e.exc g hs x
    exact k σ H1 _ dd a b
theorem x_dropX (l : Bool) (h1 : DEx K W (fz l ρ) te c fs) (hs : l = true → D.solL (fs.map Prod.snd) = true) : DS K W ρ (tDrop te) (.ex ρ c fs) := fun H0 R0 H σ E ⟨R, e⟩ k =>
  h1 H _ σ _ e.lendI e.env fun dd H1 R1 g x => by
    obtain ⟨a, b⟩ := e.exc g hs x
    exact k σ H1 _ dd a b
theorem x_retX (l : Bool) (h1 : DEx K W (fz l ρ) te c fs) (hs : l = true → D.solL (fs.map Prod.snd) = true) : DS K W ρ (tRet te) (.ex ρ c fs) := fun H0 R0 H σ E ⟨R, e⟩ k =>
  h1 H _ σ _ e.lendI e.env fun dd H1 R1 g x => by
    obtain ⟨a, b⟩ := e.exc g hs x
    exact k σ H1 _ dd a b
def Out.noEx : Out → Bool
  | .ex _ _ _ => false
  | _ => true
/-- try: nothing is raised -/
theorem x_tryN {tb : WX → TS} {w : Ends → WX} (hb : ∀ W, DS K W ρ (tb W) o) (ho : o.noEx = true) : DS K W ρ (fun D σ H => tb (w D) D σ H) o := fun H0 R0 H σ E e k =>
  hb _ H0 R0 H σ E e (by cases o <;> first | (cases ho; done) | exact k)
/-- except C as e: the suite -/
theorem x_tryAs {tb : WX → TS} {c : Value} {i : Nat} {ts : Addr → Value → Option Addr → TS} {Wout : WX} {c' : Value} (hb : ∀ W, DS K W ρ (tb W) (.ex ρ' c' fs)) (hc : PySem.W.exmOne K c' c = some true)
    (hs : ∀ (a : Addr) (dd : Option Addr) (H0 R0 H R : Hp) (σ : L2.St) (E : Ends), H a = none → EvR K H0 R0 H R σ ρ' → ExOk K R dd fs → OutOk K H0 R0 Wout { nx := fun σ' H' => E.nx (σ'.set i none) H', rt := E.rt, bk := fun σ' H' => E.bk (σ'.set i none) H', ct := fun σ' H' => E.ct (σ'.set i none) H' } o → ts a c' dd { nx := fun σ' H' => E.nx (σ'.set i none) H', rt := E.rt, bk := fun σ' H' => E.bk (σ'.set i none) H', ct := fun σ' H' => E.ct (σ'.set i none) H' } (σ.set i (some (.ref a))) H)
    (ho : ∀ (H0 R0 : Hp) (E : Ends), OutOk K H0 R0 W E o' → OutOk K H0 R0 Wout { nx := fun σ' H' => E.nx (σ'.set i none) H', rt := E.rt, bk := fun σ' H' => E.bk (σ'.set i none) H', ct := fun σ' H' => E.ct (σ'.set i none) H' } o) :
    DS K W ρ (fun D σ H => tb (wAs K c i ts Wout D) D σ H) o' := fun H0 R0 H σ E e k =>
  hb _ H0 R0 H σ E e fun σ' H' R' dd e' x => ⟨true, hc, fun _ a ha => hs a dd H0 R0 H' R' σ' E ha e' x (ho H0 R0 E k), fun z => by cases z⟩
end

/-! ### loops -/
def Goes (N : SEnv → Prop) (o : Out) : Out → Prop
  | .nx ρ => ∃ ρ', wk ρ ρ' ∧ N ρ'
  | .ct ρ => ∃ ρ', wk ρ ρ' ∧ N ρ'
  | .bk ρ => ∃ ρ', wk ρ ρ' ∧ o = .nx ρ'
  | .ex ρ c fs => ∃ ρ', wk ρ ρ' ∧ o = .ex ρ' c fs
  | o' => o = o'
section
variable {K : PySem.W.Frag} {W : WX} {ρ ρ' : SEnv} {l : Bool} {te : TE} {tt : TT} {t u : TS} {o : Out} {g : TG} {wi : TI} {xs : List D}
theorem Goes.ok {H0 R0 : Hp} {E : Ends} {N : SEnv → Prop} {N' : L2.St → Hp → Prop} {o' : Out} (h : Goes N o o') (k : OutOk K H0 R0 W E o) (hn : ∀ ρ σ H, N ρ → EvS K H0 R0 H σ ρ → N' σ H) : OutOk K H0 R0 W { E with nx := N', ct := N', bk := E.nx } o' := by
  cases o' with
  | nx ρ => obtain ⟨ρ', w, n⟩ := h; exact fun σ' H' ⟨R, e⟩ => hn ρ' σ' H' n ⟨R, e.weak w⟩
  | ct ρ => obtain ⟨ρ', w, n⟩ := h; exact fun σ' H' ⟨R, e⟩ => hn ρ' σ' H' n ⟨R, e.weak w⟩
  | bk ρ => obtain ⟨ρ', w, rfl⟩ := h; exact fun σ' H' ⟨R, e⟩ => k σ' H' ⟨R, e.weak w⟩
  | ex ρ c fs => obtain ⟨ρ', w, rfl⟩ := h; exact fun σ' H' R' dd e x => k σ' H' R' dd (e.weak w) x
  | rt d => cases h; exact k
  | rl d => cases h; exact k
theorem x_while (l : Bool) (P : Nat → SEnv → Prop) (n : Nat) (h0 : P n ρ)
    (h : ∀ n ρ, P n ρ → ∃ b, DT K (fz l ρ) tt b ∧ (b = true → ∃ o', DS K W ρ t o' ∧ Goes (fun ρ' => ∃ n', n' < n ∧ P n' ρ') o o') ∧ (b = false → ∃ ρ', wk ρ ρ' ∧ o = .nx ρ')) : DS K W ρ (tWhile tt t) o := fun H0 R0 H σ E e k => by
  refine ⟨fun m σ H => ∃ ρ, P m ρ ∧ EvS K H0 R0 H σ ρ, ⟨n, ρ, h0, e⟩, ?_⟩
  rintro m σ H ⟨ρ, p, R, e⟩
  obtain ⟨b, hb, h1, h2⟩ := h m ρ p
  refine hb H _ σ _ e.lendI e.env fun H1 R1 g => ?_
  have e1 := (e.run g).1
  cases b with
  | true =>
    refine if_tt ?_
    obtain ⟨o', hd, hg⟩ := h1 rfl
    refine ⟨fun σ' H' => ∃ n' ρ', n' < m ∧ P n' ρ' ∧ EvS K H0 R0 H' σ' ρ', fun σ' H' ⟨n', ρ', a, b, c⟩ => ⟨n', a, ρ', b, c⟩, ?_⟩
    refine hd H0 R0 H1 σ _ ⟨_, e1⟩ (hg.ok k ?_)
    rintro ρ' σ' H' ⟨n', a, b⟩ ev
    exact ⟨n', ρ', a, b, ev⟩
  | false =>
    refine if_ff ?_
    obtain ⟨ρ', w, rfl⟩ := h2 rfl
    exact k σ H1 ⟨_, e1.weak w⟩
/-- what a for walks: one datum after another -/
def DWk (K : PySem.W.Frag) (J : It) (R : Hp) (xs : List D) : Prop := ∃ Y, Walk J xs.length (fun H => Same R H) Y ∧ ∀ (i : Nat) (H R2 : Hp) (x : V) (H' : Hp), i < xs.length → Same R R2 → Same R2 H → Y i H x H' → ∃ d R3, xs[i]? = some d ∧ Gr H R2 H' R3 ∧ Rep K R3 x d
def DI (K : PySem.W.Frag) (δ : DEnv) (wi : TI) (xs : List D) : Prop := ∀ (H R : Hp) (σ : L2.St) (Rk : It → Hp → Prop), Same R H → EnvR K R σ δ → (∀ J H' R', Gr H R H' R' → DWk K J R' xs → Rk J H') → wi σ H Rk
theorem EvR.grow {H0 R0 H R H' R' : Hp} {σ : L2.St} (e : EvR K H0 R0 H R σ ρ) (g : Gr H R H' R') : EvR K H0 R0 H' R' σ ρ := by
  have := (e.run (l := false) (by rw [lend_f]; exact g)).1
  rw [less_f] at this
  exact this
theorem x_for (hi : DI K (fz false ρ) wi xs) (P : Nat → SEnv → Prop) (h0 : ∃ ρ', wk ρ ρ' ∧ P 0 ρ')
    (hs : ∀ i d ρ, xs[i]? = some d → P i ρ → ∃ ps, DG K g d ps ∧ ∃ o', DS K W (setsS ρ ps) t o' ∧ Goes (P (i + 1)) o o') (hd : ∀ ρ, P xs.length ρ → ∃ ρ', wk ρ ρ' ∧ o = .nx ρ') : DS K W ρ (tFor wi g t) o := fun H0 R0 H σ E ⟨R, e⟩ k => by
  refine hi H R σ _ e.i (by have := e.env (l := false); rw [lend_f] at this; exact this) fun J H1 R1 g1 ⟨Y, hw, hy⟩ => ?_
  have e1 := e.grow g1
  have s1 : Same R0 R1 := e1.r
  have o1 : ∀ a o, H0 a = some o → R0 a = none → R1 a = none := e1.o
  have k1 : OutOk K H0 R1 W E o := k.rebase s1 o1
  obtain ⟨ρ1, w1, p0⟩ := h0
  refine for_it (D := E) hw (fun i σ H => ∃ ρ, P i ρ ∧ EvS K H0 R1 H σ ρ) ⟨ρ1, p0, R1, (e1.base).weak w1⟩ ?_ ?_ ?_
  · rintro i σ H _ ⟨ρ, _, R2, e2⟩
    exact e2.r.trans e2.i
  · rintro i x σ H H' hi ⟨ρ, p, R2, e2⟩ y
    obtain ⟨d, R3, hd', g3, r3⟩ := hy i H R2 x H' hi e2.r e2.i y
    have e3 := e2.grow g3
    obtain ⟨ps, hg, o', hds, hgo⟩ := hs i d ρ hd' p
    refine hg H' R3 σ x _ e3.i r3 fun us ru => ?_
    exact hds H0 R1 H' _ _ ⟨R3, e3.sets ru⟩ (hgo.ok k1 fun ρ' σ' H'' n ev => ⟨ρ', n, ev⟩)
  · rintro σ H ⟨ρ, p, R2, e2⟩
    obtain ⟨ρ', w, rfl⟩ := hd ρ p
    exact k1 σ H ⟨R2, e2.weak w⟩
/-- a loop whose state at each turn is told -/
theorem x_forE (hi : DI K (fz false ρ) wi xs) (S : Nat → SEnv) (ps : Nat → List (Nat × D)) (h0 : wk ρ (S 0))
    (hs : ∀ i d, xs[i]? = some d → DG K g d (ps i) ∧ ∃ o', DS K W (setsS (S i) (ps i)) t o' ∧ Goes (fun ρ => ρ = S (i + 1)) (.nx (S xs.length)) o') : DS K W ρ (tFor wi g t) (.nx (S xs.length)) := by
  refine x_for hi (fun i ρ => ρ = S i) ⟨S 0, h0, rfl⟩ ?_ ?_
  · rintro i d ρ hd rfl
    obtain ⟨h1, h2⟩ := hs i d hd
    exact ⟨ps i, h1, h2⟩
  · rintro ρ rfl
    exact ⟨_, wk.refl _, rfl⟩

/-! ### iterables -/
variable {δ : DEnv} {ta : TA} {ds : List D}
theorem DWk.plain {J : It} {R : Hp} {n : Nat} {f : Nat → V → Prop} (w : Walk J n (fun H => Same R H) (fun i H x H' => H' = H ∧ f i x)) (hl : xs.length = n) (h : ∀ i x, i < n → f i x → ∃ d, xs[i]? = some d ∧ ∀ R', Same R R' → Rep K R' x d) : DWk K J R xs := by
  subst hl
  refine ⟨_, w, fun i H R2 x H' hi s1 s2 ⟨e, y⟩ => ?_⟩
  subst e
  obtain ⟨d, h1, h2⟩ := h i x hi y
  exact ⟨d, R2, h1, Gr.refl s2, h2 R2 s1⟩
def rngD (lo : Int) (n : Nat) : List D := (List.range n).map fun (i : Nat) => D.int (lo + (i : Int))
theorem rngD_get {lo : Int} {n i : Nat} : (rngD lo n)[i]? = if i < n then some (.int (lo + (i : Int))) else none := by
  unfold rngD
  rw [List.getElem?_map]
  by_cases h : i < n
  · rw [if_pos h, List.getElem?_range h]; rfl
  · rw [if_neg h, List.getElem?_eq_none (by simpa using h)]; rfl
theorem rngD_len {lo : Int} {n : Nat} : (rngD lo n).length = n := by simp [rngD]
theorem wk_rng {R : Hp} {lo : Int} {n : Nat} : DWk K (Itr lo n) R (rngD lo n) := by
  refine DWk.plain (f := fun i x => x = .int (lo + i)) (n := n) (walk_range.mono (fun _ _ => trivial) fun i H x H' _ _ y => y) rngD_len fun i x hi e => ?_
  exact ⟨.int (lo + i), by rw [rngD_get, if_pos hi], fun _ _ => by rw [e]; exact .int _⟩
theorem it_rng1 {m : Int} {n : Nat} (h : DA K δ ta [.int m]) (e : m.toNat = n) (hm : m ≤ 1000000000 ∧ -1000000000 ≤ m) : DI K δ (iRng1 ta) (rngD 0 n) := fun H R σ Rk s ev q =>
  h H R σ _ s ev fun vs H1 R1 g r => by
    obtain ⟨v, rfl, r1⟩ := rep1 r
    cases r1
    subst e
    exact ⟨m, rfl, by omega, by omega, q _ H1 R1 g wk_rng⟩
theorem it_rng2 {a b : Int} {n : Nat} (h : DA K δ ta [.int a, .int b]) (e : (b - a).toNat = n) (hm : (a ≤ 1000000000 ∧ -1000000000 ≤ a) ∧ b ≤ 1000000000 ∧ -1000000000 ≤ b) : DI K δ (iRng2 ta) (rngD a n) := fun H R σ Rk s ev q =>
  h H R σ _ s ev fun vs H1 R1 g r => by
    obtain ⟨v, u, rfl, r1, r2⟩ := rep2 r
    cases r1; cases r2
    subst e
    exact ⟨a, b, rfl, by omega, q _ H1 R1 g wk_rng⟩
/-- a list, a tuple, a text -/
theorem it_lst (h : DE K δ te (.lst ds)) : DI K δ (iAny K te) ds := fun H R σ Rk s ev q =>
  h H R σ _ s ev fun v H1 R1 g r => by
    cases r with
    | @lst a vs _ h1 h2 =>
      refine .inl ⟨a, rfl, ⟨vs, rdS g.i h1⟩, q _ H1 R1 g ?_⟩
      refine DWk.plain (f := fun i x => vs[i]? = some x) (n := vs.length) (walk_list.mono (fun H s => rdS s h1) fun i H x H' _ _ y => y) h2.len.symm fun i x _ e => ?_
      obtain ⟨d, h3, h4⟩ := h2.getV e
      exact ⟨d, h3, fun _ s => h4.mono s⟩
theorem it_kl (h : DE K δ te (.kl ds)) : DI K δ (iAny K te) ds := fun H R σ Rk s ev q =>
  h H R σ _ s ev fun v H1 R1 g r => by
    cases r with
    | @kl a vs _ h1 h2 =>
      refine .inl ⟨a, rfl, ⟨vs, g.i.seq h1⟩, q _ H1 R1 g ?_⟩
      refine DWk.plain (f := fun i x => vs[i]? = some x) (n := vs.length) (walk_list.mono (fun H s => s.seq h1) fun i H x H' _ _ y => y) h2.len.symm fun i x _ e => ?_
      obtain ⟨d, h3, h4⟩ := h2.getV e
      exact ⟨d, h3, fun _ s => h4.mono s⟩
theorem it_tup (h : DE K δ te (.tup ds)) : DI K δ (iAny K te) ds := fun H R σ Rk s ev q =>
  h H R σ _ s ev fun v H1 R1 g r => by
    cases r with
    | @tup a vs _ h1 h2 =>
      refine .inr (.inl ⟨a, rfl, ⟨vs, sqT_same g.i h1⟩, q _ H1 R1 g ?_⟩)
      refine DWk.plain (f := fun i x => vs[i]? = some x) (n := vs.length) (walk_tup.mono (fun H s => sqT_same s h1) fun i H x H' _ _ y => y) h2.len.symm fun i x _ e => ?_
      obtain ⟨d, h3, h4⟩ := h2.getV e
      exact ⟨d, h3, fun _ s => h4.mono s⟩
def signs (z : Str) : List D := z.cps.toList.map fun c => .str ⟨#[c]⟩
theorem it_str {z : Str} (h : DE K δ te (.str z)) : DI K δ (iAny K te) (signs z) := fun H R σ Rk s ev q =>
  h H R σ _ s ev fun v H1 R1 g r => by
    cases r
    refine .inr (.inr ⟨z, rfl, q _ H1 R1 g ?_⟩)
    refine DWk.plain (f := fun i x => ∃ c, z.cps[i]? = some c ∧ x = .str ⟨#[c]⟩) (n := z.cps.size) (walk_str.mono (fun _ _ => trivial) fun i H x H' _ _ y => y) (by simp [signs]) fun i x _ ⟨c, e, hx⟩ => ?_
    refine ⟨.str ⟨#[c]⟩, ?_, fun _ _ => by rw [hx]; exact .str _⟩
    unfold signs
    rw [List.getElem?_map, Array.getElem?_toList, e]
    rfl
end

/-! ### comprehensions -/
theorem wipe_get : ∀ (vs : List Nat) (σ : L2.St) (j : Nat), (wipe σ vs)[j]? = if j ∈ vs ∧ j < σ.length then some none else σ[j]?
  | [], σ, j => by simp [wipe]
  | i :: vs, σ, j => by
    show ((wipe σ vs).set i none)[j]? = _
    by_cases h2 : i = j
    · subst h2
      by_cases h3 : i < σ.length
      · rw [List.getElem?_set_self (by rw [wipe_length]; exact h3), if_pos ⟨List.mem_cons_self, h3⟩]
      · rw [List.getElem?_eq_none (by rw [List.length_set, wipe_length]; omega), if_neg (fun z => h3 z.2), List.getElem?_eq_none (by omega)]
    · rw [List.getElem?_set_ne h2, wipe_get vs]
      by_cases h1 : j ∈ vs ∧ j < σ.length
      · rw [if_pos h1, if_pos ⟨List.mem_cons_of_mem _ h1.1, h1.2⟩]
      · rw [if_neg h1, if_neg]
        rintro ⟨z1, z2⟩
        rcases List.mem_cons.mp z1 with z | z
        · exact h2 z.symm
        · exact h1 ⟨z, z2⟩
theorem sets_get : ∀ (is : List Nat) (us : List V) (σ : L2.St) (j : Nat), j ∉ is → (sets σ is us)[j]? = σ[j]?
  | [], _, _, _, _ => by simp [sets]
  | _ :: _, [], _, _, _ => by simp [sets]
  | i :: is, u :: us, σ, j, h => by
    show (sets (σ.set i (some u)) is us)[j]? = _
    rw [sets_get is us _ j (fun z => h (List.mem_cons_of_mem _ z)), List.getElem?_set_ne (fun z => h (by rw [z]; exact List.mem_cons_self))]
theorem sets_len : ∀ (is : List Nat) (us : List V) (σ : L2.St), (sets σ is us).length = σ.length
  | [], _, _ => by simp [sets]
  | _ :: _, [], _ => by simp [sets]
  | i :: is, u :: us, σ => by
    show (sets (σ.set i (some u)) is us).length = _
    rw [sets_len is us, List.length_set]
theorem wipe_sets {is vs : List Nat} {us : List V} {σ : L2.St} (h : ∀ i ∈ is, i ∈ vs) : wipe (sets (wipe σ vs) is us) vs = wipe σ vs := by
  refine List.ext_getElem? fun j => ?_
  rw [wipe_get, wipe_get, sets_len, wipe_length]
  by_cases hj : j ∈ vs ∧ j < σ.length
  · rw [if_pos hj, if_pos hj]
  · rw [if_neg hj, if_neg hj]
    by_cases h1 : j ∈ vs
    · have h2 : ¬ j < σ.length := fun z => hj ⟨h1, z⟩
      rw [List.getElem?_eq_none (by rw [sets_len, wipe_length]; omega), List.getElem?_eq_none (by omega)]
    · rw [sets_get _ _ _ _ (fun z => h1 (h j z)), wipe_get, if_neg hj]
def wipeD : DEnv → List Nat → DEnv
  | δ, [] => δ
  | δ, i :: is => wipeD (δ.set i none) is
section
variable {K : PySem.W.Frag} {δ : DEnv} {wi : TI} {g : TG} {tt : TT} {te : TE} {vs : List Nat} {xs : List D} {R : Hp} {σ : L2.St}
theorem wipeD_get : ∀ (vs : List Nat) (δ : DEnv) (j : Nat) (d : D), (wipeD δ vs)[j]? = some (some d) → j ∉ vs ∧ δ[j]? = some (some d)
  | [], _, _, _, h => ⟨by simp, h⟩
  | i :: vs, δ, j, d, h => by
    obtain ⟨h1, h2⟩ := wipeD_get vs (δ.set i none) j d h
    by_cases hj : i = j
    · subst hj
      have := (set_self_some h2).1; cases this
    · rw [List.getElem?_set_ne hj] at h2
      refine ⟨fun z => ?_, h2⟩
      rcases List.mem_cons.mp z with z | z
      · exact hj z.symm
      · exact h1 z
theorem wipeD_len : ∀ (vs : List Nat) (δ : DEnv), (wipeD δ vs).length = δ.length
  | [], _ => rfl
  | i :: vs, δ => by
    show (wipeD (δ.set i none) vs).length = _
    rw [wipeD_len vs, List.length_set]
theorem EnvR.wipe (e : EnvR K R σ δ) : EnvR K R (L2.wipe σ vs) (wipeD δ vs) := ⟨by rw [wipeD_len, wipe_length]; exact e.1, fun j d h => by
  obtain ⟨h1, h2⟩ := wipeD_get vs δ j d h
  obtain ⟨v, h3, h4⟩ := e.2 j d h2
  exact ⟨v, by rw [wipe_get, if_neg (fun z => h1 z.1)]; exact h3, h4⟩⟩
theorem setsD_len : ∀ (ps : List (Nat × D)) (δ : DEnv), (setsD δ ps).length = δ.length
  | [], _ => rfl
  | (i, x) :: ps, δ => by
    show (setsD (δ.set i (some x)) ps).length = _
    rw [setsD_len ps, List.length_set]
theorem EnvR.set {i : Nat} {v : V} {d : D} (e : EnvR K R σ δ) (r : Rep K R v d) : EnvR K R (σ.set i (some v)) (δ.set i (some d)) := ⟨by rw [List.length_set, List.length_set]; exact e.1, fun j d' h => by
  by_cases hj : i = j
  · subst hj
    obtain ⟨h1, h2⟩ := set_self_some h
    cases h1
    exact ⟨v, by rw [List.getElem?_set_self (Nat.lt_of_lt_of_le h2 e.1)], r⟩
  · rw [List.getElem?_set_ne hj] at h ⊢
    exact e.2 j d' h⟩
theorem EnvR.sets : ∀ {ps : List (Nat × D)} {us : List V} {σ : L2.St} {δ : DEnv}, EnvR K R σ δ → RepL K R us (ps.map Prod.snd) → EnvR K R (G.sets σ (ps.map Prod.fst) us) (setsD δ ps)
  | [], _, _, _, e, .nil => e
  | (i, d) :: ps, _, σ, δ, e, .cons (v := v) r rr => EnvR.sets (σ := σ.set i (some v)) (δ := δ.set i (some d)) (e.set r) rr
theorem Gr.put {H R H' R' : Hp} (g : Gr H R H' R') {p : Addr} {y : HO} (h : H p = none) (hr : R' p = none) : Gr H R (upd H' p y) R' :=
  ⟨fun b o e => by rw [upd_ne (ne_of_none e h)]; exact g.h b o e, g.r, fun b o e => by rw [upd_ne (ne_of_none e hr)]; exact g.i b o e, g.o⟩
/-- [te for g in wi if tt]: f tells what each turn adds -/
theorem dl_lc (hi : DI K δ wi xs) (f : Nat → Option D) (ps : Nat → List (Nat × D)) (hg : ∀ i d, xs[i]? = some d → DG K g d (ps i) ∧ ∀ p ∈ ps i, p.1 ∈ vs)
    (hs : ∀ i d, xs[i]? = some d → DT K (setsD (wipeD δ vs) (ps i)) tt (f i).isSome ∧ ∀ y, f i = some y → DE K (setsD (wipeD δ vs) (ps i)) te y) (hn : xs.length ≤ 10000000) {ys : List D} (hy : ys = (List.range xs.length).filterMap f) :
    DL K δ (tLc wi g tt te vs) ys := fun H R σ Q s ev q => by
  refine hi H R σ _ s ev fun J H1 R1 g1 ⟨Y, hw, hyl⟩ L hL => ?_
  have rL : R1 L = none := g1.i.free hL
  have HL : H L = none := g1.h.free hL
  have fl : ∀ i, ((List.range i).filterMap f).length ≤ i := fun i => by
    have := List.length_filterMap_le f (List.range i)
    simpa using this
  have fs : ∀ i, (List.range (i + 1)).filterMap f = (List.range i).filterMap f ++ (f i).toList := fun i => by
    rw [List.range_succ, List.filterMap_append]
    cases h : f i <;> simp [h]
  refine lc_it hw (fun i H2 => ∃ R2 acc, Gr H1 R1 H2 R2 ∧ R2 L = none ∧ H2 L = some (.lst acc) ∧ RepL K R2 acc ((List.range i).filterMap f)) ⟨R1, [], ⟨fun b o e => by rw [upd_ne (ne_of_none e hL)]; exact e, Same.refl _, fun b o e => by rw [upd_ne (ne_of_none e rL)]; exact g1.i b o e, fun _ _ _ n => n⟩, rL, upd_same, .nil⟩ ?_ ?_ ?_
  · rintro i H2 _ ⟨R2, acc, g2, _⟩
    exact g2.r.trans g2.i
  · rintro i x H2 H3 hi' ⟨R2, acc, g2, n2, a2, r2⟩ y
    obtain ⟨d, R3, hd, g3, r3⟩ := hyl i H2 R2 x H3 hi' g2.r g2.i y
    obtain ⟨hg1, hg2⟩ := hg i d hd
    have e3 : EnvR K R3 (L2.wipe σ vs) (wipeD δ vs) := (ev.mono ((g1.r.trans g2.r).trans g3.r)).wipe
    have k2 : Gr H2 R2 H3 R3 := g3
    have n3 : R3 L = none := g3.o L _ a2 n2
    have a3 : H3 L = some (.lst acc) := g3.h _ _ a2
    refine hg1 H3 R3 _ x _ g3.i r3 fun us ru => ?_
    refine ⟨wipe_sets fun i' hi2 => ?_, ?_⟩
    · obtain ⟨p, hp, rfl⟩ := List.mem_map.mp hi2
      exact hg2 p hp
    obtain ⟨ht, he⟩ := hs i d hd
    refine ht H3 R3 _ _ g3.i (e3.sets ru) fun H4 R4 g4 => ?_
    have n4 : R4 L = none := g4.o L _ a3 n3
    have a4 : H4 L = some (.lst acc) := g4.h _ _ a3
    have r4 : RepL K R4 acc ((List.range i).filterMap f) := (r2.mono g3.r).mono g4.r
    have g14 : Gr H1 R1 H4 R4 := (g2.trans g3).trans g4
    cases hf : f i with
    | none =>
      refine if_ff ⟨R4, acc, g14, n4, a4, ?_⟩
      rw [fs, hf]
      simpa using r4
    | some z =>
      refine if_tt (he z hf H4 R4 _ _ g4.i ((e3.sets ru).mono g4.r) fun w H5 R5 g5 r5 => ?_)
      have n5 : R5 L = none := g5.o L _ a4 n4
      have a5 : H5 L = some (.lst acc) := g5.h _ _ a4
      refine ⟨acc, a5, smallL (by rw [r4.len]; exact Nat.lt_of_le_of_lt (fl i) (by omega)), R5, acc ++ [w], (g14.trans g5).put hL n5, n5, upd_same, ?_⟩
      rw [fs, hf]
      exact (r4.mono g5.r).app (.cons r5 .nil)
  · rintro H2 ⟨R2, acc, g2, n2, a2, r2⟩
    subst hy
    exact q L acc H2 R2 (g1.trans g2) HL a2 n2 (small (by rw [r2.len]; exact Nat.le_trans (fl _) hn)) r2
end
end G

set_option Elab.async false
set_option linter.all false
set_option maxRecDepth 10000000
set_option maxHeartbeats 4000000
/-! Dop: more words on data; the tactics. -/
namespace G
open PySem PySem.Spec PyProof.Rows L2
section
variable {K : PySem.W.Frag} {W : WX} {δ : DEnv} {ρ ρ' : SEnv} {l : Bool} {ta tb te : TE} {tt : TT} {t u : TS} {a : TA} {d x y z : D} {ds es : List D} {i : Nat} {o o' : Out} {b : Bool} {g : TG} {ps : List (Nat × D)}
/-- a + b of two new lists -/
theorem dl_cat (h1 : DL K δ ta ds) (h2 : DL K δ tb es) (hn : ds.length + es.length ≤ 10000000) : DL K δ (tOp (rAdd' K) ta tb) (ds ++ es) := fun H R σ Q s e q =>
  h1 H R σ _ s e fun p xs H1 R1 g1 p0 p1 p2 _ r1 => h2 H1 R1 σ _ g1.i (e.mono g1.r) fun p' ys H2 R2 g2 q0 q1 q2 _ r2 => by
    have e1 := g2.h _ _ p1
    have l1 := r1.len
    have l2 := r2.len
    have hz : xs.length + ys.length ≤ sizeLine := small (by omega)
    refine .inl ⟨xs, ys, .inl e1, .inl q1, hz, fun p'' hp => ?_⟩
    have gg : Gr H R H2 R2 := g1.trans g2
    refine q p'' (xs ++ ys) _ R2 (gg.trans (Gr.apart gg.i hp)) (gg.h.free hp) upd_same (gg.i.free hp) (by rw [List.length_append]; exact hz) ((r1.mono g2.r).app r2)
theorem dl_is (h : DL K δ te ds) (e : ds = es) : DL K δ te es := e ▸ h
/-- parts of a slice -/
def DP (K : PySem.W.Frag) (δ : DEnv) (to : TO) (o : Option Int) : Prop := ∀ (H R : Hp) (σ : L2.St) (Q : Option Int → Hp → Prop), Same R H → EnvR K R σ δ → (∀ H' R', Gr H R H' R' → Q o H') → to σ H Q
theorem d_part {n : Int} (h : DE K δ te (.int n)) : DP K δ (tPart te) (some n) := fun H R σ Q s e q => h H R σ _ s e fun v H' R' g r => by cases r; exact ⟨n, rfl, q H' R' g⟩
theorem d_noPart : DP K δ tNoPart none := fun H R σ Q s e q => q H R (Gr.refl s)
def cutD {α : Type} (xs : List α) (lo hi : Option Int) : List α := (xs.drop (HT.sIx xs.length 0 lo)).take (HT.sIx xs.length xs.length hi - HT.sIx xs.length 0 lo)
theorem cutD_rep {R : Hp} {vs : List V} {lo hi : Option Int} (r : RepL K R vs ds) : RepL K R (cutV vs lo hi) (cutD ds lo hi) := by
  unfold cutV cutD
  rw [r.len]
  exact (r.drop _).take _
theorem cutD_len {α : Type} (xs : List α) (lo hi : Option Int) : (cutD xs lo hi).length ≤ xs.length := by
  unfold cutD
  rw [List.length_take, List.length_drop]; omega
variable {to tu : TO} {lo hi : Option Int}
theorem dl_cutL (h1 : DE K δ te (.lst ds)) (h2 : DP K δ to lo) (h3 : DP K δ tu hi) (hn : ds.length ≤ 10000000) : DL K δ (tSl (rSl' K) te to tu) (cutD ds lo hi) := fun H R σ Q s e q =>
  h1 H R σ _ s e fun v H1 R1 g1 r1 => h2 H1 R1 σ _ g1.i (e.mono g1.r) fun H2 R2 g2 => h3 H2 R2 σ _ g2.i ((e.mono g1.r).mono g2.r) fun H3 R3 g3 => by
    cases r1 with
    | @lst a xs _ k1 k2 =>
      have gg := (g1.trans g2).trans g3
      have k3 : RepL K R3 xs ds := (k2.mono g2.r).mono g3.r
      refine .inr (.inl ⟨a, xs, rfl, rdS gg.i (rdSame g3.r (rdSame g2.r k1)), fun p hp => ?_⟩)
      refine q p _ _ R3 (gg.trans (Gr.apart gg.i hp)) (gg.h.free hp) upd_same (gg.i.free hp) (small ?_) (cutD_rep k3)
      rw [(cutD_rep (lo := lo) (hi := hi) k3).len]
      exact Nat.le_trans (cutD_len _ _ _) hn
theorem d_cutT (h1 : DE K δ te (.tup ds)) (h2 : DP K δ to lo) (h3 : DP K δ tu hi) : DE K δ (tSl (rSl' K) te to tu) (.tup (cutD ds lo hi)) := fun H R σ Q s e q =>
  h1 H R σ _ s e fun v H1 R1 g1 r1 => h2 H1 R1 σ _ g1.i (e.mono g1.r) fun H2 R2 g2 => h3 H2 R2 σ _ g2.i ((e.mono g1.r).mono g2.r) fun H3 R3 g3 => by
    cases r1 with
    | @tup a xs _ k1 k2 =>
      have gg := (g1.trans g2).trans g3
      have k3 : RepL K R3 xs ds := (k2.mono g2.r).mono g3.r
      have k4 : SqT K R3 a xs := sqT_same g3.r (sqT_same g2.r k1)
      refine .inr (.inr ⟨a, xs, rfl, sqT_same gg.i k4, fun hw => ?_, fun _ p hp => ?_⟩)
      · refine q (.ref a) H3 R3 gg (.tup k4 ?_)
        have := cutD_rep (lo := lo) (hi := hi) k3
        unfold cutV at this
        rw [hw.1, hw.2, List.drop_zero, Nat.sub_zero, List.take_length] at this
        exact this
      · exact q (.ref p) _ _ (gg.trans (Gr.new gg.i hp)) (.tup (SqT.of upd_same) ((cutD_rep k3).mono (Gr.new gg.i hp).r))
theorem d_cutS {z : Str} (h1 : DE K δ te (.str z)) (h2 : DP K δ to lo) (h3 : DP K δ tu hi) (hn : z.length ≤ sizeLine) : DE K δ (tSl (rSl' K) te to tu) (.str (cutS z lo hi)) := fun H R σ Q s e q =>
  h1 H R σ _ s e fun v H1 R1 g1 r1 => h2 H1 R1 σ _ g1.i (e.mono g1.r) fun H2 R2 g2 => h3 H2 R2 σ _ g2.i ((e.mono g1.r).mono g2.r) fun H3 R3 g3 => by
    cases r1
    exact .inl ⟨z, rfl, hn, q _ H3 R3 ((g1.trans g2).trans g3) (.str _)⟩
/-! built-ins -/
theorem c_min2 {n m : Int} : DC K (rMin' K) [.int n, .int m] (.int (if m < n then m else n)) := dc_of fun H R vs Q s rv q => by
  obtain ⟨v, u, rfl, r1, r2⟩ := rep2 rv
  cases r1; cases r2
  exact .inl ⟨n, m, rfl, q _ fun _ => .int _⟩
theorem c_max2 {n m : Int} : DC K (rMax' K) [.int n, .int m] (.int (if m > n then m else n)) := dc_of fun H R vs Q s rv q => by
  obtain ⟨v, u, rfl, r1, r2⟩ := rep2 rv
  cases r1; cases r2
  exact .inl ⟨n, m, rfl, q _ fun _ => .int _⟩
theorem rep_ints {R : Hp} : ∀ {ns : List Int} {vs : List V}, RepL K R vs (ns.map D.int) → vs = ns.map V.int
  | [], _, r => by cases r; rfl
  | n :: ns, _, r => by
    cases r with
    | cons a b =>
      cases a
      rw [rep_ints b]; rfl
theorem c_maxL {ns : List Int} {m : Int} (h1 : m ∈ ns) (h2 : ∀ y ∈ ns, y ≤ m) : DC K (rMax' K) [.lst (ns.map D.int)] (.int m) := dc_of fun H R vs Q s rv q => by
  obtain ⟨v, rfl, r⟩ := rep1 rv
  cases r with
  | @lst a xs _ k1 k2 =>
    have e := rep_ints k2
    subst e
    refine .inr ⟨a, ns, rfl, rdS s k1, List.length_pos_of_mem h1, fun m' m1 m2 => ?_⟩
    have : m' = m := Int.le_antisymm (h2 _ m1) (m2 _ h1)
    rw [this]
    exact q _ fun _ => .int _
theorem c_tupL : DC K (rTuple' K) [.lst ds] (.tup ds) := fun H R vs Q s rv q => by
  obtain ⟨v, rfl, r⟩ := rep1 rv
  cases r with
  | @lst a xs _ k1 k2 => exact ⟨a, xs, rfl, .inl ⟨rdS s k1, fun p hp => q (.ref p) _ _ (Gr.new s hp) (.tup (SqT.of upd_same) (k2.mono (Gr.new s hp).r))⟩⟩
theorem c_tupT : DC K (rTuple' K) [.tup ds] (.tup ds) := fun H R vs Q s rv q => by
  obtain ⟨v, rfl, r⟩ := rep1 rv
  cases r with
  | @tup a xs _ k1 k2 => exact ⟨a, xs, rfl, .inr ⟨sqT_same s k1, q (.ref a) H R (Gr.refl s) (.tup k1 k2)⟩⟩
theorem dl_list (h : DA K δ a [x]) (hx : x = .lst ds ∨ x = .tup ds) (hn : ds.length ≤ 10000000) : DL K δ (tCB (rList' K) a) ds := fun H R σ Q s e q =>
  h H R σ _ s e fun vs H1 R1 g1 r1 => by
    obtain ⟨v, rfl, r⟩ := rep1 r1
    have fin : ∀ xs : List V, RepL K R1 xs ds → ∀ l, H1 l = none → Q (.ref l) (upd H1 l (.lst xs)) := fun xs k2 p hp =>
      q p xs _ R1 (g1.trans (Gr.apart g1.i hp)) (g1.h.free hp) upd_same (g1.i.free hp) (small (by rw [k2.len]; exact hn)) k2
    rcases hx with rfl | rfl
    · cases r with
      | @lst a xs _ k1 k2 => exact ⟨a, xs, rfl, .inl (rdS g1.i k1), fin xs k2⟩
    · cases r with
      | @tup a xs _ k1 k2 => exact ⟨a, xs, rfl, .inr (sqT_same g1.i k1), fin xs k2⟩
def D.isNon : D → Bool
  | .non => true
  | _ => false
def D.isVal : D → Bool
  | .val _ => true
  | _ => false
theorem Rep.non_iff {R : Hp} {v : V} (h : x.isVal = false) (r : Rep K R v x) : decide (v = .non) = x.isNon := by
  cases r <;> first
    | rfl
    | (cases h; done)
    | (exact decide_eq_false (fun z => by cases z))
theorem o_isN (h : x.isVal = false) : DO K rIs' x .non (.bl x.isNon) := fun H R v u Q s rv ru q => by
  have e := rv.non_iff h
  cases ru
  exact .inl ⟨rfl, by rw [e]; exact q _ H R (Gr.refl s) (.bl _)⟩
theorem o_isNN (h : x.isVal = false) : DO K rIsNot' x .non (.bl (!x.isNon)) := fun H R v u Q s rv ru q => by
  have e := rv.non_iff h
  cases ru
  exact .inl ⟨rfl, by rw [e]; exact q _ H R (Gr.refl s) (.bl _)⟩
theorem o_isB {b c : Bool} : DO K rIs' (.bl b) (.bl c) (.bl (decide (b = c))) := do_of fun H R v u Q s rv ru q => by cases rv; cases ru; exact .inr ⟨b, c, rfl, rfl, q _ fun _ => .bl _⟩
theorem o_isNB {b c : Bool} : DO K rIsNot' (.bl b) (.bl c) (.bl (!decide (b = c))) := do_of fun H R v u Q s rv ru q => by cases rv; cases ru; exact .inr ⟨b, c, rfl, rfl, q _ fun _ => .bl _⟩
/-- a + b of lists that stand -/
theorem dl_catD (h1 : DE K δ ta (.lst ds)) (h2 : DE K δ tb (.lst es)) (hn : ds.length + es.length ≤ 10000000) : DL K δ (tOp (rAdd' K) ta tb) (ds ++ es) := fun H R σ Q s e q =>
  h1 H R σ _ s e fun v H1 R1 g1 r1 => h2 H1 R1 σ _ g1.i (e.mono g1.r) fun w H2 R2 g2 r2 => by
    cases r1 with
    | @lst a xs _ k1 k2 =>
      cases r2 with
      | @lst b ys _ m1 m2 =>
        have l1 := k2.len
        have l2 := m2.len
        have hz : xs.length + ys.length ≤ sizeLine := small (by omega)
        have gg : Gr H R H2 R2 := g1.trans g2
        refine .inl ⟨xs, ys, rdSame gg.i (rdSame g2.r k1), rdSame g2.i m1, hz, fun p hp => ?_⟩
        exact q p (xs ++ ys) _ R2 (gg.trans (Gr.apart gg.i hp)) (gg.h.free hp) upd_same (gg.i.free hp) (by rw [List.length_append]; exact hz) ((k2.mono g2.r).app m2)
theorem d_neg {n : Int} (h : DE K δ te (.int n)) : DE K δ (tUn rNeg' te) (.int (-n)) := fun H R σ Q s e q => h H R σ _ s e fun v H' R' g r => by cases r; exact q _ H' R' g (.int _)
/-- isinstance(x, (A, B)) of kinds of data -/
theorem d_isi2 {A B1 : String} {b : Bool} (h : DE K δ te d) (n : d.isV = false) (hk : PySem.W.kitAny K (.type d.typ) [.type A, .type B1] = some b) :
    DE K δ (tCB (rIsi' K) (tCons te (tCons (tTup (tCons (tC (.ty A)) (tCons (tC (.ty B1)) tNil))) tNil))) (.bl b) := fun H R σ Q s e q =>
  h H R σ _ s e fun v H1 R1 g r => ⟨small (by show (2 : Nat) ≤ _; omega), fun p hp => by
    have g2 := Gr.new (u := .tup [V.ty A, V.ty B1]) g.i hp
    refine .inr (.inl ⟨v, p, [V.ty A, V.ty B1], .type d.typ, [.type A, .type B1], b, rfl, upd_same, .cons (.ty A) (.cons (.ty B1) .nil), (r.mono g2.r).tyX g2.i n, hk, ?_⟩)
    exact q (.bl b) _ _ (g.trans g2) (.bl b)⟩
theorem rep_bools {R : Hp} : ∀ {bs : List Bool} {vs : List V}, RepL K R vs (bs.map D.bl) → vs = bs.map V.bl
  | [], _, r => by cases r; rfl
  | b :: bs, _, r => by
    cases r with
    | cons a1 a2 =>
      cases a1
      rw [rep_bools a2]; rfl
theorem c_allB {bs : List Bool} : DC K (rAll K) [.lst (bs.map D.bl)] (.bl (bs.all id)) := dc_of fun H R vs Q s rv q => by
  obtain ⟨v, rfl, r⟩ := rep1 rv
  cases r with
  | @lst a xs _ k1 k2 =>
    have e := rep_bools k2
    subst e
    exact ⟨a, bs, rfl, rdS s k1, q _ fun _ => .bl _⟩
/-! ### writes at an owned list -/
/-- x[i] = e -/
theorem x_put (l : Bool) {ti : TE} {n : Int} {j : Nat} (h : ρ[i]? = some (.ow (.lst ds))) (h1 : DE K (fz l ρ) te d) (hs : l = true → d.sol = true) (h2 : DE K (fz l (ρ.set i (.ow (.lst ds)))) ti (.int n)) (hj : n = (j : Int)) (hlt : j < ds.length) :
    DS K W ρ (tAsg te (gSub (tVar i) ti rSet')) (.nx (ρ.set i (.ow (.lst (ds.set j d))))) := fun H0 R0 H σ E e k =>
  x_own h e fun p xs R e g1 g2 r => by
    refine h1 H _ σ _ e.lendI e.env fun v H1 R1 g r1 => ?_
    obtain ⟨e1, up, q, _⟩ := e.run g
    have hρ : ρ.set i (.ow (.lst ds)) = ρ := by
      refine List.ext_getElem? fun m => ?_
      by_cases hm : i = m
      · subst hm
        rw [List.getElem?_set_self (List.getElem?_eq_some_iff.mp h).1, h]
      · rw [List.getElem?_set_ne hm]
    rw [hρ] at h2
    refine ⟨.ref p, g1, h2 H1 _ σ _ e1.lendI e1.env fun w H2 R2 gg r2 => ?_⟩
    cases r2
    obtain ⟨e2, up2, _⟩ := e1.run gg
    have l1 := r.len
    refine .inl ⟨p, xs, n, j, rfl, rfl, gg.h p _ (g.h p _ g2), ixN_of hj (by omega), k _ _ ⟨_, e2.put h g1 (w := .lst (ds.set j d)) (y := .lst (xs.set j v)) ?_⟩⟩
    exact ((r.mono up).mono up2).set j ((q v d hs r1).mono up2)
/-- x.extend(e), e a new list -/
theorem x_ext (l : Bool) (h : ρ[i]? = some (.ow (.lst ds))) (h1 : DL K (fz l ρ) te es) (hs : l = true → D.solL es = true) (hn : ds.length + es.length ≤ 10000000) : DS K W ρ (tDrop (tBM K "list" (rExtend' K) (tVar i) (tCons te tNil))) (.nx (ρ.set i (.ow (.lst (ds ++ es))))) := fun H0 R0 H σ E e k =>
  x_own h e fun p xs R e g1 g2 r => by
    refine ⟨.ref p, g1, .inl ⟨rfl, xs, SqL.of g2⟩, ?_⟩
    refine h1 H _ σ _ e.lendI e.env fun q0 ys H1 R1 g hq0 hq1 hq2 hq3 r1 => ?_
    obtain ⟨e1, up, _, q, _⟩ := e.run g
    have l1 := r.len
    have l2 := r1.len
    exact ⟨p, q0, xs, ys, rfl, rfl, g.h p _ g2, .inl hq1, small (by omega), k _ _ ⟨_, e1.put h g1 (w := .lst (ds ++ es)) (y := .lst (xs ++ ys)) ((r.mono up).app (q ys es hs r1))⟩⟩
/-- x.extend(e), e a list that stands -/
theorem x_extD (l : Bool) (h : ρ[i]? = some (.ow (.lst ds))) (h1 : DE K (fz l ρ) te (.lst es)) (hs : l = true → D.solL es = true) (hn : ds.length + es.length ≤ 10000000) : DS K W ρ (tDrop (tBM K "list" (rExtend' K) (tVar i) (tCons te tNil))) (.nx (ρ.set i (.ow (.lst (ds ++ es))))) := fun H0 R0 H σ E e k =>
  x_own h e fun p xs R e g1 g2 r => by
    refine ⟨.ref p, g1, .inl ⟨rfl, xs, SqL.of g2⟩, ?_⟩
    refine h1 H _ σ _ e.lendI e.env fun v H1 R1 g r1 => ?_
    obtain ⟨e1, up, _, q, _⟩ := e.run g
    cases r1 with
    | @lst b ys _ m1 m2 =>
      have l1 := r.len
      have l2 := m2.len
      exact ⟨p, b, xs, ys, rfl, rfl, g.h p _ g2, rdSame g.i m1, small (by omega), k _ _ ⟨_, e1.put h g1 (w := .lst (ds ++ es)) (y := .lst (xs ++ ys)) ((r.mono up).app (q ys es hs m2))⟩⟩
/-- y = x.pop() -/
theorem x_pop0 (h : ρ[i]? = some (.ow (.lst (ds ++ [d])))) (hg : DG K g d ps) : DS K W ρ (tAsg (tBM0 K "list" rPop (tVar i)) g) (.nx (setsS (ρ.set i (.ow (.lst ds))) ps)) := x_pop h hg
theorem x_popD0 (h : ρ[i]? = some (.ow (.lst (ds ++ [d])))) : DS K W ρ (tDrop (tBM0 K "list" rPop (tVar i))) (.nx (ρ.set i (.ow (.lst ds)))) := x_popD h
/-! ### range downwards -/
def rngDn (hi : Int) (n : Nat) : List D := (List.range n).map fun (i : Nat) => D.int (hi + (i : Nat) * (-1))
theorem it_rngDn {a1 b1 : Int} {n : Nat} (h : DA K δ a [.int a1, .int b1, .int (-1)]) (e : (a1 - b1).toNat = n) (hm : (a1 ≤ 1000000000 ∧ -1000000000 ≤ a1) ∧ b1 ≤ 1000000000 ∧ -1000000000 ≤ b1) : DI K δ (iRng3 a) (rngDn a1 n) := fun H R σ Rk s ev q =>
  h H R σ _ s ev fun vs H1 R1 g r => by
    cases r with
    | cons r1 rr =>
      obtain ⟨v, u, rfl, r2, r3⟩ := rep2 rr
      cases r1; cases r2; cases r3
      subst e
      refine ⟨a1, b1, -1, _, rfl, RgC.neg (by omega) (by omega) (by omega) (by omega), q _ H1 R1 g ?_⟩
      refine DWk.plain (f := fun i x => x = .int (a1 + (i : Nat) * (-1))) (n := (a1 - b1).toNat) (walk_rangeC.mono (fun _ _ => trivial) fun i H x H' _ _ y => y) (by simp [rngDn]) fun i x hi e => ?_
      exact ⟨.int (a1 + (i : Nat) * (-1)), by unfold rngDn; rw [List.getElem?_map, List.getElem?_range hi]; rfl, fun _ _ => by rw [e]; exact .int _⟩
theorem rngD_val {n i : Nat} {d : D} (h : (rngD 0 n)[i]? = some d) : i < n ∧ d = .int (i : Int) := by
  rw [rngD_get] at h
  by_cases hi : i < n
  · rw [if_pos hi] at h
    exact ⟨hi, by rw [← Option.some.inj h, Int.zero_add]⟩
  · rw [if_neg hi] at h; cases h
theorem rngD_valA {a1 : Int} {n i : Nat} {d : D} (h : (rngD a1 n)[i]? = some d) : i < n ∧ d = .int (a1 + (i : Int)) := by
  rw [rngD_get] at h
  by_cases hi : i < n
  · rw [if_pos hi] at h
    exact ⟨hi, (Option.some.inj h).symm⟩
  · rw [if_neg hi] at h; cases h
theorem rngDn_val {a1 : Int} {n i : Nat} {d : D} (h : (rngDn a1 n)[i]? = some d) : i < n ∧ d = .int (a1 - (i : Int)) := by
  unfold rngDn at h
  rw [List.getElem?_map] at h
  by_cases hi : i < n
  · rw [List.getElem?_range hi] at h
    refine ⟨hi, ?_⟩
    have e : D.int (a1 + (i : Nat) * (-1)) = d := Option.some.inj h
    rw [← e, show a1 + ((i : Nat) : Int) * (-1) = a1 - (i : Int) by omega]
  · rw [List.getElem?_eq_none (by simpa using hi)] at h; cases h
theorem rngDn_len {a1 : Int} {n : Nat} : (rngDn a1 n).length = n := by simp [rngDn]
/-! ### a def's promise by its body -/
/-- how the body ends, and what the def gives -/
def Fits : Out → Res → Prop
  | .rt d, .rt d' => d = d'
  | .nx _, .rt d' => d' = .non
  | .rl ds, .rl es => ds = es
  | .rl ds, .rt d' => d' = .lst ds
  | .ex _ c fs, .ex c' fs' => c = c' ∧ fs = fs'
  | _, _ => False
theorem spD_of {rel : List D → Res → Prop} {n : Nat} {E : XK} (h : ∀ ds r, rel ds r → ∃ o, Fits o r ∧ DS K (WF E) (ds.map Sl.va ++ List.replicate (n - ds.length) Sl.no) t o) {N : List Str} (hN : N.length = n) (vs : List V) (H : Hp) (Q : VK)
    (q : spD K rel vs H Q E) : t { nx := fun _ H' => Q .non H', rt := Q } (L2.start N vs) H := by
  obtain ⟨R, ds, r, s, rr, hr, q⟩ := q
  have e := EvR.enter (n := n - ds.length) s rr
  obtain ⟨o, hf, hd⟩ := h ds r hr
  have hst : L2.start N vs = vs.map some ++ List.replicate (n - ds.length) none := by
    unfold L2.start
    rw [hN, rr.len]
  rw [hst]
  refine hd H R H _ _ ⟨R, e⟩ ?_
  cases o with
  | nx ρ =>
    cases r with
    | rt d => cases hf; exact fun σ' H' ⟨R', e'⟩ => q .non H' R' e'.gr .non
    | rl es => exact hf.elim
    | ex c fs => exact hf.elim
  | rt d =>
    cases r with
    | rt d' => cases hf; exact q
    | rl es => exact hf.elim
    | ex c fs => exact hf.elim
  | rl ds =>
    cases r with
    | rt d' =>
      cases hf
      intro p xs H' R' g h0 h1 h2 h3 r
      have up : Same R' (upd R' p (.lst xs)) := fun b o e' => by rw [upd_ne (ne_of_none e' h2)]; exact e'
      refine q (.ref p) H' (upd R' p (.lst xs)) ⟨g.h, g.r.trans up, fun b o e' => ?_, fun a o e' n' => ?_⟩ (.lst (.inl upd_same) (r.mono up))
      · by_cases hb : b = p
        · subst hb; rw [upd_same] at e'; rw [h1]; exact e'
        · rw [upd_ne hb] at e'; exact g.i b o e'
      · rw [upd_ne (ne_of_none e' h0)]; exact g.o a o e' n'
    | rl es => cases hf; exact q
    | ex c fs => exact hf.elim
  | bk ρ => cases r <;> exact hf.elim
  | ct ρ => cases r <;> exact hf.elim
  | ex ρ c fs =>
    cases r with
    | rt d => exact hf.elim
    | rl es => exact hf.elim
    | ex c' fs' =>
      obtain ⟨rfl, rfl⟩ := hf
      exact fun σ' H' R' dd e' x => q dd H' R' e'.gr x
/-- a def that lets nothing out -/
theorem spD_of0 {rel : List D → Res → Prop} {n : Nat} (h : ∀ ds r, rel ds r → ∃ o, Fits o r ∧ ∀ W, DS K W (ds.map Sl.va ++ List.replicate (n - ds.length) Sl.no) t o) {N : List Str} (hN : N.length = n) (vs : List V) (H : Hp) (Q : VK) (E : XK)
    (q : spD K rel vs H Q E) : t { nx := fun _ H' => Q .non H', rt := Q } (L2.start N vs) H :=
  spD_of (fun ds r hr => by obtain ⟨o, a, b⟩ := h ds r hr; exact ⟨o, a, b _⟩) hN vs H Q q
theorem spD_len {rel : List D → Res → Prop} {n : Nat} (h : ∀ ds r, rel ds r → ds.length = n) (vs : List V) (H : Hp) (Q : VK) (E : XK) (q : spD K rel vs H Q E) : vs.length = n := by
  obtain ⟨R, ds, r, s, rr, hr, q⟩ := q
  rw [rr.len]; exact h ds r hr
/-! ### raise, try -/
theorem x_raise {c : Addr} : DS K W ρ (tRaise W (tMk0 c)) (.ex ρ (.ref c) []) := x_raise0
theorem x_try0 {tb : WX → TS} {w : Ends → WX} (hb : ∀ W, DS K W ρ (tb W) o) (ho : o.noEx = true) : DS K W ρ (tTry tb w) o := x_tryN hb ho
def Out.gone (i : Nat) : Out → Out
  | .nx ρ => .nx (ρ.set i .no)
  | .bk ρ => .bk (ρ.set i .no)
  | .ct ρ => .ct (ρ.set i .no)
  | o => o
/-- except C as e, an error without fields -/
theorem x_tryE {tb : WX → TS} {c c' : Value} {ts : Addr → Value → Option Addr → TS} (hb : ∀ W, DS K W ρ (tb W) (.ex ρ' c' [])) (hc : PySem.W.exmOne K c' c = some true)
    (hs : ∀ a, DS K W (ρ'.set i (.va (.val (.ref a)))) (ts a c' none) o) : DS K W ρ (tTry tb (wAs K c i ts W)) (o.gone i) := fun H0 R0 H σ E e k =>
  hb _ H0 R0 H σ E e fun σ' H' R' dd e' x => by
    refine ⟨true, hc, fun _ a ha => ?_, fun z => by cases z⟩
    cases dd with
    | some dd => obtain ⟨h, _⟩ := x; exact absurd rfl h
    | none =>
      refine hs a H0 R0 H' _ _ ⟨R', e'.setV (.val _)⟩ ?_
      cases o with
      | nx ρ1 => exact fun σ2 H2 ⟨R2, e2⟩ => k _ H2 ⟨R2, e2.gone⟩
      | bk ρ1 => exact fun σ2 H2 ⟨R2, e2⟩ => k _ H2 ⟨R2, e2.gone⟩
      | ct ρ1 => exact fun σ2 H2 ⟨R2, e2⟩ => k _ H2 ⟨R2, e2.gone⟩
      | rt d => exact k
      | rl d => exact k
      | ex ρ1 c fs => exact k
theorem c_isE {a D0 A : Addr} {b : Bool} (hC : ExcC K D0) (h : PySem.W.kitOne K (.ref D0) (.ref A) = some b) : DC K (rIsEX K a (.ref D0) none) [.val (.ref a), .val (.ref A)] (.bl b) := dc_of fun H R vs Q s rv q => by
  obtain ⟨v, u, rfl, r1, r2⟩ := rep2 rv
  cases r1; cases r2
  exact ⟨rfl, D0, .ref A, .ref A, b, rfl, hC, rfl, fun u hu => hu, h, q _ fun _ => .bl _⟩
end
end G

set_option Elab.async false
set_option linter.all false
set_option maxRecDepth 10000000
set_option maxHeartbeats 4000000
/-! Dtac: makers of instances; the tactics. -/
namespace G
open PySem PySem.Spec PyProof.Rows L2
/-! ### C(..): a def __init__ that stores fields of self -/
inductive IOut where
  | nx (ρ : SEnv) (ns : List Str) (ds : List D) | ex (ρ : SEnv) (c : Value) (fs : List (Str × D))
def IOk (K : PySem.W.Frag) (H0 R0 : Hp) (W : WX) (C x : Addr) (E : Ends) : IOut → Prop
  | .nx ρ ns ds => ∀ σ' H' R' dx vs, EvR K H0 R0 H' R' σ' ρ → H' x = some (.ins C dx (ns.zip vs)) → ns.length = ds.length → RepL K R' vs ds → R' x = none → E.nx σ' H'
  | .ex ρ c fs => ∀ σ' H' R' dd, EvR K H0 R0 H' R' σ' ρ → ExOk K R' dd fs → W c dd σ' H'
/-- self at x, its fields ns by ds -/
def DSI (K : PySem.W.Frag) (W : WX) (C x : Addr) (ρ : SEnv) (ns : List Str) (ds : List D) (t : TS) (o : IOut) : Prop :=
  ∀ (H0 R0 H R : Hp) (σ : L2.St) (E : Ends) (dx : Addr) (vs : List V), EvR K H0 R0 H R σ ρ → H x = some (.ins C dx (ns.zip vs)) → ns.length = ds.length → RepL K R vs ds → R x = none → H0 x = none → IOk K H0 R0 W C x E o → t E σ H
def Res.io (r : Res) (ρ : SEnv) (C : Addr) : IOut → Prop
  | .nx ρ' ns ds => r = .rt (.ins C ns ds)
  | .ex ρ' c fs => r = .ex c fs
/-- the promise of C.__init__ -/
def spI (K : PySem.W.Frag) (C : Addr) (rel : List D → Res → Prop) : Sp := fun vs H Q E => ∃ x dx ws H00 R ds r, vs = .ref x :: ws ∧ H = upd (upd H00 dx (.own x)) x (.ins C dx []) ∧ H00 x = none ∧ H00 dx = none ∧ dx ≠ x ∧ Same R H00 ∧ RepL K R ws ds ∧ rel ds r ∧
  match r with
  | .rt (.ins C' ns es) => C' = C ∧ ∀ H' R' dx' us, Gr H00 R H' R' → H' x = some (.ins C dx' (ns.zip us)) → ns.length = es.length → RepL K R' us es → R' x = none → Q .non H'
  | .ex c fs => ∀ dd H' R', Gr H00 R H' R' → ExOk K R' dd fs → E c dd H'
  | _ => False
section
variable {K : PySem.W.Frag} {W : WX} {δ : DEnv} {ρ ρ' : SEnv} {l : Bool} {te : TE} {t u : TS} {a : TA} {d : D} {ds es : List D} {C x : Addr} {ns ms : List Str} {o : IOut} {f : Str}
def noOw : SEnv → Bool
  | [] => true
  | .ow _ :: _ => false
  | _ :: r => noOw r
theorem noOw_get : ∀ {ρ : SEnv}, noOw ρ = true → ∀ (i : Nat) (u : D), ρ[i]? ≠ some (.ow u)
  | [], _, i, u => by simp
  | .ow _ :: _, h, _, _ => by cases h
  | .no :: r, h, 0, u => by simp
  | .va _ :: r, h, 0, u => by simp
  | .no :: r, h, i + 1, u => by simpa using noOw_get (ρ := r) h i u
  | .va _ :: r, h, i + 1, u => by simpa using noOw_get (ρ := r) h i u
theorem xi_next : DSI K W C x ρ ns ds tNext (.nx ρ ns ds) := fun H0 R0 H R σ E dx vs e hx hl r rx h0 k => k σ H R dx vs e hx hl r rx
theorem xi_seq (h1 : DSI K W C x ρ ns ds t (.nx ρ' ms es)) (h2 : DSI K W C x ρ' ms es u o) : DSI K W C x ρ ns ds (tSeq t u) o := fun H0 R0 H R σ E dx vs e hx hl r rx h0 k =>
  h1 H0 R0 H R σ _ dx vs e hx hl r rx h0 fun σ' H' R' dx' vs' e' hx' hl' r' rx' => h2 H0 R0 H' R' σ' E dx' vs' e' hx' hl' r' rx' h0 k
def putN {α : Type} (f : Str) (v : α) : List Str → List α → List Str × List α
  | n :: ns, d :: ds => if n = f then (n :: ns, v :: ds) else (n :: (putN f v ns ds).1, d :: (putN f v ns ds).2)
  | _, _ => ([f], [v])
theorem putN_spec {f : Str} {d : D} {R : Hp} {v : V} (rv : Rep K R v d) : ∀ {ns : List Str} {vs : List V} {ds : List D}, ns.length = ds.length → RepL K R vs ds →
    (putN f d ns ds).1.length = (putN f d ns ds).2.length ∧ ∃ us, putF f v (ns.zip vs) = (putN f d ns ds).1.zip us ∧ RepL K R us (putN f d ns ds).2
  | [], vs, ds, hl, r => by
    have : ds = [] := by cases ds <;> simp at hl ⊢
    subst this
    exact ⟨rfl, [v], by simp [putF, putN], .cons rv .nil⟩
  | n :: ns, vs, ds, hl, r => by
    cases r with
    | nil => simp at hl
    | @cons w ws d' ds' r0 rr =>
      have hl' : ns.length = ds'.length := by simpa using hl
      obtain ⟨h1, us, h2, h3⟩ := putN_spec (f := f) rv hl' rr
      simp only [List.zip_cons_cons, putF, putN]
      by_cases hn : n = f
      · rw [if_pos hn, if_pos hn]
        exact ⟨by simp [hl'], v :: ws, by simp, .cons rv rr⟩
      · rw [if_neg hn, if_neg hn]
        refine ⟨by simp [h1], w :: us, by simp [h2], .cons r0 h3⟩
/-- self.f = e -/
theorem xi_fld (hc : Cls K C) (hn : NoAttr K C f) (h0 : ρ[0]? = some (.va (.val (.ref x)))) (h1 : DE K (fz false ρ) te d) (hz : ns.length < 900) (hno : noOw ρ = true := by rfl) :
    DSI K W C x ρ ns ds (sFld K (tVar 0) te f) (.nx ρ (putN f d ns ds).1 (putN f d ns ds).2) := fun H0 R0 H R σ E dx vs e hx hl r rx hx0 k => by
  refine h1 H R σ _ e.i (by have := e.env (l := false); rw [lend_f] at this; exact this) fun v H1 R1 g r1 => ?_
  have e1 := e.grow g
  obtain ⟨o', g1, v', rfl, rv⟩ := e1.ok 0 _ h0
  cases rv
  have hx1 : H1 x = some (.ins C dx (ns.zip vs)) := g.h _ _ hx
  have rx1 : R1 x = none := g.o x _ hx rx
  have hlv := r.len
  refine ⟨.ref x, g1, x, C, dx, _, rfl, hx1, hc, hn, by rw [List.length_zip]; omega, ?_⟩
  obtain ⟨k1, us, k2, k3⟩ := putN_spec (f := f) r1 hl (r.mono g.r)
  rw [k2]
  refine k σ _ R1 dx us ?_ upd_same k1 k3 rx1
  -- x stands apart from what the names hold
  refine ⟨e1.r, fun b o hb => ?_, fun b o hb => ?_, e1.o, e1.len, fun i s hs => ?_, e1.ap, e1.fr⟩
  · rw [upd_ne (ne_of_none hb rx1)]; exact e1.i b o hb
  · rw [upd_ne (ne_of_none hb hx0)]; exact e1.h b o hb
  · obtain ⟨o, q1, q2⟩ := e1.ok i s hs
    refine ⟨o, q1, ?_⟩
    cases s with
    | no => trivial
    | va d => exact q2
    | ow w =>
      obtain ⟨p, y, rfl, hp, hr, tp⟩ := q2
      exact absurd hs (noOw_get hno i w)
/-- a statement that does not touch self -/
theorem xi_frame {o : Out} (h : DS K W ρ t o) (hno : noOw ρ = true) : DSI K W C x ρ ns ds t (match o with | .nx ρ' => .nx ρ' ns ds | .ex ρ' c fs => .ex ρ' c fs | _ => .ex [] .none []) ∨ (o.out = true ∧ o.noEx = true) := by
  cases o with
  | nx ρ' =>
    refine .inl fun H0 R0 H R σ E dx vs e hx hl r rx hx0 k => ?_
    have nn := noOw_get hno
    have eb : EvR K H R H R σ ρ := ⟨Same.refl _, e.i, Same.refl _, fun _ _ _ n => n, e.len, e.ok, e.ap, fun i u p h1 => absurd h1 (nn i u)⟩
    refine h H R H σ E ⟨R, eb⟩ fun σ' H' ⟨R', e'⟩ => ?_
    refine k σ' H' R' dx vs ⟨e.r.trans e'.r, e'.i, e.h.trans e'.h, fun a o h1 h2 => e'.o a o (e.h a o h1) (e.o a o h1 h2), e'.len, e'.ok, e'.ap, fun i u p h1 h2 => e.h.free (e'.fr i u p h1 h2)⟩ (e'.h _ _ hx) hl (r.mono e'.r) (e'.o x _ hx rx)
  | ex ρ' c fs =>
    refine .inl fun H0 R0 H R σ E dx vs e hx hl r rx hx0 k => ?_
    have nn := noOw_get hno
    have eb : EvR K H R H R σ ρ := ⟨Same.refl _, e.i, Same.refl _, fun _ _ _ n => n, e.len, e.ok, e.ap, fun i u p h1 => absurd h1 (nn i u)⟩
    refine h H R H σ E ⟨R, eb⟩ fun σ' H' R' dd e' ex => ?_
    exact k σ' H' R' dd ⟨e.r.trans e'.r, e'.i, e.h.trans e'.h, fun a o h1 h2 => e'.o a o (e.h a o h1) (e.o a o h1 h2), e'.len, e'.ok, e'.ap, fun i u p h1 h2 => e.h.free (e'.fr i u p h1 h2)⟩ ex
  | rt d => exact .inr ⟨rfl, rfl⟩
  | rl d => exact .inr ⟨rfl, rfl⟩
  | bk d => exact .inr ⟨rfl, rfl⟩
  | ct d => exact .inr ⟨rfl, rfl⟩
theorem xi_nx (h : DS K W ρ t (.nx ρ')) (hno : noOw ρ = true := by rfl) : DSI K W C x ρ ns ds t (.nx ρ' ns ds) := (xi_frame h hno).elim id fun z => by cases z.1
theorem xi_ex {c : Value} {fs : List (Str × D)} (h : DS K W ρ t (.ex ρ' c fs)) (hno : noOw ρ = true := by rfl) : DSI K W C x ρ ns ds t (.ex ρ' c fs) := (xi_frame h hno).elim id fun z => by cases z.2
theorem xi_stop {c : Value} {fs : List (Str × D)} (h1 : DSI K W C x ρ ns ds t (.ex ρ' c fs)) : DSI K W C x ρ ns ds (tSeq t u) (.ex ρ' c fs) := fun H0 R0 H R σ E dx vs e hx hl r rx h0 k => h1 H0 R0 H R σ _ dx vs e hx hl r rx h0 k
/-- the def __init__ by its body -/
theorem spI_of {rel : List D → Res → Prop} {n : Nat} {E : XK} (h : ∀ ds r, rel ds r → ∀ x, ∃ o, Res.io r [] C o ∧ DSI K (WF E) C x (.va (.val (.ref x)) :: (ds.map Sl.va ++ List.replicate (n - (ds.length + 1)) Sl.no)) [] [] t o) {N : List Str} (hN : N.length = n) (vs : List V) (H : Hp) (Q : VK)
    (q : spI K C rel vs H Q E) : t { nx := fun _ H' => Q .non H', rt := Q } (L2.start N vs) H := by
  obtain ⟨x, dx, ws, H00, R, ds, r, rfl, rfl, hx, hdx, hne, s, rr, hr, q⟩ := q
  obtain ⟨o, ho, hd⟩ := h ds r hr x
  have e0 := EvR.enter (n := n - (ds.length + 1)) (K := K) (vs := .ref x :: ws) (ds := .val (.ref x) :: ds) s (.cons (.val _) rr)
  have hst : L2.start N (.ref x :: ws) = (V.ref x :: ws).map some ++ List.replicate (n - (ds.length + 1)) none := by
    unfold L2.start
    rw [hN, List.length_cons, rr.len]
  rw [hst]
  have up : Same H00 (upd (upd H00 dx (.own x)) x (.ins C dx [])) := fun b o e => by
    rw [upd_ne (ne_of_none e hx), upd_ne (ne_of_none e hdx)]; exact e
  have e1 : EvR K H00 R (upd (upd H00 dx (.own x)) x (.ins C dx [])) R ((V.ref x :: ws).map some ++ List.replicate (n - (ds.length + 1)) none) (.va (.val (.ref x)) :: (ds.map Sl.va ++ List.replicate (n - (ds.length + 1)) Sl.no)) := by
    refine ⟨e0.r, s.trans up, up, e0.o, e0.len, fun i sl hs => ?_, e0.ap, e0.fr⟩
    obtain ⟨o, g1, g2⟩ := e0.ok i sl hs
    refine ⟨o, g1, ?_⟩
    cases sl with
    | no => trivial
    | va d => exact g2
    | ow w =>
      obtain ⟨p, y, rfl, hp, hr, tp⟩ := g2
      exact ⟨p, y, rfl, up _ _ hp, hr, tp⟩
  refine hd H00 R _ R _ _ dx [] e1 upd_same rfl .nil (s.free hx) hx ?_
  cases o with
  | nx ρ' ns es =>
    have ho' : r = .rt (.ins C ns es) := ho
    subst ho'
    obtain ⟨_, q⟩ := q
    exact fun σ' H' R' dx' us e' a b c d => q H' R' dx' us e'.gr a b c d
  | ex ρ' c fs =>
    have ho' : r = .ex c fs := ho
    subst ho'
    exact fun σ' H' R' dd e' xx => q dd H' R' e'.gr xx
theorem spI_len {rel : List D → Res → Prop} {n : Nat} (h : ∀ ds r, rel ds r → ds.length + 1 = n) (vs : List V) (H : Hp) (Q : VK) (E : XK) (q : spI K C rel vs H Q E) : vs.length = n := by
  obtain ⟨x, dx, ws, H00, R, ds, r, rfl, rfl, hx, hdx, hne, s, rr, hr, q⟩ := q
  rw [List.length_cons, rr.len]; exact h ds r hr
/-- the class is called -/
theorem d_make {rel : List D → Res → Prop} {E : L2.St → XK} (h1 : DA K δ a ds) (h2 : rel ds (.rt (.ins C ns es))) : DE K δ (tMakeS C (spI K C rel) E a) (.ins C ns es) := fun H R σ Q s e q =>
  h1 H R σ _ s e fun vs H1 R1 g1 r1 => fun x dx hx hdx hne => by
    refine ⟨x, dx, vs, H1, R1, ds, _, rfl, rfl, hx, hdx, hne, g1.i, r1, h2, rfl, fun H' R' dx' us g h3 hl r2 h4 => ⟨rfl, ?_⟩⟩
    have up : Same R' (upd R' x (.ins C dx' (ns.zip us))) := fun b o e' => by rw [upd_ne (ne_of_none e' h4)]; exact e'
    refine q (.ref x) H' (upd R' x (.ins C dx' (ns.zip us))) ⟨g1.h.trans g.h, (g1.r.trans g.r).trans up, fun b o e' => ?_, fun a o e' n' => ?_⟩ (.ins upd_same hl (r2.mono up))
    · by_cases hb : b = x
      · subst hb; rw [upd_same] at e'; rw [h3]; exact e'
      · rw [upd_ne hb] at e'; exact g.i b o e'
    · rw [upd_ne (ne_of_none (g1.h a o e') hx)]; exact g.o a o (g1.h a o e') (g1.o a o e' n')
theorem dx_make {rel : List D → Res → Prop} {W : WX} {c : Value} {fs : List (Str × D)} (h1 : DA K δ a ds) (h2 : rel ds (.ex c fs)) : DEx K W δ (tMakeS C (spI K C rel) (WE W) a) c fs := fun H R σ Q s e q =>
  h1 H R σ _ s e fun vs H1 R1 g1 r1 => fun x dx hx hdx hne =>
    ⟨x, dx, vs, H1, R1, ds, .ex c fs, rfl, rfl, hx, hdx, hne, g1.i, r1, h2, fun dd H' R' g xx => q dd H' R' (g1.trans g) xx⟩
end
end G

set_option Elab.async false
set_option linter.all false
set_option maxRecDepth 10000000
set_option maxHeartbeats 4000000
/-! Dwp: statements told forwards: what is to hold of the way they end. -/
namespace G
open PySem PySem.Spec PyProof.Rows L2
/-- the statement ends in one way that O holds of -/
def WP (K : PySem.W.Frag) (W : WX) (ρ : SEnv) (t : TS) (O : Out → Prop) : Prop := ∃ o, O o ∧ DS K W ρ t o
/-- what is wanted of a loop's body: N ahead of the next turn, B behind the loop, O elsewhere -/
def Turns (N : SEnv → Prop) (B : SEnv → Prop) (O : Out → Prop) : Out → Prop
  | .nx ρ => N ρ
  | .ct ρ => N ρ
  | .bk ρ => B ρ
  | o => O o
section
variable {K : PySem.W.Frag} {W : WX} {ρ ρ' : SEnv} {te : TE} {tt : TT} {t u v : TS} {a : TA} {d x : D} {ds es xs : List D} {i : Nat} {b : Bool} {g : TG} {ps : List (Nat × D)} {O O' : Out → Prop} {wi : TI} {c : Value} {fs : List (Str × D)}
theorem WP.of {o : Out} (h : DS K W ρ t o) (q : O o) : WP K W ρ t O := ⟨o, q, h⟩
theorem WP.imp (h : WP K W ρ t O) (q : ∀ o, O o → O' o) : WP K W ρ t O' := let ⟨o, a, b⟩ := h; ⟨o, q o a, b⟩
theorem q_weak (w : wk ρ ρ') (h : WP K W ρ' t O) : WP K W ρ t O := let ⟨o, a, b⟩ := h; ⟨o, a, x_weak w b⟩
theorem DS.unit (h : DS K W ρ (tSeq t tNext) o) : DS K W ρ t o := fun H0 R0 H σ E e k => h H0 R0 H σ E e k
theorem q_last (h : WP K W ρ (tSeq t tNext) O) : WP K W ρ t O := let ⟨o, a, b⟩ := h; ⟨o, a, b.unit⟩
theorem q_assoc (h : WP K W ρ (tSeq t (tSeq u v)) O) : WP K W ρ (tSeq (tSeq t u) v) O := let ⟨o, a, b⟩ := h; ⟨o, a, fun H0 R0 H σ E e k => b H0 R0 H σ E e k⟩
theorem q_then (h : DS K W ρ t (.nx ρ')) (q : WP K W ρ' u O) : WP K W ρ (tSeq t u) O := let ⟨o, a, b⟩ := q; ⟨o, a, x_seq h b⟩
theorem q_done {o : Out} (h : DS K W ρ t o) (ho : o.out = true := by rfl) (q : O o) : WP K W ρ (tSeq t u) O := ⟨o, q, x_leave h ho⟩
theorem q_nx (q : O (.nx ρ)) : WP K W ρ tNext O := ⟨_, q, x_next⟩
theorem q_next (q : WP K W ρ u O) : WP K W ρ (tSeq tNext u) O := q_then x_next q
theorem q_brk (q : O (.bk ρ)) : WP K W ρ (tSeq tBreak u) O := q_done x_brk rfl q
theorem q_cont (q : O (.ct ρ)) : WP K W ρ (tSeq tCont u) O := q_done x_cont rfl q
theorem q_set (l : Bool) (h1 : DE K (fz l ρ) te d) (hs : l = true → d.sol = true) (q : WP K W (ρ.set i (.va d)) u O) : WP K W ρ (tSeq (tAsg te (gName i)) u) O := q_then (x_set l h1 hs) q
theorem q_setL (l : Bool) (h1 : DL K (fz l ρ) te ds) (hs : l = true → D.solL ds = true) (q : WP K W (ρ.set i (.ow (.lst ds))) u O) : WP K W ρ (tSeq (tAsg te (gName i)) u) O := q_then (x_setL l h1 hs) q
theorem q_asg (l : Bool) (h1 : DE K (fz l ρ) te d) (hg : DG K g d ps) (hs : l = true → d.sol = true) (q : WP K W (setsS ρ ps) u O) : WP K W ρ (tSeq (tAsg te g) u) O := q_then (x_asg l h1 hg hs) q
theorem q_drop (l : Bool) (h1 : DE K (fz l ρ) te d) (q : WP K W ρ u O) : WP K W ρ (tSeq (tDrop te) u) O := q_then (x_drop l h1) q
theorem q_app (l : Bool) (h : ρ[i]? = some (.ow (.lst ds))) (h1 : DE K (fz l ρ) te d) (hs : l = true → d.sol = true) (hn : ds.length < 10000000) (q : WP K W (ρ.set i (.ow (.lst (ds ++ [d])))) u O) :
    WP K W ρ (tSeq (tDrop (tBM K "list" rAppend (tVar i) (tCons te tNil))) u) O := q_then (x_app l h h1 hs hn) q
theorem q_ext (l : Bool) (h : ρ[i]? = some (.ow (.lst ds))) (h1 : DL K (fz l ρ) te es) (hs : l = true → D.solL es = true) (hn : ds.length + es.length ≤ 10000000) (q : WP K W (ρ.set i (.ow (.lst (ds ++ es)))) u O) :
    WP K W ρ (tSeq (tDrop (tBM K "list" (rExtend' K) (tVar i) (tCons te tNil))) u) O := q_then (x_ext l h h1 hs hn) q
theorem q_put (l : Bool) {ti : TE} {n : Int} {j : Nat} (h : ρ[i]? = some (.ow (.lst ds))) (h1 : DE K (fz l ρ) te d) (hs : l = true → d.sol = true) (h2 : DE K (fz l (ρ.set i (.ow (.lst ds)))) ti (.int n)) (hj : n = (j : Int)) (hlt : j < ds.length)
    (q : WP K W (ρ.set i (.ow (.lst (ds.set j d)))) u O) : WP K W ρ (tSeq (tAsg te (gSub (tVar i) ti rSet')) u) O := q_then (x_put l h h1 hs h2 hj hlt) q
theorem q_pop (h : ρ[i]? = some (.ow (.lst (ds ++ [d])))) (hg : DG K g d ps) (q : WP K W (setsS (ρ.set i (.ow (.lst ds))) ps) u O) : WP K W ρ (tSeq (tAsg (tBM0 K "list" rPop (tVar i)) g) u) O := q_then (x_pop0 h hg) q
theorem q_popD (h : ρ[i]? = some (.ow (.lst (ds ++ [d])))) (q : WP K W (ρ.set i (.ow (.lst ds))) u O) : WP K W ρ (tSeq (tDrop (tBM0 K "list" rPop (tVar i))) u) O := q_then (x_popD0 h) q
theorem q_ret (l : Bool) (h1 : DE K (fz l ρ) te d) (q : O (.rt d)) : WP K W ρ (tSeq (tRet te) u) O := q_done (x_ret l h1) rfl q
theorem q_retL (l : Bool) (h1 : DL K (fz l ρ) te ds) (q : O (.rl ds)) : WP K W ρ (tSeq (tRet te) u) O := q_done (x_retL l h1) rfl q
theorem q_retO (h : ρ[i]? = some (.ow (.lst ds))) (hn : ds.length ≤ 10000000) (q : O (.rl ds)) : WP K W ρ (tSeq (tRet (tVar i)) u) O := q_done (x_retO h hn) rfl q
theorem q_retN (q : O (.rt .non)) : WP K W ρ (tSeq tRetN u) O := q_done x_retN rfl q
theorem q_if (l : Bool) (h1 : DT K (fz l ρ) tt b) (h2 : b = true → WP K W ρ (tSeq t v) O) (h3 : b = false → WP K W ρ (tSeq u v) O) : WP K W ρ (tSeq (tIfS tt t u) v) O := by
  cases b with
  | true =>
    obtain ⟨o, q, h⟩ := h2 rfl
    refine ⟨o, q, fun H0 R0 H σ E ⟨R, e⟩ k => h1 H _ σ _ e.lendI e.env fun H1 R1 g => if_tt (h H0 R0 H1 σ E ⟨_, (e.run g).1⟩ k)⟩
  | false =>
    obtain ⟨o, q, h⟩ := h3 rfl
    refine ⟨o, q, fun H0 R0 H σ E ⟨R, e⟩ k => h1 H _ σ _ e.lendI e.env fun H1 R1 g => if_ff (h H0 R0 H1 σ E ⟨_, (e.run g).1⟩ k)⟩
theorem q_ifT (l : Bool) (h1 : DT K (fz l ρ) tt true) (h2 : WP K W ρ (tSeq t v) O) : WP K W ρ (tSeq (tIfS tt t u) v) O := q_if l h1 (fun _ => h2) fun z => by cases z
theorem q_ifF (l : Bool) (h1 : DT K (fz l ρ) tt false) (h2 : WP K W ρ (tSeq u v) O) : WP K W ρ (tSeq (tIfS tt t u) v) O := q_if l h1 (fun z => by cases z) fun _ => h2
theorem q_frz (i : Nat) (h : ρ[i]? = some (.ow x)) (q : WP K W (ρ.set i (.va x)) t O) : WP K W ρ t O := let ⟨o, a, b⟩ := q; ⟨o, a, x_frz i h b⟩
theorem q_raise {C : Addr} (q : O (.ex ρ (.ref C) [])) : WP K W ρ (tSeq (tRaise W (tMk0 C)) u) O := q_done x_raise rfl q
theorem q_dropX (l : Bool) (h1 : DEx K W (fz l ρ) te c fs) (hs : l = true → D.solL (fs.map Prod.snd) = true) (q : O (.ex ρ c fs)) : WP K W ρ (tSeq (tDrop te) u) O := q_done (x_dropX l h1 hs) rfl q
theorem q_setX (l : Bool) (h1 : DEx K W (fz l ρ) te c fs) (hs : l = true → D.solL (fs.map Prod.snd) = true) (q : O (.ex ρ c fs)) : WP K W ρ (tSeq (tAsg te g) u) O := q_done (x_setX l h1 hs) rfl q
theorem q_retX (l : Bool) (h1 : DEx K W (fz l ρ) te c fs) (hs : l = true → D.solL (fs.map Prod.snd) = true) (q : O (.ex ρ c fs)) : WP K W ρ (tSeq (tRet te) u) O := q_done (x_retX l h1 hs) rfl q
/-! loops -/
/-- the turns of a for, as data: from the i-th on it ends so -/
inductive Run (K : PySem.W.Frag) (W : WX) (xs : List D) (g : TG) (t : TS) : Nat → SEnv → Out → Prop
  | stop {ρ : SEnv} : Run K W xs g t xs.length ρ (.nx ρ)
  | next {i : Nat} {d : D} {ρ ρ' : SEnv} {ps : List (Nat × D)} {o : Out} : xs[i]? = some d → DG K g d ps → DS K W (setsS ρ ps) t (.nx ρ') → Run K W xs g t (i + 1) ρ' o → Run K W xs g t i ρ o
  | cont {i : Nat} {d : D} {ρ ρ' : SEnv} {ps : List (Nat × D)} {o : Out} : xs[i]? = some d → DG K g d ps → DS K W (setsS ρ ps) t (.ct ρ') → Run K W xs g t (i + 1) ρ' o → Run K W xs g t i ρ o
  | brk {i : Nat} {d : D} {ρ ρ' : SEnv} {ps : List (Nat × D)} : xs[i]? = some d → DG K g d ps → DS K W (setsS ρ ps) t (.bk ρ') → Run K W xs g t i ρ (.nx ρ')
  | rt {i : Nat} {d z : D} {ρ : SEnv} {ps : List (Nat × D)} : xs[i]? = some d → DG K g d ps → DS K W (setsS ρ ps) t (.rt z) → Run K W xs g t i ρ (.rt z)
  | rl {i : Nat} {d : D} {zs : List D} {ρ : SEnv} {ps : List (Nat × D)} : xs[i]? = some d → DG K g d ps → DS K W (setsS ρ ps) t (.rl zs) → Run K W xs g t i ρ (.rl zs)
  | ex {i : Nat} {d : D} {ρ ρ' : SEnv} {c : Value} {fs : List (Str × D)} {ps : List (Nat × D)} : xs[i]? = some d → DG K g d ps → DS K W (setsS ρ ps) t (.ex ρ' c fs) → Run K W xs g t i ρ (.ex ρ' c fs)
theorem Run.lt {n : Nat} {o : Out} (h : Run K W xs g t n ρ o) : n ≤ xs.length := by
  cases h with
  | stop => exact Nat.le_refl _
  | next h _ _ _ => exact Nat.le_of_lt (List.getElem?_eq_some_iff.mp h).1
  | cont h _ _ _ => exact Nat.le_of_lt (List.getElem?_eq_some_iff.mp h).1
  | brk h _ _ => exact Nat.le_of_lt (List.getElem?_eq_some_iff.mp h).1
  | rt h _ _ => exact Nat.le_of_lt (List.getElem?_eq_some_iff.mp h).1
  | rl h _ _ => exact Nat.le_of_lt (List.getElem?_eq_some_iff.mp h).1
  | ex h _ _ => exact Nat.le_of_lt (List.getElem?_eq_some_iff.mp h).1
theorem Run.told (hi : DI K (fz false ρ) wi xs) {o : Out} (h : Run K W xs g t 0 ρ o) : DS K W ρ (tFor wi g t) o := by
  refine x_for hi (fun i ρ => Run K W xs g t i ρ o) ⟨ρ, wk.refl _, h⟩ ?_ ?_
  · intro i d ρ hd hr
    cases hr with
    | stop => rw [List.getElem?_eq_none (Nat.le_refl _)] at hd; cases hd
    | next h1 h2 h3 h4 => rw [h1] at hd; cases hd; exact ⟨_, h2, _, h3, _, wk.refl _, h4⟩
    | cont h1 h2 h3 h4 => rw [h1] at hd; cases hd; exact ⟨_, h2, _, h3, _, wk.refl _, h4⟩
    | brk h1 h2 h3 => rw [h1] at hd; cases hd; exact ⟨_, h2, _, h3, _, wk.refl _, rfl⟩
    | rt h1 h2 h3 => rw [h1] at hd; cases hd; exact ⟨_, h2, _, h3, rfl⟩
    | rl h1 h2 h3 => rw [h1] at hd; cases hd; exact ⟨_, h2, _, h3, rfl⟩
    | ex h1 h2 h3 => rw [h1] at hd; cases hd; exact ⟨_, h2, _, h3, _, wk.refl _, rfl⟩
  · intro ρ hr
    have no : ∀ d, xs[xs.length]? ≠ some d := fun d z => by rw [List.getElem?_eq_none (Nat.le_refl _)] at z; cases z
    generalize hn : xs.length = n at hr
    cases hr with
    | stop => exact ⟨_, wk.refl _, rfl⟩
    | next h1 => rw [← hn] at h1; exact absurd h1 (no _)
    | cont h1 => rw [← hn] at h1; exact absurd h1 (no _)
    | brk h1 => rw [← hn] at h1; exact absurd h1 (no _)
    | rt h1 => rw [← hn] at h1; exact absurd h1 (no _)
    | rl h1 => rw [← hn] at h1; exact absurd h1 (no _)
    | ex h1 => rw [← hn] at h1; exact absurd h1 (no _)
/-- the outcome weakened to a state -/
theorem Run.weak {n : Nat} {o : Out} (w : wk ρ ρ') (h : Run K W xs g t n ρ' o) (hn : n < xs.length) : ∃ o', Run K W xs g t n ρ o' ∧ o' = o := by
  have ss : ∀ (ps : List (Nat × D)) (ρ ρ' : SEnv), wk ρ ρ' → wk (setsS ρ ps) (setsS ρ' ps) := by
    intro ps
    induction ps with
    | nil => intro ρ ρ' w; exact w
    | cons p ps ih =>
      intro ρ ρ' w
      refine ih _ _ ?_
      clear ih
      induction ρ generalizing ρ' p with
      | nil => cases ρ' <;> first | exact trivial | exact w.elim
      | cons s r ih2 =>
        cases ρ' with
        | nil => exact w.elim
        | cons s' r' =>
          obtain ⟨j, d⟩ := p
          cases j with
          | zero => exact ⟨.inr rfl, w.2⟩
          | succ j => exact ⟨w.1, ih2 (p := (j, d)) r' w.2⟩
  cases h with
  | stop => exact absurd hn (Nat.lt_irrefl _)
  | next h1 h2 h3 h4 => exact ⟨_, .next h1 h2 (x_weak (ss _ _ _ w) h3) h4, rfl⟩
  | cont h1 h2 h3 h4 => exact ⟨_, .cont h1 h2 (x_weak (ss _ _ _ w) h3) h4, rfl⟩
  | brk h1 h2 h3 => exact ⟨_, .brk h1 h2 (x_weak (ss _ _ _ w) h3), rfl⟩
  | rt h1 h2 h3 => exact ⟨_, .rt h1 h2 (x_weak (ss _ _ _ w) h3), rfl⟩
  | rl h1 h2 h3 => exact ⟨_, .rl h1 h2 (x_weak (ss _ _ _ w) h3), rfl⟩
  | ex h1 h2 h3 => exact ⟨_, .ex h1 h2 (x_weak (ss _ _ _ w) h3), rfl⟩
/-- a for: P by the turn -/
theorem q_for (hi : DI K (fz false ρ) wi xs) (P : Nat → SEnv → Prop) (h0 : P 0 ρ) (hs : ∀ i d ρ, xs[i]? = some d → P i ρ → ∃ ps, DG K g d ps ∧ WP K W (setsS ρ ps) t (Turns (P (i + 1)) (fun ρ => WP K W ρ u O) O))
    (hd : ∀ ρ, P xs.length ρ → WP K W ρ u O) (hO : ∀ o, O o → o.out = true → True := by intro _ _ _; trivial) : WP K W ρ (tSeq (tFor wi g t) u) O := by
  have key : ∀ k i ρ, i + k = xs.length → P i ρ → ∃ o, Run K W xs g t i ρ o ∧ ((∃ ρ', o = .nx ρ' ∧ WP K W ρ' u O) ∨ (o.out = true ∧ O o)) := by
    intro k
    induction k with
    | zero =>
      intro i ρ hk p
      have : i = xs.length := by omega
      subst this
      exact ⟨_, .stop, .inl ⟨ρ, rfl, hd ρ p⟩⟩
    | succ k ih =>
      intro i ρ hk p
      have hlt : i < xs.length := by omega
      obtain ⟨ps, hg, o, hq, hds⟩ := hs i _ ρ (List.getElem?_eq_getElem hlt) p
      have hx := List.getElem?_eq_getElem hlt
      cases o with
      | nx ρ' =>
        obtain ⟨o, r, q⟩ := ih (i + 1) ρ' (by omega) hq
        exact ⟨o, .next hx hg hds r, q⟩
      | ct ρ' =>
        obtain ⟨o, r, q⟩ := ih (i + 1) ρ' (by omega) hq
        exact ⟨o, .cont hx hg hds r, q⟩
      | bk ρ' => exact ⟨_, .brk hx hg hds, .inl ⟨ρ', rfl, hq⟩⟩
      | rt z => exact ⟨_, .rt hx hg hds, .inr ⟨rfl, hq⟩⟩
      | rl z => exact ⟨_, .rl hx hg hds, .inr ⟨rfl, hq⟩⟩
      | ex ρ' c fs => exact ⟨_, .ex hx hg hds, .inr ⟨rfl, hq⟩⟩
  obtain ⟨o, r, q⟩ := key xs.length 0 ρ (by omega) h0
  rcases q with ⟨ρ', rfl, q⟩ | ⟨ho, q⟩
  · exact q_then (r.told hi) q
  · exact q_done (r.told hi) ho q
/-- .. its states told -/
theorem q_forS (hi : DI K (fz false ρ) wi xs) (S : Nat → SEnv) (h0 : wk ρ (S 0)) (hs : ∀ i d, xs[i]? = some d → ∃ ps, DG K g d ps ∧ WP K W (setsS (S i) ps) t (Turns (fun ρ => wk ρ (S (i + 1))) (fun ρ => WP K W ρ u O) O))
    (hd : WP K W (S xs.length) u O) : WP K W ρ (tSeq (tFor wi g t) u) O := by
  refine q_for hi (fun i ρ => wk ρ (S i)) h0 (fun i d ρ hx w => ?_) fun ρ w => q_weak w hd
  obtain ⟨ps, hg, h⟩ := hs i d hx
  refine ⟨ps, hg, q_weak ?_ h⟩
  have ss : ∀ (ps : List (Nat × D)) (ρ ρ' : SEnv), wk ρ ρ' → wk (setsS ρ ps) (setsS ρ' ps) := by
    intro ps
    induction ps with
    | nil => intro ρ ρ' w; exact w
    | cons p ps ih =>
      intro ρ ρ' w
      refine ih _ _ ?_
      clear ih
      induction ρ generalizing ρ' p with
      | nil => cases ρ' <;> first | exact trivial | exact w.elim
      | cons s r ih2 =>
        cases ρ' with
        | nil => exact w.elim
        | cons s' r' =>
          obtain ⟨j, d⟩ := p
          cases j with
          | zero => exact ⟨.inr rfl, w.2⟩
          | succ j => exact ⟨w.1, ih2 (p := (j, d)) r' w.2⟩
  exact ss ps _ _ w
/-- the turns of a while -/
inductive RunW (K : PySem.W.Frag) (W : WX) (l : Bool) (tt : TT) (t : TS) : Nat → SEnv → Out → Prop
  | stop {n : Nat} {ρ : SEnv} : DT K (fz l ρ) tt false → RunW K W l tt t n ρ (.nx ρ)
  | next {n : Nat} {ρ ρ' : SEnv} {o : Out} : DT K (fz l ρ) tt true → DS K W ρ t (.nx ρ') → RunW K W l tt t n ρ' o → RunW K W l tt t (n + 1) ρ o
  | cont {n : Nat} {ρ ρ' : SEnv} {o : Out} : DT K (fz l ρ) tt true → DS K W ρ t (.ct ρ') → RunW K W l tt t n ρ' o → RunW K W l tt t (n + 1) ρ o
  | brk {n : Nat} {ρ ρ' : SEnv} : DT K (fz l ρ) tt true → DS K W ρ t (.bk ρ') → RunW K W l tt t n ρ (.nx ρ')
  | rt {n : Nat} {ρ : SEnv} {z : D} : DT K (fz l ρ) tt true → DS K W ρ t (.rt z) → RunW K W l tt t n ρ (.rt z)
  | rl {n : Nat} {ρ : SEnv} {zs : List D} : DT K (fz l ρ) tt true → DS K W ρ t (.rl zs) → RunW K W l tt t n ρ (.rl zs)
  | ex {n : Nat} {ρ ρ' : SEnv} {c : Value} {fs : List (Str × D)} : DT K (fz l ρ) tt true → DS K W ρ t (.ex ρ' c fs) → RunW K W l tt t n ρ (.ex ρ' c fs)
theorem RunW.told {l : Bool} {n : Nat} {o : Out} (h : RunW K W l tt t n ρ o) : DS K W ρ (tWhile tt t) o := by
  refine x_while l (fun n ρ => RunW K W l tt t n ρ o) n h ?_
  intro n ρ hr
  cases hr with
  | stop h1 => exact ⟨false, h1, (fun z => by cases z), fun _ => ⟨_, wk.refl _, rfl⟩⟩
  | next h1 h2 h3 => exact ⟨true, h1, (fun _ => ⟨_, h2, _, wk.refl _, _, Nat.lt_succ_self _, h3⟩), fun z => by cases z⟩
  | cont h1 h2 h3 => exact ⟨true, h1, (fun _ => ⟨_, h2, _, wk.refl _, _, Nat.lt_succ_self _, h3⟩), fun z => by cases z⟩
  | brk h1 h2 => exact ⟨true, h1, (fun _ => ⟨_, h2, _, wk.refl _, rfl⟩), fun z => by cases z⟩
  | rt h1 h2 => exact ⟨true, h1, (fun _ => ⟨_, h2, rfl⟩), fun z => by cases z⟩
  | rl h1 h2 => exact ⟨true, h1, (fun _ => ⟨_, h2, rfl⟩), fun z => by cases z⟩
  | ex h1 h2 => exact ⟨true, h1, (fun _ => ⟨_, h2, _, wk.refl _, rfl⟩), fun z => by cases z⟩
/-- a while: P by a number that falls -/
theorem q_while (l : Bool) (P : Nat → SEnv → Prop) (n : Nat) (h0 : P n ρ)
    (hs : ∀ n ρ, P n ρ → ∃ b, DT K (fz l ρ) tt b ∧ (b = true → ∃ m, n = m + 1 ∧ WP K W ρ t (Turns (P m) (fun ρ => WP K W ρ u O) O)) ∧ (b = false → WP K W ρ u O)) : WP K W ρ (tSeq (tWhile tt t) u) O := by
  have key : ∀ n ρ, P n ρ → ∃ o, RunW K W l tt t n ρ o ∧ ((∃ ρ', o = .nx ρ' ∧ WP K W ρ' u O) ∨ (o.out = true ∧ O o)) := by
    intro n
    induction n with
    | zero =>
      intro ρ p
      obtain ⟨b, h1, h2, h3⟩ := hs 0 ρ p
      cases b with
      | false => exact ⟨_, .stop h1, .inl ⟨ρ, rfl, h3 rfl⟩⟩
      | true => obtain ⟨m, e, _⟩ := h2 rfl; cases e
    | succ n ih =>
      intro ρ p
      obtain ⟨b, h1, h2, h3⟩ := hs (n + 1) ρ p
      cases b with
      | false => exact ⟨_, .stop h1, .inl ⟨ρ, rfl, h3 rfl⟩⟩
      | true =>
        obtain ⟨m, e, o, hq, hds⟩ := h2 rfl
        have e' : n = m := by omega
        subst e'
        cases o with
        | nx ρ' =>
          obtain ⟨o, r, q⟩ := ih ρ' hq
          exact ⟨o, .next h1 hds r, q⟩
        | ct ρ' =>
          obtain ⟨o, r, q⟩ := ih ρ' hq
          exact ⟨o, .cont h1 hds r, q⟩
        | bk ρ' => exact ⟨_, .brk h1 hds, .inl ⟨ρ', rfl, hq⟩⟩
        | rt z => exact ⟨_, .rt h1 hds, .inr ⟨rfl, hq⟩⟩
        | rl z => exact ⟨_, .rl h1 hds, .inr ⟨rfl, hq⟩⟩
        | ex ρ' c fs => exact ⟨_, .ex h1 hds, .inr ⟨rfl, hq⟩⟩
  obtain ⟨o, r, q⟩ := key n ρ h0
  rcases q with ⟨ρ', rfl, q⟩ | ⟨ho, q⟩
  · exact q_then r.told q
  · exact q_done r.told ho q
theorem EnvR.wk {R : Hp} {σ : L2.St} {l : Bool} (w : G.wk ρ ρ') (e : EnvR K R σ (fz l ρ)) : EnvR K R σ (fz l ρ') := by
  refine ⟨?_, fun i d h => ?_⟩
  · have := e.1
    unfold fz at this ⊢
    rw [List.length_map] at this ⊢
    rw [← w.len]; exact this
  · unfold fz at h
    rw [List.getElem?_map] at h
    cases hs : ρ'[i]? with
    | none => rw [hs] at h; cases h
    | some s =>
      rw [hs] at h
      rcases w.get hs with rfl | h2
      · cases h
      · exact e.2 i d (by unfold fz; rw [List.getElem?_map, h2]; exact h)
theorem dt_wk {l : Bool} (w : wk ρ ρ') (h : DT K (fz l ρ') tt b) : DT K (fz l ρ) tt b := fun H R σ Q s e q => h H R σ Q s (e.wk w) q
/-- a while whose states are told by P -/
theorem q_whileS (l : Bool) (P : Nat → SEnv → Prop) (n : Nat) (S0 : SEnv) (w : wk ρ S0) (h0 : P n S0)
    (hs : ∀ n S, P n S → ∃ b, DT K (fz l S) tt b ∧ (b = true → ∃ m, n = m + 1 ∧ WP K W S t (Turns (fun ρ => ∃ S', wk ρ S' ∧ P m S') (fun ρ => WP K W ρ u O) O)) ∧ (b = false → WP K W S u O)) : WP K W ρ (tSeq (tWhile tt t) u) O := by
  refine q_while l (fun n ρ => ∃ S, wk ρ S ∧ P n S) n ⟨S0, w, h0⟩ ?_
  rintro n ρ ⟨S, w, p⟩
  obtain ⟨b, h1, h2, h3⟩ := hs n S p
  exact ⟨b, dt_wk w h1, (fun hb => by obtain ⟨m, e, q⟩ := h2 hb; exact ⟨m, e, q_weak w q⟩), fun hb => q_weak w (h3 hb)⟩
theorem setsS_wk : ∀ (ps : List (Nat × D)) (ρ ρ' : SEnv), wk ρ ρ' → wk (setsS ρ ps) (setsS ρ' ps) := by
  intro ps
  induction ps with
  | nil => intro ρ ρ' w; exact w
  | cons p ps ih =>
    intro ρ ρ' w
    refine ih _ _ ?_
    clear ih
    induction ρ generalizing ρ' p with
    | nil => cases ρ' <;> first | exact trivial | exact w.elim
    | cons s r ih2 =>
      cases ρ' with
      | nil => exact w.elim
      | cons s' r' =>
        obtain ⟨j, d⟩ := p
        cases j with
        | zero => exact ⟨.inr rfl, w.2⟩
        | succ j => exact ⟨w.1, ih2 (p := (j, d)) r' w.2⟩
/-- a for whose states are told by P -/
theorem q_forP (hi : DI K (fz false ρ) wi xs) (P : Nat → SEnv → Prop) (S0 : SEnv) (w : wk ρ S0) (h0 : P 0 S0) (hs : ∀ i d S, xs[i]? = some d → P i S → ∃ ps, DG K g d ps ∧ WP K W (setsS S ps) t (Turns (fun ρ => ∃ S', wk ρ S' ∧ P (i + 1) S') (fun ρ => WP K W ρ u O) O))
    (hd : ∀ S, P xs.length S → WP K W S u O) : WP K W ρ (tSeq (tFor wi g t) u) O := by
  refine q_for hi (fun i ρ => ∃ S, wk ρ S ∧ P i S) ⟨S0, w, h0⟩ ?_ fun ρ ⟨S, w, p⟩ => q_weak w (hd S p)
  rintro i d ρ hx ⟨S, w, p⟩
  obtain ⟨ps, hg, h⟩ := hs i d S hx p
  exact ⟨ps, hg, q_weak (setsS_wk ps _ _ w) h⟩
def Joins (M : SEnv → Prop) (O : Out → Prop) : Out → Prop
  | .nx ρ => M ρ
  | o => O o
/-- a statement, then the rest, shown once from M -/
theorem q_join (M : SEnv → Prop) (h : WP K W ρ t (Joins M O)) (q : ∀ ρ', M ρ' → WP K W ρ' u O) : WP K W ρ (tSeq t u) O := by
  obtain ⟨o, a, b⟩ := h
  cases o with
  | nx ρ' => exact q_then b (q ρ' a)
  | rt d => exact q_done b rfl a
  | rl d => exact q_done b rfl a
  | bk ρ => exact q_done b rfl a
  | ct ρ => exact q_done b rfl a
  | ex ρ c fs => exact q_done b rfl a
/-- where nothing is let out the wish for errors says nothing -/
theorem wp_W {W' : WX} (h : WP K W ρ t O) (ho : ∀ o, O o → o.noEx = true) : WP K W' ρ t O := by
  obtain ⟨o, a, b⟩ := h
  refine ⟨o, a, fun H0 R0 H σ E e k => b H0 R0 H σ E e ?_⟩
  have := ho o a
  cases o <;> first | (cases this; done) | exact k
theorem fits_noEx {o : Out} {d : D} (h : Fits o (.rt d)) : o.noEx = true := by
  cases o <;> first | rfl | exact h.elim
theorem fits_noExL {o : Out} {d : List D} (h : Fits o (.rl d)) : o.noEx = true := by
  cases o <;> first | rfl | exact h.elim
/-! a def -/
theorem fits_of {rel : List D → Res → Prop} {n : Nat} {E : XK} {N : List Str} (h : ∀ ds r, rel ds r → WP K (WF E) (ds.map Sl.va ++ List.replicate (n - ds.length) Sl.no) t (fun o => Fits o r)) (hN : N.length = n) (vs : List V) (H : Hp) (Q : VK)
    (q : spD K rel vs H Q E) : t { nx := fun _ H' => Q .non H', rt := Q } (L2.start N vs) H := spD_of h hN vs H Q q
end
end G

set_option Elab.async false
set_option linter.all false
set_option maxRecDepth 10000000
set_option maxHeartbeats 4000000
local macro_rules | `(tactic| walk_at "dd1") => `(tactic| with_reducible first
  | (apply G.d_var; with_unfolding_all exact rfl)
  | exact G.d_int | exact G.d_str | exact G.d_bl | exact G.d_non | exact G.d_val | exact G.d_anil
  | apply G.d_acons | apply G.d_tup | apply G.d_cb | apply G.d_op | apply G.d_notT | apply G.d_callS | apply G.d_call | apply G.d_neg | apply G.d_fld | apply G.d_make | apply G.d_part | exact G.d_noPart
  | apply G.dt_test | apply G.dt_not | apply G.dt_tru | exact G.dt_yes
  | apply G.dl_lst | apply G.dl_cat
  | exact G.o_addi | exact G.o_subi | exact G.o_lti | exact G.o_lei | exact G.o_gti | exact G.o_gei | exact G.o_eqi | exact G.o_nei | exact G.o_eqs | exact G.o_nes | exact G.o_eqb | exact G.o_neb
  | apply G.o_muli | apply G.o_divi | apply G.o_modi | apply G.o_powi | apply G.o_adds
  | exact G.o_isB | exact G.o_isNB | exact G.o_isN rfl | exact G.o_isNN rfl
  | (apply G.o_ixt; with_unfolding_all exact rfl; with_unfolding_all exact rfl)
  | (apply G.o_ixl; with_unfolding_all exact rfl; with_unfolding_all exact rfl)
  | exact G.c_inti | exact G.c_leni | exact G.c_lenk | exact G.c_lent | exact G.c_min2 | exact G.c_max2 | exact G.c_tupL | exact G.c_tupT
  | apply G.c_lens
  | exact G.c_isi1 rfl rfl)
local macro_rules | `(tactic| walk_at "dd") => `(tactic| repeat' (walk_at "dd1"))
local macro_rules | `(tactic| walk_at "wk") => `(tactic| (with_unfolding_all first | exact G.wk.refl _ | (repeat' (first | exact trivial | refine ⟨.inr rfl, ?_⟩ | refine ⟨.inl rfl, ?_⟩))))
local macro_rules | `(tactic| walk_at "side") => `(tactic| first
  | (intro h; cases h; done) | (intro _; rfl) | decide | omega | (simp; omega)
  | exact Or.inr ⟨by omega, by omega⟩ | exact Or.inl ⟨by omega, by omega⟩ | exact Or.inr (by decide) | exact ⟨by omega, by omega⟩)
local macro_rules | `(tactic| walk_at "e") => `(tactic| (repeat' (walk_at "dd1")) <;> try (walk_at "side"))
/-! Com: the defs that stand in every law's text. -/
namespace G
open PySem PySem.Spec PyProof.Rows L2
/-- _law_whole(value) -/
def t__law_whole (K : PySem.W.Frag) : TS :=
  (tRet (tAndT K (tCB (rIsi' K) (tCons (tVar 0) (tCons (tC (.ty "int")) tNil))) (tNotT K (tCB (rIsi' K) (tCons (tVar 0) (tCons (tC (.ty "bool")) tNil))))))
def D.isInt : D → Bool
  | .int _ => true
  | _ => false
def relWhole (ds : List D) (r : Res) : Prop := ∃ d, ds = [d] ∧ d.isV = false ∧ r = .rt (.bl d.isInt)
theorem whole_ds {K : PySem.W.Frag} (ds : List D) (r : Res) (h : relWhole ds r) : ∃ o, Fits o r ∧ ∀ W, DS K W (ds.map Sl.va ++ List.replicate (1 - ds.length) Sl.no) (t__law_whole K) o := by
  obtain ⟨d, rfl, hd, rfl⟩ := h
  refine ⟨.rt (.bl d.isInt), rfl, fun W => x_ret false ?_⟩
  have h1 : ∃ b, kitB d.typ "int" = some b ∧ kitB d.typ "bool" = some (b && !d.isInt) := by
    cases d <;> first
      | (cases hd; done)
      | exact ⟨_, rfl, rfl⟩
  obtain ⟨b, h1, h2⟩ := h1
  have e1 : DE K (fz false (List.map Sl.va [d] ++ List.replicate (1 - 1) Sl.no)) (tCB (rIsi' K) (tCons (tVar 0) (tCons (tC (.ty "int")) tNil))) (.bl b) := d_cb (d_acons (d_var rfl) (d_acons d_val d_anil)) (c_isi1 hd h1)
  have e2 : DE K (fz false (List.map Sl.va [d] ++ List.replicate (1 - 1) Sl.no)) (tCB (rIsi' K) (tCons (tVar 0) (tCons (tC (.ty "bool")) tNil))) (.bl (b && !d.isInt)) := d_cb (d_acons (d_var rfl) (d_acons d_val d_anil)) (c_isi1 hd h2)
  refine d_andT e1 trivial (fun hb => d_notT e2 trivial) ?_
  show D.bl d.isInt = if b = true then D.bl (!(b && !d.isInt)) else D.bl b
  cases b with
  | true => simp [D.truth]
  | false =>
    cases d <;> first
      | (cases hd; done)
      | rfl
      | (cases h1; done)
/-- _law_cell(script, k) -/
def t__law_cell (K : PySem.W.Frag) : TS :=
  (tSeq (tIfS (tTest (tOp rLt' (tVar 1) (tCB (rLen' K) (tCons (tVar 0) tNil))))
  (tRet (tOp (rIx' K) (tVar 0) (tVar 1)))
  tNext)
  (tSeq (tAsg (tC (.int 17)) (gName 2))
  (tSeq (tFor (iAny K (tVar 0)) (gName 3)
  (tAsg (tOp rMod' (tCB rInt' (tCons (tOp (rAdd' K) (tOp rMul' (tVar 2) (tC (.int 31))) (tOp rMod' (tCB rInt' (tCons (tVar 3) tNil)) (tC (.int 1000003)))) tNil)) (tC (.int 1000003))) (gName 2)))
  (tRet (tOp rMod' (tCB rInt' (tCons (tOp rMul' (tOp rMul' (tOp (rAdd' K) (tVar 2) (tC (.int 7))) (tOp (rAdd' K) (tVar 1) (tC (.int 3)))) (tC (.int 69621))) tNil)) (tC (.int 2147483647)))))))
def seedI (ns : List Int) : Int := ns.foldl (fun s c => (s * 31 + c % 1000003) % 1000003) 17
def cellI (ns : List Int) (k : Nat) : Int := match ns[k]? with
  | some c => c
  | none => (seedI ns + 7) * ((k : Int) + 3) * 69621 % 2147483647
def relCell (ds : List D) (r : Res) : Prop := ∃ (ns : List Int) (k : Nat), ds = [.kl (ns.map D.int), .int k] ∧ k ≤ 1000 ∧ r = .rt (.int (cellI ns k))
theorem seed_rangeS : ∀ (ns : List Int) (s : Int), 0 ≤ s → s < 1000003 → 0 ≤ ns.foldl (fun s c => (s * 31 + c % 1000003) % 1000003) s ∧ ns.foldl (fun s c => (s * 31 + c % 1000003) % 1000003) s < 1000003
  | [], s, h0, h1 => ⟨h0, h1⟩
  | n :: ns, s, h0, h1 => seed_rangeS ns _ (by show 0 ≤ (s * 31 + n % 1000003) % 1000003; omega) (by show (s * 31 + n % 1000003) % 1000003 < 1000003; omega)
theorem seed_range (ns : List Int) : 0 ≤ seedI ns ∧ seedI ns < 1000003 := seed_rangeS ns 17 (by decide) (by decide)
theorem seed_take {ns : List Int} {i : Nat} {c : Int} (h : ns[i]? = some c) : seedI (ns.take (i + 1)) = (seedI (ns.take i) * 31 + c % 1000003) % 1000003 := by
  unfold seedI
  rw [List.take_add_one, h, List.foldl_append]
  rfl
theorem cell_ds {K : PySem.W.Frag} {W : WX} (ds : List D) (r : Res) (h : relCell ds r) : WP K W (ds.map Sl.va ++ List.replicate (4 - ds.length) Sl.no) (t__law_cell K) (fun o => Fits o r) := by
  obtain ⟨ns, k, rfl, hk, rfl⟩ := h
  show WP K W [.va (.kl (ns.map D.int)), .va (.int k), .no, .no] _ _
  unfold t__law_cell
  apply q_if false
  · walk_at "e"
  · intro hb
    have hlt : k < ns.length := by simpa using hb
    apply q_ret false
    · apply d_op
      · walk_at "e"
      · walk_at "e"
      · refine o_ixk (ixN_of rfl (by simpa using hlt)) (d := .int (cellI ns k)) ?_
        unfold cellI
        rw [List.getElem?_map, List.getElem?_eq_getElem hlt] <;> rfl
    · exact rfl
  · intro hb
    have hlt : ¬ k < ns.length := by simpa using hb
    apply q_next
    apply q_set false
    · walk_at "e"
    · walk_at "e"
    refine q_forS (it_kl (d_var rfl)) (fun i => [.va (.kl (ns.map D.int)), .va (.int k), .va (.int (seedI (ns.take i))), .no]) (by walk_at "wk") (fun i d hd => ?_) ?_
    · rw [List.getElem?_map] at hd
      cases hn : ns[i]? with
      | none => rw [hn] at hd; cases hd
      | some c =>
        rw [hn] at hd
        have hd' : d = .int c := (Option.some.inj hd).symm
        subst hd'
        refine ⟨_, g_name', ?_⟩
        apply q_last
        apply q_set false
        · walk_at "e"
        · walk_at "e"
        · apply q_nx
          refine ⟨.inr rfl, .inr rfl, .inr ?_, .inl rfl, trivial⟩
          rw [seed_take hn] <;> rfl
    · have hs := seed_range (ns.take ns.length)
      apply q_last
      apply q_ret false
      · walk_at "e"
      · show D.int _ = D.int _
        unfold cellI
        rw [List.getElem?_eq_none (by omega), List.length_map, List.take_length]
/-! ### _law_same -/
def t__law_same (K : PySem.W.Frag) (sp__law_same : Sp) (sp__law_whole : Sp) : TS :=
  (tSeq (tIfS (tOr (tTru' K (tCB (rIsi' K) (tCons (tVar 1) (tCons (tC (.ty "tuple")) tNil)))) (tTru' K (tCB (rIsi' K) (tCons (tVar 1) (tCons (tC (.ty "list")) tNil)))))
  (tSeq (tIfS (tOr (tNot (tTru' K (tCB (rIsi' K) (tCons (tVar 0) (tCons (tC (.ty "tuple")) tNil))))) (tTest (tOp (rNe' K) (tCB (rLen' K) (tCons (tVar 0) tNil)) (tCB (rLen' K) (tCons (tVar 1) tNil)))))
  (tRet (tC (.bl false)))
  tNext)
  (tSeq (tFor (iRng1 (tCons (tCB (rLen' K) (tCons (tVar 1) tNil)) tNil)) (gName 2)
  (tIfS (tNot (tTru' K (tCallR sp__law_same E0 (tCons (tOp (rIx' K) (tVar 0) (tVar 2)) (tCons (tOp (rIx' K) (tVar 1) (tVar 2)) tNil)))))
  (tRet (tC (.bl false)))
  tNext))
  (tRet (tC (.bl true)))))
  tNext)
  (tSeq (tIfS (tTest (tOp rIs' (tVar 1) (tC .non)))
  (tRet (tOp rIs' (tVar 0) (tC .non)))
  tNext)
  (tSeq (tIfS (tTru' K (tCB (rIsi' K) (tCons (tVar 1) (tCons (tC (.ty "str")) tNil))))
  (tRet (tAndT K (tCB (rIsi' K) (tCons (tVar 0) (tCons (tC (.ty "str")) tNil))) (tOp (rEq' K) (tVar 0) (tVar 1))))
  tNext)
  (tRet (tAndT K (tCallR sp__law_whole E0 (tCons (tVar 0) tNil)) (tOp (rEq' K) (tVar 0) (tVar 1)))))))
mutual
def sameD : D → D → Bool
  | v, .tup ds => (match v with
    | .tup vs => sameL vs ds
    | _ => false)
  | v, .lst ds => (match v with
    | .tup vs => sameL vs ds
    | _ => false)
  | v, .non => v.isNon
  | v, .str x => (match v with
    | .str y => decide (y = x)
    | _ => false)
  | v, .int j => (match v with
    | .int i => decide (i = j)
    | _ => false)
  | _, _ => false
def sameL : List D → List D → Bool
  | [], [] => true
  | v :: vs, d :: ds => sameD v d && sameL vs ds
  | _, _ => false
end
def sameT : D → List D → Bool
  | .tup vs, ds => sameL vs ds
  | _, _ => false
mutual
def D.fin (due : Bool) : D → Bool
  | .bl _ => !due
  | .tup ds => D.finL due ds && decide (ds.length ≤ 10000000)
  | .lst ds => D.finL due ds && decide (ds.length ≤ 10000000)
  | .ins _ _ _ => false
  | .kl _ => false
  | .val _ => false
  | .dct _ _ => false
  | .ndc _ _ _ => false
  | _ => true
def D.finL (due : Bool) : List D → Bool
  | [] => true
  | d :: ds => d.fin due && D.finL due ds
end
mutual
def D.depth : D → Nat
  | .tup ds => D.depthL ds + 1
  | .lst ds => D.depthL ds + 1
  | _ => 0
def D.depthL : List D → Nat
  | [] => 0
  | d :: ds => max d.depth (D.depthL ds)
end
theorem finL_get {due : Bool} : ∀ {ds : List D} {i : Nat} {d : D}, D.finL due ds = true → ds[i]? = some d → d.fin due = true
  | [], _, _, _, h => by simp at h
  | a :: ds, 0, d, f, h => by
    simp only [D.finL, Bool.and_eq_true] at f
    simp at h
    rw [← h]; exact f.1
  | a :: ds, i + 1, d, f, h => by
    simp only [D.finL, Bool.and_eq_true] at f
    exact finL_get f.2 (by simpa using h)
theorem depthL_get : ∀ {ds : List D} {i : Nat} {d : D}, ds[i]? = some d → d.depth ≤ D.depthL ds
  | [], _, _, h => by simp at h
  | a :: ds, 0, d, h => by
    simp at h
    simp only [D.depthL]
    rw [← h]; omega
  | a :: ds, i + 1, d, h => by
    have := depthL_get (ds := ds) (i := i) (d := d) (by simpa using h)
    simp only [D.depthL]; omega
theorem sameL_iff : ∀ {vs ds : List D}, sameL vs ds = true ↔ vs.length = ds.length ∧ ∀ (i : Nat) (v d : D), vs[i]? = some v → ds[i]? = some d → sameD v d = true
  | [], [] => by simp [sameL]
  | [], d :: ds => by simp [sameL]
  | v :: vs, [] => by simp [sameL]
  | v :: vs, d :: ds => by
    simp only [sameL, Bool.and_eq_true, List.length_cons]
    rw [sameL_iff (vs := vs) (ds := ds)]
    constructor
    · rintro ⟨h1, h2, h3⟩
      refine ⟨by omega, fun i x y hx hy => ?_⟩
      cases i with
      | zero => simp at hx hy; rw [← hx, ← hy]; exact h1
      | succ i => exact h3 i x y (by simpa using hx) (by simpa using hy)
    · rintro ⟨h1, h2⟩
      exact ⟨h2 0 v d rfl rfl, by omega, fun i x y hx hy => h2 (i + 1) x y (by simpa using hx) (by simpa using hy)⟩
def relSame (n : Nat) (ds : List D) (r : Res) : Prop := ∃ v u, ds = [v, u] ∧ v.fin false = true ∧ u.fin true = true ∧ u.depth < n ∧ r = .rt (.bl (sameD v u))
theorem fin_isV {due : Bool} {d : D} (h : d.fin due = true) : d.isV = false := by
  cases d <;> first
    | rfl
    | (simp [D.fin] at h)
theorem same_seq {K : PySem.W.Frag} {W : WX} {n : Nat} {v u : D} {ds : List D} (hu : u = .tup ds ∨ u = .lst ds) (hv : v.fin false = true) (hd : u.fin true = true) (hn : u.depth < n + 1) :
    WP K W [.va v, .va u, .no] (t__law_same K (spD K (relSame n)) (spD K relWhole)) (fun o => Fits o (.rt (.bl (sameD v u)))) := by
  have hfl : D.finL true ds = true ∧ ds.length ≤ 10000000 := by
    rcases hu with rfl | rfl <;> simpa [D.fin] using hd
  have hdl : D.depthL ds < n := by
    rcases hu with rfl | rfl <;> simpa [D.depth] using hn
  have hsm : sameD v u = sameT v ds := by
    rcases hu with rfl | rfl <;> cases v <;> simp [sameD, sameT]
  have hlen : ∀ {ρ : SEnv} {j : Nat}, ρ[j]? = some (.va u) → DE K (fz false ρ) (tCB (rLen' K) (tCons (tVar j) tNil)) (.int ds.length) := by
    intro ρ j hj
    have hj' : (fz false ρ)[j]? = some (some u) := by unfold fz; rw [List.getElem?_map, hj]; rfl
    rcases hu with rfl | rfl
    · exact d_cb (d_acons (d_var hj') d_anil) c_lent
    · exact d_cb (d_acons (d_var hj') d_anil) c_leni
  have hix : ∀ {i : Nat} {d : D}, ds[i]? = some d → DO K (rIx' K) u (.int (i : Int)) d := by
    intro i d h
    have hi := (List.getElem?_eq_some_iff.mp h).1
    rcases hu with rfl | rfl
    · exact o_ixt (ixN_of rfl hi) h
    · exact o_ixl (ixN_of rfl hi) h
  unfold t__law_same
  apply q_if false (b := true)
  · rcases hu with rfl | rfl
    · exact dt_is (dt_or (b := true) (c := true) (dt_tru (d_cb (d_acons (d_var rfl) (d_acons d_val d_anil)) (c_isi1 (b := true) rfl rfl)) trivial) (fun z => nomatch z)) rfl
    · exact dt_is (dt_or (b := false) (c := true) (dt_tru (d_cb (d_acons (d_var rfl) (d_acons d_val d_anil)) (c_isi1 (b := false) rfl rfl)) trivial) fun _ => dt_tru (d_cb (d_acons (d_var rfl) (d_acons d_val d_anil)) (c_isi1 (b := true) rfl rfl)) trivial) rfl
  rotate_left
  · intro z; cases z
  intro _
  apply q_assoc
  by_cases hv2 : ∃ vs, v = .tup vs ∧ vs.length = ds.length
  · obtain ⟨vs, rfl, hl⟩ := hv2
    have hvl : D.finL false vs = true := by
      have := hv
      simp [D.fin] at this
      exact this.1
    apply q_ifF false
    · refine dt_is (dt_or (b := false) (c := false) (dt_is (dt_not (dt_tru (d_cb (d_acons (d_var rfl) (d_acons d_val d_anil)) (c_isi1 (b := true) rfl rfl)) trivial)) rfl) fun _ => dt_test (de_is (d_op (d_cb (d_acons (d_var rfl) d_anil) c_lent) (hlen rfl) o_nei) ?_)) rfl
      simp [hl]
    apply q_next
    apply q_assoc
    refine q_for (it_rng1 (n := ds.length) (d_acons (hlen rfl) d_anil) (by omega) (by omega)) (fun i ρ => wk ρ [.va (.tup vs), .va u, .no] ∧ ∀ j, j < i → ∀ a b, vs[j]? = some a → ds[j]? = some b → sameD a b = true) ⟨wk.refl _, fun j hj => absurd hj (Nat.not_lt_zero _)⟩ ?_ ?_
    · rintro i d ρ hd ⟨w, inv⟩
      obtain ⟨hi, rfl⟩ := rngD_val hd
      obtain ⟨b, hb⟩ : ∃ b, ds[i]? = some b := ⟨_, List.getElem?_eq_getElem hi⟩
      obtain ⟨a, ha⟩ : ∃ a, vs[i]? = some a := ⟨_, List.getElem?_eq_getElem (by omega)⟩
      refine ⟨_, g_name', q_weak (ρ' := [.va (.tup vs), .va u, .va (.int (i : Int))]) ?_ ?_⟩
      · match ρ, w with
        | [s1, s2, s3], ⟨w1, w2, w3, _⟩ => exact ⟨w1, w2, .inr rfl, trivial⟩
      apply q_last
      apply q_if false (b := !sameD a b)
      · refine dt_not (dt_is (dt_tru (d_call (d_acons (d_op (d_var rfl) (d_var rfl) (o_ixt (ixN_of rfl (by omega)) ha)) (d_acons (d_op (d_var rfl) (d_var rfl) (hix hb)) d_anil)) (show relSame n _ _ from ⟨a, b, rfl, finL_get hvl ha, finL_get hfl.1 hb, ?_, rfl⟩)) trivial) rfl)
        have := depthL_get hb
        omega
      · intro z
        have z' : sameD a b = false := by simpa using z
        apply q_ret false d_bl
        show D.bl false = D.bl _
        rw [hsm]
        show D.bl false = D.bl (sameL vs ds)
        have : sameL vs ds = false := by
          cases h : sameL vs ds with
          | false => rfl
          | true => rw [(sameL_iff.mp h).2 i a b ha hb] at z'; cases z'
        rw [this]
      · intro z
        have z' : sameD a b = true := by simpa using z
        apply q_next
        apply q_nx
        refine ⟨⟨.inr rfl, .inr rfl, .inl rfl, trivial⟩, fun j hj x y hx hy => ?_⟩
        by_cases hji : j = i
        · subst hji
          rw [ha] at hx; rw [hb] at hy
          cases hx; cases hy; exact z'
        · exact inv j (by omega) x y hx hy
    · rintro ρ ⟨w, inv⟩
      rw [rngD_len] at inv
      apply q_ret false d_bl
      show D.bl true = D.bl _
      rw [hsm]
      show D.bl true = D.bl (sameL vs ds)
      have : sameL vs ds = true := sameL_iff.mpr ⟨hl, fun i a b ha hb => inv i (List.getElem?_eq_some_iff.mp hb).1 a b ha hb⟩
      rw [this]
  · have hff : sameD v u = false := by
      rw [hsm]
      cases v <;> try rfl
      rename_i vs
      show sameL vs ds = false
      cases h : sameL vs ds with
      | false => rfl
      | true => exact absurd ⟨vs, rfl, (sameL_iff.mp h).1⟩ hv2
    apply q_ifT false
    · by_cases hv3 : ∃ vs, v = .tup vs
      · obtain ⟨vs, rfl⟩ := hv3
        refine dt_is (dt_or (b := false) (c := true) (dt_is (dt_not (dt_tru (d_cb (d_acons (d_var rfl) (d_acons d_val d_anil)) (c_isi1 (b := true) rfl rfl)) trivial)) rfl) fun _ => dt_test (de_is (d_op (d_cb (d_acons (d_var rfl) d_anil) c_lent) (hlen rfl) o_nei) ?_)) rfl
        have hne : vs.length ≠ ds.length := fun z => hv2 ⟨vs, rfl, z⟩
        simp only [D.bl.injEq, Bool.not_eq_true', decide_eq_false_iff_not]
        omega
      · refine dt_is (dt_or (b := true) (c := true) (dt_is (dt_not (dt_tru (d_cb (d_acons (d_var rfl) (d_acons d_val d_anil)) (c_isi1 (b := false) (fin_isV hv) ?_)) trivial)) rfl) (fun z => nomatch z)) rfl
        cases v <;> first
          | rfl
          | exact absurd ⟨_, rfl⟩ hv3
          | (simp [D.fin] at hv)
    · apply q_ret false d_bl
      show D.bl false = D.bl _
      rw [hff]
theorem same_ds {K : PySem.W.Frag} {W : WX} (n : Nat) (ds : List D) (r : Res) (h : relSame (n + 1) ds r) : WP K W (ds.map Sl.va ++ List.replicate (3 - ds.length) Sl.no) (t__law_same K (spD K (relSame n)) (spD K relWhole)) (fun o => Fits o r) := by
  obtain ⟨v, u, rfl, hv, hu, hn, rfl⟩ := h
  show WP K W [.va v, .va u, .no] _ _
  have hV := fin_isV hv
  cases u with
  | tup us => exact same_seq (.inl rfl) hv hu hn
  | lst us => exact same_seq (.inr rfl) hv hu hn
  | bl b => simp [D.fin] at hu
  | ins _ _ _ => simp [D.fin] at hu
  | kl _ => simp [D.fin] at hu
  | val _ => simp [D.fin] at hu
  | dct _ _ => simp [D.fin] at hu
  | ndc _ _ _ => simp [D.fin] at hu
  | non =>
    unfold t__law_same
    apply q_ifF false
    · exact dt_is (dt_or (b := false) (c := false) (dt_tru (d_cb (d_acons (d_var rfl) (d_acons d_val d_anil)) (c_isi1 (b := false) rfl rfl)) trivial) fun _ => dt_tru (d_cb (d_acons (d_var rfl) (d_acons d_val d_anil)) (c_isi1 (b := false) rfl rfl)) trivial) rfl
    apply q_next
    apply q_ifT false
    · exact dt_test (d_op (d_var rfl) d_non (o_isN rfl))
    · apply q_ret false (d_op (d_var rfl) d_non (o_isN (by cases v <;> first | rfl | (cases hV))))
      show D.bl _ = D.bl _
      simp [sameD]
  | str z =>
    unfold t__law_same
    apply q_ifF false
    · exact dt_is (dt_or (b := false) (c := false) (dt_tru (d_cb (d_acons (d_var rfl) (d_acons d_val d_anil)) (c_isi1 (b := false) rfl rfl)) trivial) fun _ => dt_tru (d_cb (d_acons (d_var rfl) (d_acons d_val d_anil)) (c_isi1 (b := false) rfl rfl)) trivial) rfl
    apply q_next
    apply q_ifF false
    · exact dt_test (d_op (d_var rfl) d_non (o_isN rfl))
    apply q_next
    apply q_ifT false
    · exact dt_tru (d_cb (d_acons (d_var rfl) (d_acons d_val d_anil)) (c_isi1 (b := true) rfl rfl)) trivial
    · by_cases hs : ∃ y, v = .str y
      · obtain ⟨y, rfl⟩ := hs
        apply q_ret false (d_andT (d_cb (d_acons (d_var rfl) (d_acons d_val d_anil)) (c_isi1 (b := true) rfl rfl)) trivial (fun _ => d_op (d_var rfl) (d_var rfl) o_eqs) rfl)
        show D.bl _ = D.bl _
        simp [sameD]
      · have h1 : kitB v.typ "str" = some false := by
          cases v <;> first
            | rfl
            | exact absurd ⟨_, rfl⟩ hs
            | (cases hV)
        apply q_ret false (d_andT (y := .non) (d_cb (d_acons (d_var rfl) (d_acons d_val d_anil)) (c_isi1 (b := false) hV h1)) trivial (fun z => nomatch z) rfl)
        show D.bl _ = D.bl _
        cases v <;> first
          | rfl
          | exact absurd ⟨_, rfl⟩ hs
          | (cases hV)
  | int j =>
    unfold t__law_same
    apply q_ifF false
    · exact dt_is (dt_or (b := false) (c := false) (dt_tru (d_cb (d_acons (d_var rfl) (d_acons d_val d_anil)) (c_isi1 (b := false) rfl rfl)) trivial) fun _ => dt_tru (d_cb (d_acons (d_var rfl) (d_acons d_val d_anil)) (c_isi1 (b := false) rfl rfl)) trivial) rfl
    apply q_next
    apply q_ifF false
    · exact dt_test (d_op (d_var rfl) d_non (o_isN rfl))
    apply q_next
    apply q_ifF false
    · exact dt_tru (d_cb (d_acons (d_var rfl) (d_acons d_val d_anil)) (c_isi1 (b := false) rfl rfl)) trivial
    apply q_next
    apply q_last
    by_cases hs : ∃ i, v = .int i
    · obtain ⟨i, rfl⟩ := hs
      apply q_ret false (d_andT (d_call (d_acons (d_var rfl) d_anil) (show relWhole _ _ from ⟨_, rfl, rfl, rfl⟩)) trivial (fun _ => d_op (d_var rfl) (d_var rfl) o_eqi) rfl)
      show D.bl _ = D.bl _
      simp [sameD]
    · have h1 : v.isInt = false := by
        cases v <;> first
          | rfl
          | exact absurd ⟨_, rfl⟩ hs
      apply q_ret false (d_andT (y := .non) (d_call (d_acons (d_var rfl) d_anil) (show relWhole _ _ from ⟨_, rfl, hV, rfl⟩)) trivial (fun z => by rw [h1] at z; cases z) rfl)
      rw [h1]
      show D.bl false = D.bl _
      cases v <;> first
        | rfl
        | exact absurd ⟨_, rfl⟩ hs
/-! ### the end -/
theorem rep_of_ints {K : PySem.W.Frag} {R : Hp} : ∀ ns : List Int, RepL K R (ns.map V.int) (ns.map D.int)
  | [] => .nil
  | n :: ns => .cons (.int n) (rep_of_ints ns)
theorem law_end {K : PySem.W.Frag} {rel : List D → Res → Prop} {H : Hp} {a : Addr} {ns : List Int} {E : XK} (hS : SqL K H a (ns.map V.int)) (h : rel [.kl (ns.map D.int)] (.rt (.bl true))) : spD K rel [.ref a] H (fun v _ => v = .bl true) E :=
  ⟨H, [.kl (ns.map D.int)], .rt (.bl true), Same.refl _, .cons (.kl hS (rep_of_ints ns)) .nil, h, fun v H' R' g r => by cases r; rfl⟩
/-- the proofs of defs by their readings -/
theorem whole_wp {K : PySem.W.Frag} {W : WX} (ds : List D) (r : Res) (h : relWhole ds r) : WP K W (ds.map Sl.va ++ List.replicate (1 - ds.length) Sl.no) (t__law_whole K) (fun o => Fits o r) := by
  obtain ⟨o, a, b⟩ := whole_ds (K := K) ds r h
  exact ⟨o, a, b W⟩
end G

set_option Elab.async false
set_option linter.all false
set_option maxRecDepth 100000
set_option maxHeartbeats 4000000
/-! Ldc: name = {..: .. for ..} on one line. -/
namespace L2
open PySem PySem.Spec PyProof.Rows
section
variable {X : Cx}
theorem ps_setDc {i : Nat} {y : Str} {py : Pos} {kx vx tg iter : Expr} {ifs : List Expr} {scope : Scope} {own : List (Str × Nat)} {pos spos : Pos} {wi : TI} {g : TG} {tt : TT} {tk tv : TE} (hc : X.calm = true) (hN : X.N.Nodup) (hy : X.N[i]? = some y) (hyl : X.env.scope.names.lookup y = some .local)
    (hsw : swapsWith (.DictComp kx vx [⟨tg, iter, ifs, 0⟩] scope pos) (some (.Name y py)) spos.line X.env = pure true) (hi : PI X tg iter wi) (ok : BlkOk X.N X.env.scope scope own)
    (hg : ∀ (s1 : Shared) (G : Hp) (C : Addr) (cl : List (Str × Addr)) (fp : List Addr), PG (X.blk s1 G scope (compEnvC scope cl C X.env) fp) tg g) (ht : ∀ (s1 : Shared) (G : Hp) (C : Addr) (cl : List (Str × Addr)) (fp : List Addr), PTs (X.blk s1 G scope (compEnvC scope cl C X.env) fp) ifs tt)
    (hk : ∀ (s1 : Shared) (G : Hp) (C : Addr) (cl : List (Str × Addr)) (fp : List Addr), PE (X.blk s1 G scope (compEnvC scope cl C X.env) fp) kx tk)
    (he : ∀ (s1 : Shared) (G : Hp) (C : Addr) (cl : List (Str × Addr)) (fp : List Addr), PE (X.blk s1 G scope (compEnvC scope cl C X.env) fp) vx tv) (hs : ∀ x, foldedSetIterable iter X.env x = pure x := by intro _; rfl) :
    PS X (.Assign [.Name y py] (.DictComp kx vx [⟨tg, iter, ifs, 0⟩] scope pos) spos) (tAsg (tDc wi g tt tk tv (own.map (·.2))) (gName i)) := by
  constructor
  intro pins s σ H D I hh
  rw [exec_Assign_Name_used _ _ _ _ hsw]
  refine wpAny_bind (wpAny_standAt (wpAny_bind ?_))
  show wpAny _ X.A (do let _ ← comprehension (.DictComp kx vx [⟨tg, iter, ifs, 0⟩] scope pos) scope X.env (firstIterPos [⟨tg, iter, ifs, 0⟩] pos) newDict false (eval iter X.env) (some (assign (.Name y py) X.env))) _ _ s
  have h1 : tDc wi g tt tk tv (own.map (·.2)) σ H (fun x H1 => gName i x σ H1 D.nx) := hh
  refine wpAny_bind (thn (dc_core (Qf := fun _ s' => SP X pins D .next s') hc hN I hi ok hg ht hk he hs h1 fun A0 C s' m H' I1 q hn f => ?_) fun _ s' hq => wpAny_pure (wpAny_pure hq))
  show wpAny _ _ (assign (.Name y py) X.env (.ref A0)) _ _ _
  refine wpAny_assign_Name (store_ok2 (v := V.ref A0) I1 hN hy (.inl hyl) rfl (fun s2 I2 hx => ?_) (.inr hyl))
  obtain ⟨a, sb, ha⟩ := hx
  have hCa : C ≠ a := ha.elim (fun z => z ▸ f.2.1) fun z e => f.2.2.2.2.1 y a z e.symm
  exact ⟨m, hn.sameBut sb hCa, fun h3 sb3 => ⟨_, H', I2.turned (t' := s2.toks) (fun b o hb e => (sb3.2 b hb).trans e) f.1 f.2.1 f.2.2.2.1 f.2.2.2.2.1 f.2.2.2.2.2, q⟩⟩
theorem sw_trueD {kx vx : Expr} {gs : List Comprehension} {scope : Scope} {pos py : Pos} {y : Str} {l : Nat} {env : Env} (hk : env.scope.kind = .function) (hy : env.scope.names.lookup y = some .local) (hl : (py.line == pos.line) = true)
    (ha : (scope.names.any fun (n, k) => n == y && (k == .local || k == .cell)) = false) : swapsWith (.DictComp kx vx gs scope pos) (some (.Name y py)) l env = pure true := by
  have kk : env.kindOf y = some .local := hy
  have bb : env.blockKind = .function := by unfold Env.blockKind; rw [hk]; rfl
  unfold swapsWith
  simp only [bb, kk, ha, Expr.pos, hl]
  rfl
end
end L2

set_option Elab.async false
set_option linter.all false
set_option maxRecDepth 10000000
set_option maxHeartbeats 4000000
/-! Ddc: dicts as data, keys numbers and texts. -/
namespace G
open PySem PySem.Spec PyProof.Rows L2
/-- a key as a datum -/
def kD : L2.Key → D
  | .inl i => .int i
  | .inr x => .str x
def atK (ks : List L2.Key) (ds : List D) (k : L2.Key) : Option D := ((ks.zip ds).find? fun p => decide (p.1 = k)).map (·.2)
def hasK (ks : List L2.Key) (k : L2.Key) : Bool := ks.any fun x => decide (x = k)
theorem hasK_iff {ks : List L2.Key} {k : L2.Key} : hasK ks k = true ↔ k ∈ ks := by
  unfold hasK
  rw [List.any_eq_true]
  constructor
  · rintro ⟨x, h1, h2⟩
    have := of_decide_eq_true h2
    exact this ▸ h1
  · exact fun h => ⟨k, h, decide_eq_true rfl⟩
/-- the dict with k: d -/
def putKs (ks : List L2.Key) (k : L2.Key) : List L2.Key := if hasK ks k = true then ks else ks ++ [k]
def putDs (ks : List L2.Key) (ds : List D) (k : L2.Key) (d : D) : List D := if hasK ks k = true then (ks.zip ds).map (fun p => if p.1 = k then d else p.2) else ds ++ [d]
section
variable {K : PySem.W.Frag} {R : Hp}
theorem rep_key {v : V} {k : L2.Key} (h : Rep K R v (kD k)) : v = kV k := by
  cases k with
  | inl i => cases h; rfl
  | inr x => cases h; rfl
theorem key_rep {k : L2.Key} : Rep K R (kV k) (kD k) := by
  cases k with
  | inl i => exact .int i
  | inr x => exact .str x
theorem keys_rep : ∀ {ks : List L2.Key}, RepL K R (ks.map kV) (ks.map kD)
  | [] => .nil
  | _ :: _ => .cons key_rep keys_rep
theorem valV_rep {k : L2.Key} {d : D} : ∀ {ks : List L2.Key} {vs : List V} {ds : List D}, ks.length = ds.length → RepL K R vs ds → atK ks ds k = some d → ∃ v, valV (ks.zip vs) k = some v ∧ Rep K R v d
  | [], vs, ds, hl, r, h => by simp [atK] at h
  | k0 :: ks, _, _, hl, .nil, h => by simp at hl
  | k0 :: ks, v0 :: vs, d0 :: ds, hl, .cons r rr, h => by
    by_cases e : k0 = k
    · refine ⟨v0, by simp [valV, e], ?_⟩
      simp [atK, e] at h
      exact h ▸ r
    · obtain ⟨v, h1, h2⟩ := valV_rep (ks := ks) (vs := vs) (ds := ds) (k := k) (d := d) (by simpa using hl) rr (by simpa [atK, e] using h)
      exact ⟨v, by simpa [valV, e] using h1, h2⟩
theorem valV_is {k : L2.Key} : ∀ {ks : List L2.Key} {vs : List V}, ks.length = vs.length → (valV (ks.zip vs) k).isSome = hasK ks k
  | [], _, _ => by simp [valV, hasK]
  | k0 :: ks, [], h => by simp at h
  | k0 :: ks, v0 :: vs, h => by
    by_cases e : k0 = k
    · simp [valV, hasK, e]
    · have := valV_is (k := k) (ks := ks) (vs := vs) (by simpa using h)
      simp [valV, hasK, e] at this ⊢
      exact this
theorem putK_any {k : L2.Key} {ks : List L2.Key} {vs : List V} (h : ks.length = vs.length) : ((ks.zip vs).any fun kv => decide (kv.1 = k)) = hasK ks k := by
  rw [valV_any, valV_is h]
theorem zip_map_snd : ∀ {ks : List L2.Key} {vs : List V} {f : L2.Key → V → V}, (ks.zip vs).map (fun kv => (kv.1, f kv.1 kv.2)) = ks.zip ((ks.zip vs).map fun kv => f kv.1 kv.2)
  | [], _, _ => by simp
  | _ :: _, [], _ => by simp
  | k :: ks, v :: vs, f => by
    simp only [List.zip_cons_cons, List.map_cons]
    rw [zip_map_snd (ks := ks) (vs := vs) (f := f)]
theorem rep_zip_map {k : L2.Key} {v : V} {d : D} (r : Rep K R v d) : ∀ {ks : List L2.Key} {vs : List V} {ds : List D}, RepL K R vs ds → RepL K R ((ks.zip vs).map fun kv => if kv.1 = k then v else kv.2) ((ks.zip ds).map fun p => if p.1 = k then d else p.2)
  | [], _, _, _ => by simpa using RepL.nil
  | _ :: _, _, _, .nil => by simpa using RepL.nil
  | k0 :: ks, _, _, .cons r0 rr => by
    simp only [List.zip_cons_cons, List.map_cons]
    refine .cons ?_ (rep_zip_map r rr)
    by_cases e : k0 = k
    · simp only [e, if_true]; exact r
    · simp only [e, if_false]; exact r0
theorem put_rep {k : L2.Key} {v : V} {d : D} {ks : List L2.Key} {vs : List V} {ds : List D} (hl : ks.length = ds.length) (rr : RepL K R vs ds) (r : Rep K R v d) :
    (putKs ks k).length = (putDs ks ds k d).length ∧ ∃ ws, putK (ks.zip vs) k v = (putKs ks k).zip ws ∧ RepL K R ws (putDs ks ds k d) := by
  have lv := rr.len
  unfold putKs putDs putK
  rw [putK_any (hl.trans lv.symm)]
  by_cases h : hasK ks k = true
  · rw [if_pos h, if_pos h, if_pos h]
    refine ⟨by simp [hl], (ks.zip vs).map fun kv => if kv.1 = k then v else kv.2, ?_, rep_zip_map r rr⟩
    have e := zip_map_snd (ks := ks) (vs := vs) (f := fun a b => if a = k then v else b)
    rw [← e]
    refine List.map_congr_left fun p _ => ?_
    by_cases hp : p.1 = k
    · simp [hp]
    · simp [hp]
  · rw [if_neg h, if_neg h, if_neg h]
    refine ⟨by simp [hl], vs ++ [v], ?_, rr.app (.cons r .nil)⟩
    rw [List.zip_append (hl.trans lv.symm)]
    rfl
end
section
variable {K : PySem.W.Frag} {W : WX} {δ : DEnv} {ρ ρ' : SEnv} {l : Bool} {ta tb te ti : TE} {t u : TS} {a : TA} {d x y z : D} {ds es : List D} {ks : List L2.Key} {k : L2.Key} {i : Nat} {O : Out → Prop} {w : D}
theorem o_ixd (h : atK ks ds k = some d) : DO K (rIx' K) (.dct ks ds) (kD k) d := fun H R v u Q s rv ru q => by
  cases rv with
  | dct h1 h2 h3 =>
    obtain ⟨v, e, r⟩ := valV_rep h2 h3 h
    rw [rep_key ru]
    exact .inr (.inr (.inr ⟨_, v, rfl, e ▸ DGet.k (s _ _ h1), q v H R (Gr.refl s) r⟩))
theorem o_inK : DO K (rIn' K) (kD k) (.dct ks ds) (.bl (hasK ks k)) := fun H R v u Q s rv ru q => by
  cases ru with
  | dct h1 h2 h3 =>
    rw [rep_key rv]
    refine .inr (.inr (.inr ⟨_, _, rfl, DGet.k (s _ _ h1), ?_⟩))
    rw [valV_is (h2.trans h3.len.symm)]
    exact q _ H R (Gr.refl s) (.bl _)
theorem o_notinK : DO K (rNotIn' K) (kD k) (.dct ks ds) (.bl (!hasK ks k)) := fun H R v u Q s rv ru q => by
  cases ru with
  | dct h1 h2 h3 =>
    rw [rep_key rv]
    refine .inr (.inr (.inr ⟨_, _, rfl, DGet.k (s _ _ h1), ?_⟩))
    rw [valV_is (h2.trans h3.len.symm)]
    exact q _ H R (Gr.refl s) (.bl _)
/-- one sign in a text -/
theorem o_inS {c : Nat} {z : Str} : DO K (rIn' K) (.str ⟨#[c]⟩) (.str z) (.bl (decide (c ∈ z.cps.toList))) := fun H R v u Q s rv ru q => by
  cases rv; cases ru
  exact .inr (.inr (.inl ⟨c, z, rfl, rfl, q _ H R (Gr.refl s) (.bl _)⟩))
theorem o_notinS {c : Nat} {z : Str} : DO K (rNotIn' K) (.str ⟨#[c]⟩) (.str z) (.bl (!decide (c ∈ z.cps.toList))) := fun H R v u Q s rv ru q => by
  cases rv; cases ru
  exact .inr (.inr (.inl ⟨c, z, rfl, rfl, q _ H R (Gr.refl s) (.bl _)⟩))
/-- x.startswith(y) -/
def rStartswith : V → List V → Hp → VK → Prop := fun x xs H Q => ∃ a b, x = .str a ∧ xs = [.str b] ∧ Q (.bl (Txt.startswith a b)) H
theorem d_starts {x y : Str} (h1 : DE K δ te (.str x)) (h2 : DA K δ a [.str y]) : DE K δ (tBM K "str" rStartswith te a) (.bl (Txt.startswith x y)) := fun H R σ Q s e q =>
  h1 H R σ _ s e fun v H1 R1 g1 r1 => by
    cases r1
    refine ⟨rfl, h2 H1 R1 σ _ g1.i (e.mono g1.r) fun vs H2 R2 g2 r2 => ?_⟩
    obtain ⟨w, rfl, r⟩ := rep1 r2
    cases r
    exact ⟨x, y, rfl, rfl, q _ H2 R2 (g1.trans g2) (.bl _)⟩
/-- list(x): a list, a tuple, a dict -/
theorem dl_listA (h : DA K δ a [x]) (hx : x = .lst ds ∨ x = .tup ds) (hn : ds.length ≤ 10000000) : DL K δ (tCB (rListA K) a) ds := fun H R σ Q s e q =>
  h H R σ _ s e fun vs H1 R1 g1 r1 => by
    obtain ⟨v, rfl, r⟩ := rep1 r1
    have fin : ∀ xs : List V, RepL K R1 xs ds → ∀ l, H1 l = none → Q (.ref l) (upd H1 l (.lst xs)) := fun xs k2 p hp =>
      q p xs _ R1 (g1.trans (Gr.apart g1.i hp)) (g1.h.free hp) upd_same (g1.i.free hp) (small (by rw [k2.len]; exact hn)) k2
    rcases hx with rfl | rfl
    · cases r with
      | @lst a xs _ k1 k2 => exact .inl ⟨a, xs, rfl, .inl (rdS g1.i k1), fin xs k2⟩
    · cases r with
      | @tup a xs _ k1 k2 => exact .inl ⟨a, xs, rfl, .inr (sqT_same g1.i k1), fin xs k2⟩
theorem dl_listK (h : DA K δ a [.dct ks ds]) (hn : ks.length ≤ 10000000) : DL K δ (tCB (rListA K) a) (ks.map kD) := fun H R σ Q s e q =>
  h H R σ _ s e fun vs H1 R1 g1 r1 => by
    obtain ⟨v, rfl, r⟩ := rep1 r1
    cases r with
    | @dct a _ vs _ h1 h2 h3 =>
      refine .inr ⟨a, _, rfl, g1.i _ _ h1, fun p hp => ?_⟩
      have em : (ks.zip vs).map (fun kv => kV kv.1) = ks.map kV := by
        have e1 : (ks.zip vs).map (·.1) = ks := List.map_fst_zip (by rw [h3.len, h2]; exact Nat.le_refl _)
        conv => rhs; rw [← e1, List.map_map]
        rfl
      rw [em]
      exact q p _ _ R1 (g1.trans (Gr.apart g1.i hp)) (g1.h.free hp) upd_same (g1.i.free hp) (small (by rw [List.length_map]; exact hn)) keys_rep
/-- a new object -/
def DNw (K : PySem.W.Frag) (δ : DEnv) (te : TE) (u : D) : Prop := ∀ (H R : Hp) (σ : L2.St) (Q : VK), Same R H → EnvR K R σ δ → (∀ p x H' R', Gr H R H' R' → H p = none → H' p = some x → R' p = none → Top K R' x u → Q (.ref p) H') → te σ H Q
theorem DNw.de (h : DNw K δ te w) : DE K δ te w := fun H R σ Q s e q =>
  h H R σ Q s e fun p x H' R' g hp h1 h2 r => by
    have up : Same R' (upd R' p x) := fun b o e' => by rw [upd_ne (ne_of_none e' h2)]; exact e'
    have g2 : Gr H R H' (upd R' p x) := by
      refine ⟨g.h, g.r.trans up, fun b o e => ?_, fun a o e n => ?_⟩
      · by_cases hb : b = p
        · subst hb; rw [upd_same] at e; rw [h1]; exact e
        · rw [upd_ne hb] at e; exact g.i b o e
      · rw [upd_ne (ne_of_none e hp)]; exact g.o a o e n
    exact q (.ref p) H' _ g2 ((r.mono up).rep upd_same)
theorem DL.nw (h : DL K δ te ds) : DNw K δ te (.lst ds) := fun H R σ Q s e q => h H R σ Q s e fun p xs H' R' g hp h1 h2 _ r => q p (.lst xs) H' R' g hp h1 h2 r
theorem dn_dict0 : DNw K δ tDNewK (.dct [] []) := fun H R σ Q s e q p hp => q p (.dK []) _ R (Gr.apart s hp) hp upd_same (s.free hp) ⟨rfl, [], rfl, .nil⟩
theorem Top.conv {R R2 : Hp} {o : HO} (q : ∀ vs ds, (l = true → D.solL ds = true) → RepL K R vs ds → RepL K R2 vs ds) (hs : l = true → w.solT = true) (t : Top K R o w) : Top K R2 o w := by
  cases o <;> cases w <;> first
    | exact t.elim
    | exact q _ _ hs t
    | (obtain ⟨hl, vs, rfl, r⟩ := t; exact ⟨hl, vs, rfl, q _ _ hs r⟩)
    | (obtain ⟨a, xs, vs, e, t1, t2, t3, t4, t5⟩ := t; exact ⟨a, xs, vs, e, t1, t2, q _ _ (fun hl => by have := hs hl; simp [D.solT] at this; exact this.1) t3, t4, q _ _ (fun hl => by have := hs hl; simp [D.solT] at this; exact this.2) t5⟩)
    | (obtain ⟨rfl, hl, vs, rfl, r⟩ := t; exact ⟨rfl, hl, vs, rfl, q _ _ hs r⟩)
theorem x_setN (l : Bool) (h1 : DNw K (fz l ρ) te w) (hs : l = true → w.solT = true) : DS K W ρ (tAsg te (gName i)) (.nx (ρ.set i (.ow w))) := fun H0 R0 H σ E ⟨R, e⟩ k =>
  h1 H _ σ _ e.lendI e.env fun p x H1 R1 g hp h2 h3 t => by
    obtain ⟨e1, _, _, q, n, _⟩ := e.run g
    exact k _ H1 ⟨_, e1.setO h2 (n p h3) (e.h.free hp) (u := w) (t.conv q hs) fun j _ es g1 g2 => e.notOwn hp ⟨j, es, g1, g2⟩⟩
theorem q_setN (l : Bool) (h1 : DNw K (fz l ρ) te w) (hs : l = true → w.solT = true) (q : WP K W (ρ.set i (.ow w)) u O) : WP K W ρ (tSeq (tAsg te (gName i)) u) O := q_then (x_setN l h1 hs) q
theorem x_ownD {H0 R0 H : Hp} {σ : L2.St} {P : Prop} (h : ρ[i]? = some (.ow (.dct ks ds))) (e : EvS K H0 R0 H σ ρ) (f : ∀ p vs R, EvR K H0 R0 H R σ ρ → σ[i]? = some (some (.ref p)) → H p = some (.dK (ks.zip vs)) → ks.length = ds.length → RepL K R vs ds → P) : P := by
  obtain ⟨R, e⟩ := e
  obtain ⟨o, g1, p, xs, rfl, g2, g3, r⟩ := e.ok i _ h
  cases xs <;> first
    | exact r.elim
    | skip
  rename_i kvs
  obtain ⟨hl, vs, rfl, r⟩ := r
  exact f p vs R e g1 g2 hl r
/-- x[k] = e, x an owned dict -/
theorem x_dput (l : Bool) (h : ρ[i]? = some (.ow (.dct ks ds))) (h1 : DE K (fz l ρ) te d) (hs : l = true → d.sol = true) (h2 : DE K (fz l ρ) ti (kD k)) (hn : ks.length < 10000000) :
    DS K W ρ (tAsg te (gSub (tVar i) ti rSet')) (.nx (ρ.set i (.ow (.dct (putKs ks k) (putDs ks ds k d))))) := fun H0 R0 H σ E e q =>
  x_ownD h e fun p vs R e g1 g2 hl r => by
    refine h1 H _ σ _ e.lendI e.env fun v H1 R1 g r1 => ?_
    obtain ⟨e1, up, qq, _⟩ := e.run g
    refine ⟨.ref p, g1, h2 H1 _ σ _ e1.lendI e1.env fun w H2 R2 gg r2 => ?_⟩
    obtain ⟨e2, up2, _⟩ := e1.run gg
    have ew := rep_key r2
    subst ew
    have lz : (ks.zip vs).length < sizeLine := by
      rw [List.length_zip]
      have := smallL hn
      omega
    obtain ⟨hl2, ws, hw, rw2⟩ := put_rep (K := K) (k := k) (d := d) hl ((r.mono up).mono up2) ((qq v d hs r1).mono up2)
    exact .inr ⟨p, _, rfl, DPut.k (gg.h p _ (g.h p _ g2)) lz, q _ _ ⟨_, e2.put h g1 (w := .dct (putKs ks k) (putDs ks ds k d)) ⟨hl2, ws, hw, rw2⟩⟩⟩
theorem q_dput (l : Bool) (h : ρ[i]? = some (.ow (.dct ks ds))) (h1 : DE K (fz l ρ) te d) (hs : l = true → d.sol = true) (h2 : DE K (fz l ρ) ti (kD k)) (hn : ks.length < 10000000) (q : WP K W (ρ.set i (.ow (.dct (putKs ks k) (putDs ks ds k d)))) u O) :
    WP K W ρ (tSeq (tAsg te (gSub (tVar i) ti rSet')) u) O := q_then (x_dput l h h1 hs h2 hn) q
/-- {tk: tv for g in wi if tt}: f tells what each turn adds -/
def dcAcc (f : Nat → Option (L2.Key × D)) : Nat → List L2.Key × List D
  | 0 => ([], [])
  | n + 1 => match f n with
    | none => dcAcc f n
    | some (k, d) => (putKs (dcAcc f n).1 k, putDs (dcAcc f n).1 (dcAcc f n).2 k d)
theorem dcAcc_len (f : Nat → Option (L2.Key × D)) : ∀ n, (dcAcc f n).1.length = (dcAcc f n).2.length ∧ (dcAcc f n).1.length ≤ n
  | 0 => ⟨rfl, Nat.le_refl _⟩
  | n + 1 => by
    obtain ⟨h1, h2⟩ := dcAcc_len f n
    rw [dcAcc]
    cases f n with
    | none => exact ⟨h1, Nat.le_succ_of_le h2⟩
    | some p =>
      obtain ⟨k, d⟩ := p
      dsimp only
      unfold putKs putDs
      by_cases h : hasK (dcAcc f n).1 k = true
      · rw [if_pos h, if_pos h]
        exact ⟨by simp [h1], by omega⟩
      · rw [if_neg h, if_neg h]
        exact ⟨by simp [h1], by simp; omega⟩
theorem dc_it {J : It} {n : Nat} {M : Hp → Prop} {Y : Nat → Hp → V → Hp → Prop} (w : Walk J n M Y) {g : TG} {tt : TT} {tk tv : TE} {vs : List Nat} {σ : L2.St} {H1 : Hp} {D0 : Addr} {Qd : Hp → Prop} (Pv : Nat → Hp → Prop) (h0 : Pv 0 (upd H1 D0 (.dK []))) (hm : ∀ i H, i ≤ n → Pv i H → M H)
    (hs : ∀ i x H H', i < n → Pv i H → Y i H x H' → g x (wipe σ vs) H' fun σ2 H2 => wipe σ2 vs = wipe σ vs ∧ tt σ2 H2 fun b H3 =>
      if b = true then tk σ2 H3 fun y H4 => tv σ2 H4 fun z H5 => ∃ kvs k, y = kV k ∧ H5 D0 = some (.dK kvs) ∧ kvs.length < sizeLine ∧ Pv (i + 1) (upd H5 D0 (.dK (putK kvs k z))) else Pv (i + 1) H3) (hd : ∀ H, Pv n H → Qd H) :
    ∃ Wv : Nat → Nat → Hp → Prop, (∃ m, Wv 0 m (upd H1 D0 (.dK []))) ∧ ∀ i m H, Wv i m H →
      (J.stop i H ∧ Qd H) ∨ (J.go i H ∧ ∃ Nx : Hp → Prop, (∀ H', Nx H' → ∃ m', m' < m ∧ Wv (i + 1) m' H') ∧ ∀ x H', J.yld i H x H' → g x (wipe σ vs) H' fun σ2 H2 => wipe σ2 vs = wipe σ vs ∧ tt σ2 H2 fun b H3 =>
        if b = true then tk σ2 H3 fun y H4 => tv σ2 H4 fun z H5 => ∃ kvs k, y = kV k ∧ H5 D0 = some (.dK kvs) ∧ kvs.length < sizeLine ∧ Nx (upd H5 D0 (.dK (putK kvs k z))) else Nx H3) := by
  refine ⟨fun i m H => m = n - i ∧ i ≤ n ∧ Pv i H, ⟨n, by simp, Nat.zero_le _, h0⟩, ?_⟩
  rintro i m H ⟨rfl, hi, p⟩
  have hM := hm i H hi p
  by_cases hlt : i < n
  · refine .inr ⟨w.goes i H hlt hM, Pv (i + 1), fun H' p' => ⟨n - (i + 1), by omega, rfl, hlt, p'⟩, fun x H' y => ?_⟩
    exact hs i x H H' hlt p (w.yields i H x H' hlt hM y)
  · have e : i = n := by omega
    subst e
    exact .inl ⟨w.stops H hM, hd H p⟩
variable {wi : TI} {g : TG} {tt : TT} {tk tv : TE} {vs : List Nat} {xs : List D}
theorem dn_dc (hi : DI K δ wi xs) (f : Nat → Option (L2.Key × D)) (ps : Nat → List (Nat × D)) (hg : ∀ i d, xs[i]? = some d → DG K g d (ps i) ∧ ∀ p ∈ ps i, p.1 ∈ vs)
    (hs : ∀ i d, xs[i]? = some d → DT K (setsD (wipeD δ vs) (ps i)) tt (f i).isSome ∧ ∀ k y, f i = some (k, y) → DE K (setsD (wipeD δ vs) (ps i)) tk (kD k) ∧ DE K (setsD (wipeD δ vs) (ps i)) tv y) (hn : xs.length ≤ 10000000) {ks : List L2.Key} {ys : List D} (hy : (ks, ys) = dcAcc f xs.length) :
    DNw K δ (tDc wi g tt tk tv vs) (.dct ks ys) := fun H R σ Q s ev q => by
  refine hi H R σ _ s ev fun J H1 R1 g1 ⟨Y, hw, hyl⟩ L hL => ?_
  have rL : R1 L = none := g1.i.free hL
  have HL : H L = none := g1.h.free hL
  refine dc_it hw (fun i H2 => ∃ R2 acc, Gr H1 R1 H2 R2 ∧ R2 L = none ∧ H2 L = some (.dK ((dcAcc f i).1.zip acc)) ∧ RepL K R2 acc (dcAcc f i).2) ⟨R1, [], ⟨fun b o e => by rw [upd_ne (ne_of_none e hL)]; exact e, Same.refl _, fun b o e => by rw [upd_ne (ne_of_none e rL)]; exact g1.i b o e, fun _ _ _ n => n⟩, rL, upd_same, .nil⟩ ?_ ?_ ?_
  · rintro i H2 _ ⟨R2, acc, g2, _⟩
    exact g2.r.trans g2.i
  · rintro i x H2 H3 hi' ⟨R2, acc, g2, n2, a2, r2⟩ y
    obtain ⟨d, R3, hd, g3, r3⟩ := hyl i H2 R2 x H3 hi' g2.r g2.i y
    obtain ⟨hg1, hg2⟩ := hg i d hd
    have e3 : EnvR K R3 (L2.wipe σ vs) (wipeD δ vs) := (ev.mono ((g1.r.trans g2.r).trans g3.r)).wipe
    have n3 : R3 L = none := g3.o L _ a2 n2
    have a3 := g3.h _ _ a2
    refine hg1 H3 R3 _ x _ g3.i r3 fun us ru => ?_
    refine ⟨wipe_sets fun i' hi2 => ?_, ?_⟩
    · obtain ⟨p, hp, rfl⟩ := List.mem_map.mp hi2
      exact hg2 p hp
    obtain ⟨ht, he⟩ := hs i d hd
    refine ht H3 R3 _ _ g3.i (e3.sets ru) fun H4 R4 g4 => ?_
    have n4 : R4 L = none := g4.o L _ a3 n3
    have a4 := g4.h _ _ a3
    have r4 : RepL K R4 acc (dcAcc f i).2 := (r2.mono g3.r).mono g4.r
    have g14 : Gr H1 R1 H4 R4 := (g2.trans g3).trans g4
    cases hf : f i with
    | none =>
      have ed : dcAcc f (i + 1) = dcAcc f i := by
        rw [dcAcc, hf]
      refine if_ff ⟨R4, acc, g14, n4, ?_, ?_⟩
      · rw [ed]; exact a4
      · rw [ed]; exact r4
    | some z =>
      obtain ⟨k, z⟩ := z
      obtain ⟨he1, he2⟩ := he k z hf
      refine if_tt (he1 H4 R4 _ _ g4.i ((e3.sets ru).mono g4.r) fun w H5 R5 g5 r5 => he2 H5 R5 _ _ g5.i (((e3.sets ru).mono g4.r).mono g5.r) fun w2 H6 R6 g6 r6 => ?_)
      have g56 := g5.trans g6
      have n6 : R6 L = none := g56.o L _ a4 n4
      have a6 := g56.h _ _ a4
      have ew := rep_key r5
      subst ew
      obtain ⟨hl1, hl2⟩ := dcAcc_len f i
      obtain ⟨hl3, ws, hw2, rw2⟩ := put_rep (K := K) (k := k) hl1 (r4.mono g56.r) r6
      refine ⟨_, k, rfl, a6, ?_, R6, ws, (g14.trans g56).put hL n6, n6, ?_, ?_⟩
      · rw [List.length_zip]
        have : i < 10000000 := by omega
        have := smallL this
        omega
      · rw [hw2]
        have ed : dcAcc f (i + 1) = (putKs (dcAcc f i).1 k, putDs (dcAcc f i).1 (dcAcc f i).2 k z) := by
          rw [dcAcc, hf]
        rw [ed]
        exact upd_same
      · have ed : dcAcc f (i + 1) = (putKs (dcAcc f i).1 k, putDs (dcAcc f i).1 (dcAcc f i).2 k z) := by
          rw [dcAcc, hf]
        rw [ed]
        exact rw2
  · rintro H2 ⟨R2, acc, g2, n2, a2, r2⟩
    rw [← hy] at a2 r2
    have hl := (dcAcc_len f xs.length).1
    rw [← hy] at hl
    exact q L _ H2 R2 (g1.trans g2) HL a2 n2 ⟨hl, acc, rfl, r2⟩
end
end G

set_option Elab.async false
set_option linter.all false
set_option maxRecDepth 10000000
set_option maxHeartbeats 4000000
/-! Dnd: dicts with tuples as keys, as data. -/
namespace G
open PySem PySem.Spec PyProof.Rows L2
section
variable {K : PySem.W.Frag} {R H : Hp}
mutual
theorem rep_nis (s : Same R H) : ∀ (d : D) (v : V), d.nk = true → Rep K R v d → NIs K H v (nkD d)
  | .non, _, _, q => by cases q; exact .non
  | .int i, _, _, q => by cases q; exact .int i
  | .str x, _, _, q => by cases q; exact .str x
  | .tup ds, _, n, q => by
    cases q with
    | tup a b => exact .tup (sqT_same s a) (repL_nis s ds _ (by simpa [D.nk] using n) b)
  | .bl _, _, n, _ => by simp [D.nk] at n
  | .lst _, _, n, _ => by simp [D.nk] at n
  | .ins _ _ _, _, n, _ => by simp [D.nk] at n
  | .kl _, _, n, _ => by simp [D.nk] at n
  | .val _, _, n, _ => by simp [D.nk] at n
  | .dct _ _, _, n, _ => by simp [D.nk] at n
  | .ndc _ _ _, _, n, _ => by simp [D.nk] at n
theorem repL_nis (s : Same R H) : ∀ (ds : List D) (vs : List V), D.nkAll ds = true → RepL K R vs ds → NIsAll K H vs (nkL ds)
  | [], _, _, q => by cases q; exact .nil
  | d :: ds, _, n, q => by
    simp only [D.nkAll, Bool.and_eq_true] at n
    cases q with
    | cons a b => exact .cons (rep_nis s d _ n.1 a) (repL_nis s ds _ n.2 b)
end
theorem key_ok {k : D} (h : k.key = true) : k.nk = true ∧ (nkD k).depth ≤ 8 ∧ ∃ ds, k = .tup ds := by
  unfold D.key at h
  simp only [Bool.and_eq_true] at h
  refine ⟨h.1.1, of_decide_eq_true h.1.2, ?_⟩
  cases k with
  | tup ds => exact ⟨ds, rfl⟩
  | _ => exact absurd h.2 (by simp)
theorem rep_ref {k : D} {v : V} (h : k.key = true) (r : Rep K R v k) : ∃ b, v = .ref b := by
  obtain ⟨_, _, ds, rfl⟩ := key_ok h
  cases r with
  | tup a b => exact ⟨_, rfl⟩
theorem nkeys_of (s : Same R H) : ∀ {xs : List NEnt} {kds : List D}, xs.map (·.1) = kds.map nkD → (∀ d ∈ kds, d.key = true) → RepL K R (xs.map fun e => V.ref e.2.1) kds → NKeys K H xs
  | [], _, _, _, _ => fun e he => by cases he
  | x :: xs, [], h, _, _ => by cases h
  | x :: xs, k :: kds, h, hk, r => by
    simp only [List.map_cons, List.cons.injEq] at h
    rw [List.map_cons] at r
    cases r with
    | cons r0 rr =>
      intro e he
      rcases List.mem_cons.mp he with rfl | he
      · obtain ⟨n1, n2, _⟩ := key_ok (hk k List.mem_cons_self)
        rw [h.1]
        exact ⟨rep_nis s k _ n1 r0, n2⟩
      · exact nkeys_of s h.2 (fun d hd => hk d (List.mem_cons_of_mem _ hd)) rr e he
end
/-- the key is among them -/
def hasN (kds : List D) (k : D) : Bool := kds.any fun x => decide (nkD x = nkD k)
theorem atKey_has : ∀ {xs : List NEnt} {kds : List D} {k : D}, xs.map (·.1) = kds.map nkD → (atKey xs (nkD k)).isSome = hasN kds k
  | [], [], _, _ => rfl
  | x :: xs, [], _, h => by cases h
  | [], k :: kds, _, h => by cases h
  | x :: xs, k0 :: kds, k, h => by
    simp only [List.map_cons, List.cons.injEq] at h
    have ih := atKey_has (k := k) h.2
    unfold hasN at ih ⊢
    rw [List.any_cons, ← h.1]
    by_cases e : x.1 = nkD k
    · simp [atKey, e]
    · simp [atKey, e] at ih ⊢
      exact ih
section
variable {K : PySem.W.Frag} {W : WX} {w : World} {δ : DEnv} {ρ ρ' : SEnv} {l : Bool} {ta tb te ti tk tv : TE} {t u : TS} {a : TA} {d x y z k : D} {ds es kds : List D} {i : Nat} {O : Out → Prop}
theorem o_inN (hk : k.key = true) : DO K (rInN K w) k (.ndc w kds ds) (.bl (hasN kds k)) := fun H R v u Q s rv ru q => by
  obtain ⟨b, rfl⟩ := rep_ref hk rv
  obtain ⟨n1, n2, _⟩ := key_ok hk
  cases ru with
  | ndc a1 a2 a3 a4 a5 a6 =>
    refine ⟨_, _, _, b, nkD k, rfl, rfl, s _ _ a1, nkeys_of s a2 a3 a4, rep_nis s k _ n1 rv, n2, ?_⟩
    rw [atKey_has a2]
    exact q _ H R (Gr.refl s) (.bl _)
theorem o_notinN (hk : k.key = true) : DO K (rNotInN K w) k (.ndc w kds ds) (.bl (!hasN kds k)) := fun H R v u Q s rv ru q => by
  obtain ⟨b, rfl⟩ := rep_ref hk rv
  obtain ⟨n1, n2, _⟩ := key_ok hk
  cases ru with
  | ndc a1 a2 a3 a4 a5 a6 =>
    refine ⟨_, _, _, b, nkD k, rfl, rfl, s _ _ a1, nkeys_of s a2 a3 a4, rep_nis s k _ n1 rv, n2, ?_⟩
    rw [atKey_has a2]
    exact q _ H R (Gr.refl s) (.bl _)
/-- {k: v} -/
theorem dn_nd1 (h1 : DE K δ tk k) (h2 : DE K δ tv d) (hk : k.key = true) : DNw K δ (tND1 K w tk tv) (.ndc w [k] [d]) := fun H R σ Q s e q p hp => by
  have rp : R p = none := s.free hp
  have g0 := Gr.apart (u := ndO w p []) s hp
  refine h1 _ R σ _ g0.i e fun v H1 R1 g1 r1 => h2 H1 R1 σ _ g1.i (e.mono g1.r) fun v2 H2 R2 g2 r2 => ?_
  obtain ⟨b, rfl⟩ := rep_ref hk r1
  obtain ⟨n1, n2, _⟩ := key_ok hk
  have gg := g1.trans g2
  have hp2 : H2 p = some (ndO w p []) := gg.h _ _ upd_same
  have rp2 : R2 p = none := gg.o p _ upd_same rp
  refine ⟨hp2, b, nkD k, rfl, rep_nis (Same.trans g2.r g2.i) k _ n1 r1, n2, fun u ru => ?_⟩
  refine q p (ndO w p [(nkD k, b, u)]) _ R2 ((g0.trans gg).put hp rp2) hp upd_same rp2 ?_
  exact ⟨p, [(nkD k, b, u)], [v2], rfl, rfl, fun x hx => by rw [List.mem_singleton.mp hx]; exact hk, .cons (r1.mono g2.r) .nil, .cons ru .nil, .cons r2 .nil⟩
theorem x_ownN {H0 R0 H : Hp} {σ : L2.St} {P : Prop} (h : ρ[i]? = some (.ow (.ndc w kds ds))) (e : EvS K H0 R0 H σ ρ)
    (f : ∀ p a xs vs R, EvR K H0 R0 H R σ ρ → σ[i]? = some (some (.ref p)) → H p = some (ndO w a xs) → xs.map (·.1) = kds.map nkD → (∀ d ∈ kds, d.key = true) → RepL K R (xs.map fun e => V.ref e.2.1) kds → Vals vs (xs.map fun e => e.2.2) → RepL K R vs ds → P) : P := by
  obtain ⟨R, e⟩ := e
  obtain ⟨o, g1, p, x, rfl, g2, g3, r⟩ := e.ok i _ h
  cases x <;> first
    | exact r.elim
    | skip
  rename_i φ
  obtain ⟨a, xs, vs, e1, r1, r2, r3, r4, r5⟩ := r
  exact f p a xs vs R e g1 (e1 ▸ g2) r1 r2 r3 r4 r5
/-- x[k] = e, a key that is not there yet -/
theorem x_nput (l : Bool) (h : ρ[i]? = some (.ow (.ndc w kds ds))) (h1 : DE K (fz l ρ) te d) (hs : l = true → d.sol = true) (h2 : DE K (fz l ρ) ti k) (hks : l = true → k.sol = true) (hk : k.key = true) (hnew : hasN kds k = false) (hn : kds.length < 10000000) :
    DS K W ρ (tAsg te (gSub (tVar i) ti (rSetN K w))) (.nx (ρ.set i (.ow (.ndc w (kds ++ [k]) (ds ++ [d]))))) := fun H0 R0 H σ E e q =>
  x_ownN h e fun p a xs vs R e g1 g2 m1 m2 m3 m4 m5 => by
    refine h1 H _ σ _ e.lendI e.env fun v H1 R1 g r1 => ?_
    obtain ⟨e1, up, qq, _⟩ := e.run g
    refine ⟨.ref p, g1, h2 H1 _ σ _ e1.lendI e1.env fun w2 H2 R2 gg r2 => ?_⟩
    obtain ⟨e2, up2, qq2, _⟩ := e1.run gg
    have rk := qq2 _ _ hks r2
    obtain ⟨b, rfl⟩ := rep_ref hk rk
    obtain ⟨n1, n2, _⟩ := key_ok hk
    have s2 := e2.i
    have m3' := (m3.mono up).mono up2
    have lx : xs.length = kds.length := by have := congrArg List.length m1; simpa using this
    have hat : atKey xs (nkD k) = none := by
      have := atKey_has (k := k) m1
      rw [hnew] at this
      simpa using this
    refine ⟨p, a, xs, b, nkD k, rfl, rfl, gg.h p _ (g.h p _ g2), nkeys_of s2 m1 m2 m3', rep_nis s2 k _ n1 rk, n2, smallL (by rw [lx]; exact hn), fun u ru => ?_⟩
    rw [storedH_new hat]
    refine q _ _ ⟨_, e2.put h g1 (w := .ndc w (kds ++ [k]) (ds ++ [d])) (y := ndO w p (xs ++ [(nkD k, b, u)])) ?_⟩
    refine ⟨p, xs ++ [(nkD k, b, u)], vs ++ [v], rfl, by simp [m1], fun x hx => ?_, ?_, ?_, ((m5.mono up).mono up2).app (.cons ((qq v d hs r1).mono up2) .nil)⟩
    · rcases List.mem_append.mp hx with hx | hx
      · exact m2 x hx
      · rw [List.mem_singleton.mp hx]; exact hk
    · rw [List.map_append]
      exact m3'.app (.cons rk .nil)
    · rw [List.map_append]
      exact m4.append (.cons ru .nil)
theorem q_nput (l : Bool) (h : ρ[i]? = some (.ow (.ndc w kds ds))) (h1 : DE K (fz l ρ) te d) (hs : l = true → d.sol = true) (h2 : DE K (fz l ρ) ti k) (hks : l = true → k.sol = true) (hk : k.key = true) (hnew : hasN kds k = false) (hn : kds.length < 10000000)
    (q : WP K W (ρ.set i (.ow (.ndc w (kds ++ [k]) (ds ++ [d])))) u O) : WP K W ρ (tSeq (tAsg te (gSub (tVar i) ti (rSetN K w))) u) O := q_then (x_nput l h h1 hs h2 hks hk hnew hn) q
end
end G

set_option Elab.async false
set_option linter.all false
set_option maxRecDepth 10000000
set_option maxHeartbeats 4000000
/-! Dtx: texts: f-strings, join, isalpha, startswith from a place. -/
namespace G
open PySem PySem.Spec PyProof.Rows L2
def tJoin (ts : List TE) : TE := fun σ H Q => tJs ts Str.empty σ H fun out H1 => Q (.str out) H1
def rStarts3 : V → List V → Hp → VK → Prop := fun x xs H Q => ∃ (a b : Str) (i : Int), x = .str a ∧ xs = [.str b, .int i] ∧ Q (.bl (Txt.startswith3 a b i)) H
def rIsalpha : V → List V → Hp → VK → Prop := fun x xs H Q => ∃ a, x = .str a ∧ xs = [] ∧ True ∧ Q (.bl (Txt.isalpha a)) H
def rJoin (K : PySem.W.Frag) : V → List V → Hp → VK → Prop := fun x xs H Q => ∃ a p, ∃ ys : List Str, x = .str a ∧ xs = [.ref p] ∧ (SqL K H p (ys.map V.str) ∨ SqT K H p (ys.map V.str)) ∧ (ys.map (·.length)).sum + ys.length * a.length ≤ 16777216 ∧ Q (.str (Txt.join a ys)) H
section
variable {K : PySem.W.Frag} {δ : DEnv} {te : TE} {a : TA} {ts : List TE}
theorem d_fmt {z : Str} (h : DE K δ te (.str z)) (hn : z.length ≤ sizeLine) : DE K δ (tFmt te) (.str z) := fun H R σ Q s e q => h H R σ _ s e fun v H1 R1 g r => by
  cases r
  exact .inl ⟨z, rfl, hn, q _ H1 R1 g (.str z)⟩
/-- the parts of an f-string -/
inductive DJs (K : PySem.W.Frag) (δ : DEnv) : List TE → List Str → Prop
  | nil : DJs K δ [] []
  | cons {t : TE} {ts : List TE} {y : Str} {ys : List Str} : DE K δ t (.str y) → DJs K δ ts ys → DJs K δ (t :: ts) (y :: ys)
def cat : Str → List Str → Str
  | acc, [] => acc
  | acc, y :: ys => cat (acc ++ y) ys
theorem cat_len : ∀ (ys : List Str) (acc : Str), acc.length ≤ (cat acc ys).length
  | [], acc => Nat.le_refl _
  | y :: ys, acc => by
    refine Nat.le_trans ?_ (cat_len ys (acc ++ y))
    show acc.cps.size ≤ (acc.cps ++ y.cps).size
    rw [Array.size_append]
    omega
theorem djs_run : ∀ {ts : List TE} {ys : List Str}, DJs K δ ts ys → ∀ (acc : Str) (H R : Hp) (σ : L2.St) (Q : Str → Hp → Prop), (cat acc ys).length ≤ sizeLine → Same R H → EnvR K R σ δ → (∀ H' R', Gr H R H' R' → Q (cat acc ys) H') → tJs ts acc σ H Q
  | _, _, .nil, acc, H, R, σ, Q, hn, s, e, q => q H R (Gr.refl s)
  | _, _, .cons h t, acc, H, R, σ, Q, hn, s, e, q => h H R σ _ s e fun v H1 R1 g r => by
    cases r
    rename_i ts y ys
    exact ⟨_, rfl, Nat.le_trans (cat_len _ _) hn, djs_run t _ H1 R1 σ Q hn g.i (e.mono g.r) fun H' R' g' => q H' R' (g.trans g')⟩
theorem d_joined {ys : List Str} (h : DJs K δ ts ys) (hn : (cat Str.empty ys).length ≤ sizeLine) : DE K δ (tJoin ts) (.str (cat Str.empty ys)) := fun H R σ Q s e q =>
  djs_run h Str.empty H R σ _ hn s e fun H' R' g => q _ H' R' g (.str _)
theorem d_isalpha {z : Str} (h : DE K δ te (.str z)) : DE K δ (tBM0 K "str" rIsalpha te) (.bl (Txt.isalpha z)) := fun H R σ Q s e q => h H R σ _ s e fun v H1 R1 g r => by
  cases r
  exact ⟨rfl, z, rfl, rfl, trivial, q _ H1 R1 g (.bl _)⟩
theorem d_starts3 {x y : Str} {i : Int} (h1 : DE K δ te (.str x)) (h2 : DA K δ a [.str y, .int i]) : DE K δ (tBM K "str" rStarts3 te a) (.bl (Txt.startswith3 x y i)) := fun H R σ Q s e q =>
  h1 H R σ _ s e fun v H1 R1 g1 r1 => by
    cases r1
    refine ⟨rfl, h2 H1 R1 σ _ g1.i (e.mono g1.r) fun vs H2 R2 g2 r2 => ?_⟩
    obtain ⟨w, u, rfl, r, r'⟩ := rep2 r2
    cases r; cases r'
    exact ⟨x, y, i, rfl, rfl, q _ H2 R2 (g1.trans g2) (.bl _)⟩
theorem isAlpha_ascii : ∀ c, c < 128 → Unicode.isAlpha c = (decide (65 ≤ c ∧ c ≤ 90) || decide (97 ≤ c ∧ c ≤ 122)) := by decide +kernel
theorem rep_strs {R : Hp} : ∀ {ys : List Str} {vs : List V}, RepL K R vs (ys.map D.str) → vs = ys.map V.str
  | [], _, r => by cases r; rfl
  | y :: ys, _, r => by
    cases r with
    | cons a b =>
      cases a
      rw [rep_strs b]; rfl
theorem d_join {z : Str} {ys : List Str} (h1 : DE K δ te (.str z)) (h2 : DA K δ a [.lst (ys.map D.str)]) (hn : (ys.map (·.length)).sum + ys.length * z.length ≤ 16777216) : DE K δ (tBM K "str" (rJoin K) te a) (.str (Txt.join z ys)) := fun H R σ Q s e q =>
  h1 H R σ _ s e fun v H1 R1 g1 r1 => by
    cases r1
    refine ⟨rfl, h2 H1 R1 σ _ g1.i (e.mono g1.r) fun vs H2 R2 g2 r2 => ?_⟩
    obtain ⟨w, rfl, r⟩ := rep1 r2
    cases r with
    | @lst p xs _ k1 k2 =>
      have e2 := rep_strs k2
      subst e2
      exact ⟨z, p, ys, rfl, rfl, .inl (rdS g2.i k1), hn, q _ H2 R2 (g1.trans g2) (.str _)⟩
end
end G

set_option Elab.async false
set_option linter.all false
set_option maxRecDepth 100000
set_option maxHeartbeats 4000000
namespace L2
open PySem PySem.Spec PyProof.Rows PySem.W PySem.Calls
theorem dpAll_each {X : Cx} {pins : List (Addr × Obj)} {σ : St} {H : Hp} {s : Shared} (I : Inv X pins σ H s) : ∀ (bs : List (V × PyData)) (us : List Value), DpAll X.K H (bs.map (·.1)) (bs.map (·.2)) → Vals (bs.map (·.1)) us →
    EachIs (fun v (b : V × PyData) => RelV b.1 v) us bs ∧ EachIs (fun v (b : V × PyData) => ∃ as, Reads s.heap v b.2 as) us bs
  | [], _, _, r => by
    cases r
    exact ⟨.nil, .nil⟩
  | b :: bs, _, h, r => by
    rw [List.map_cons, List.map_cons] at h
    rw [List.map_cons] at r
    cases h with
    | cons h1 h2 =>
      cases r with
      | cons r1 r2 =>
        obtain ⟨q1, q2⟩ := dpAll_each I bs _ h2 r2
        exact ⟨.cons r1 q1, .cons (Dp.reads I _ _ _ h1 r1) q2⟩
theorem each_vals {bs : List (V × PyData)} {us : List Value} (e : EachIs (fun v (b : V × PyData) => RelV b.1 v) us bs) : Vals (bs.map (·.1)) us := by
  induction e with
  | nil => exact .nil
  | cons h _ ih => exact .cons h ih
/-- sorted(xs): xs a list that reads as data (alike, sortable) -/
def rSortD (K : PySem.W.Frag) : List V → Hp → VK → Prop := fun vs H Q => ∃ (a : Addr) (bs : List (V × PyData)), vs = [V.ref a] ∧ SqL K H a (bs.map (·.1)) ∧ DpAll K H (bs.map (·.1)) (bs.map (·.2)) ∧ AllAlike (bs.map (·.2)) ∧ Sortable (bs.map (·.2)) ∧ (∀ b ∈ bs, b.2.depth ≤ 32) ∧
  ∀ p, H p = none → Q (.ref p) (upd H p (.lst ((bs.mergeSort (dataLe false (·.2))).map (·.1))))
section
variable {X : Cx}
theorem cr_sortD (hu : X.A.units + 64 < cLine) : CallR X (.builtin "sorted") (rSortD X.K) := by
  intro pins s σ H vs us Q I r h
  obtain ⟨a, bs, rfl, hs, hd, hal, hk, hdep, q⟩ := h
  obtain ⟨its, rv, hl, hz⟩ := I.list hs
  obtain ⟨u, rfl, ru⟩ := vals1 r
  obtain rfl : u = Value.ref a := ru
  obtain ⟨e1, e2⟩ := dpAll_each I bs its hd rv
  refine sorted_data (enc := fun b : V × PyData => b.2) hl.isList e1 e2 hal hk (by rw [List.length_map] at hz; exact hz) (fun b hb => by have := hdep b hb; omega) fun out ho hE => ?_
  obtain ⟨ep, he'⟩ := PyProof.Rows.sortedAll_at s.heap its (List.toArray out)
  have hlen : ((bs.mergeSort (dataLe false (·.2))).map (·.1)).length ≤ sizeLine := by
    rw [List.length_map, List.length_mergeSort]
    rw [List.length_map] at hz
    exact hz
  exact ⟨.ref _, upd H (s.heap.objs.size + 1) (.lst _), I.laid (t' := s.toks) (fun _ _ => PyProof.Rows.sortedAll_old) (Nat.le_succ _) ⟨hlen, _, ep, each_vals hE, he'⟩, rfl, q _ (I.hok.fresh (Nat.le_succ _))⟩
end
end L2

set_option Elab.async false
set_option linter.all false
set_option maxRecDepth 100000
set_option maxHeartbeats 4000000
namespace G
open PySem PySem.Spec PyProof.Rows L2 L2 PySem.W PySem.Calls
mutual
/-- plain data as the sorts read them -/
def encD : D → PyData
  | .non => .none
  | .bl b => .bool b
  | .int i => .int i
  | .str x => .str x
  | .tup ds => .tuple (encL ds)
  | .lst ds => .list (encL ds)
  | _ => .none
def encL : List D → List PyData
  | [] => []
  | d :: ds => encD d :: encL ds
end
mutual
def D.pl : D → Bool
  | .non => true
  | .bl _ => true
  | .int _ => true
  | .str _ => true
  | .tup ds => plL ds
  | .lst ds => plL ds
  | _ => false
def plL : List D → Bool
  | [] => true
  | d :: ds => d.pl && plL ds
end
section
variable {K : PySem.W.Frag} {R : Hp}
mutual
theorem rep_dp : ∀ (d : D) (v : V), Rep K R v d → d.pl = true → Dp K R v (encD d)
  | .non, _, h, _ => by cases h; rw [encD]; exact .non
  | .bl b, _, h, _ => by cases h; rw [encD]; exact .bl b
  | .int i, _, h, _ => by cases h; rw [encD]; exact .int i
  | .str x, _, h, _ => by cases h; rw [encD]; exact .str x
  | .tup ds, _, h, p => by
    rw [D.pl] at p
    cases h with
    | tup h1 h2 => rw [encD]; exact .tup h1 (repL_dp ds _ h2 p)
  | .lst ds, _, h, p => by
    rw [D.pl] at p
    cases h with
    | lst h1 h2 => rw [encD]; exact .lst (.inl h1) (repL_dp ds _ h2 p)
  | .ins _ _ _, _, _, p => by simp [D.pl] at p
  | .kl _, _, _, p => by simp [D.pl] at p
  | .val _, _, _, p => by simp [D.pl] at p
  | .dct _ _, _, _, p => by simp [D.pl] at p
  | .ndc _ _ _, _, _, p => by simp [D.pl] at p
theorem repL_dp : ∀ (ds : List D) (vs : List V), RepL K R vs ds → plL ds = true → DpAll K R vs (encL ds)
  | [], _, h, _ => by cases h; rw [encL]; exact .nil
  | d :: ds, _, h, p => by
    rw [plL, Bool.and_eq_true] at p
    cases h with
    | cons h1 h2 => rw [encL]; exact .cons (rep_dp d _ h1 p.1) (repL_dp ds _ h2 p.2)
end
theorem encL_map : ∀ ds : List D, encL ds = ds.map encD
  | [] => by rw [encL]; rfl
  | d :: ds => by rw [encL, encL_map ds]; rfl
theorem repL_zip : ∀ {xs : List V} {ds : List D}, RepL K R xs ds → (xs.zip ds).map (·.1) = xs ∧ (xs.zip ds).map (·.2) = ds ∧ ∀ c ∈ xs.zip ds, Rep K R c.1 c.2
  | _, _, .nil => ⟨rfl, rfl, fun _ h => by cases h⟩
  | _, _, .cons h t => by
    obtain ⟨e1, e2, e3⟩ := repL_zip t
    refine ⟨by simp [e1], by simp [e2], fun c hc => ?_⟩
    rw [List.zip_cons_cons] at hc
    rcases List.mem_cons.mp hc with rfl | hc
    · exact h
    · exact e3 c hc
theorem repL_of_zip : ∀ (cs : List (V × D)), (∀ c ∈ cs, Rep K R c.1 c.2) → RepL K R (cs.map (·.1)) (cs.map (·.2))
  | [], _ => .nil
  | c :: cs, h => .cons (h c List.mem_cons_self) (repL_of_zip cs fun c' m => h c' (List.mem_cons_of_mem _ m))
theorem dpAll_of : ∀ (cs : List (V × D)), (∀ c ∈ cs, Rep K R c.1 c.2 ∧ c.2.pl = true) → DpAll K R (cs.map (·.1)) (cs.map fun c => encD c.2)
  | [], _ => .nil
  | c :: cs, h => .cons (rep_dp _ _ (h c List.mem_cons_self).1 (h c List.mem_cons_self).2) (dpAll_of cs fun c' m => h c' (List.mem_cons_of_mem _ m))
end
section
variable {K : PySem.W.Frag} {δ : DEnv} {a : TA} {ds es : List D}
/-- sorted(xs), xs a list of plain data, alike -/
theorem dl_sorted (h : DA K δ a [.lst ds]) (hp : ∀ d ∈ ds, d.pl = true) (hal : AllAlike (ds.map encD)) (hk : Sortable (ds.map encD)) (hdep : ∀ d ∈ ds, (encD d).depth ≤ 32) (hn : ds.length ≤ 10000000) (hr : ds.mergeSort (dataLe false encD) = es) : DL K δ (tCB (rSortD K) a) es := fun H R σ Q s e q =>
  h H R σ _ s e fun vs H1 R1 g1 r1 => by
    obtain ⟨v, rfl, r⟩ := rep1 r1
    cases r with
    | @lst a xs _ k1 k2 =>
      obtain ⟨z1, z2, z3⟩ := repL_zip k2
      have m1 : ((xs.zip ds).map fun c => (c.1, encD c.2)).map (·.1) = xs := by rw [List.map_map]; exact z1
      have m2 : ((xs.zip ds).map fun c => (c.1, encD c.2)).map (·.2) = ds.map encD := by
        rw [List.map_map]
        conv => rhs; rw [← z2, List.map_map]
        rfl
      have s1 : (((xs.zip ds).map fun c => (c.1, encD c.2)).mergeSort (dataLe false (·.2))) = ((xs.zip ds).mergeSort (dataLe false fun c => encD c.2)).map fun c => (c.1, encD c.2) :=
        (List.map_mergeSort (f := fun c : V × D => (c.1, encD c.2)) (s := dataLe false (·.2)) (r := dataLe false fun c => encD c.2) (fun _ _ _ _ => rfl)).symm
      have s2 : ((xs.zip ds).mergeSort (dataLe false fun c => encD c.2)).map (·.2) = ds.mergeSort (dataLe false encD) := by
        rw [List.map_mergeSort (f := fun c : V × D => c.2) (r := dataLe false fun c => encD c.2) (s := dataLe false encD) (fun _ _ _ _ => rfl), z2]
      have hx : ∀ c ∈ (xs.zip ds).mergeSort (dataLe false fun c => encD c.2), Rep K R1 c.1 c.2 := fun c hc => z3 c (List.mem_mergeSort.mp hc)
      refine ⟨a, (xs.zip ds).map fun c => (c.1, encD c.2), rfl, by rw [m1]; exact rdS g1.i k1, ?_, by rw [m2]; exact hal, by rw [m2]; exact hk, ?_, fun p hp' => ?_⟩
      · have k3 : RepL K H1 xs ds := k2.mono g1.i
        obtain ⟨y1, y2, y3⟩ := repL_zip k3
        rw [m1, m2]
        have := dpAll_of (K := K) (R := H1) (xs.zip ds) fun c hc => ⟨y3 c hc, hp _ (by rw [← z2]; exact List.mem_map_of_mem hc)⟩
        have e2 : ((xs.zip ds).map fun c => encD c.2) = ds.map encD := by
          conv => rhs; rw [← z2, List.map_map]
          rfl
        rw [z1, e2] at this
        exact this
      · intro b hb
        obtain ⟨c, hc, rfl⟩ := List.mem_map.mp hb
        exact hdep _ (by rw [← z2]; exact List.mem_map_of_mem hc)
      · rw [s1, List.map_map]
        have hrep := repL_of_zip (K := K) (R := R1) _ hx
        rw [s2, hr] at hrep
        refine q p _ _ R1 (g1.trans (Gr.apart g1.i hp')) (g1.h.free hp') upd_same (g1.i.free hp') (small ?_) hrep
        have := hrep.len
        rw [List.length_map] at this
        rw [List.length_map, this, ← hr, List.length_mergeSort]
        exact hn
end
end G

set_option Elab.async false
set_option linter.all false
set_option maxRecDepth 100000
set_option maxHeartbeats 4000000
/-! Ksrt: sorted(xs, key=f), f a def of the program, any length. -/
namespace L2
open PySem PySem.Spec PyProof.Rows PySem.W PySem.Calls
mutual
theorem Dp.up {K : PySem.W.Frag} {H H' : Hp} (e : ∀ b o, H b = some o → H' b = some o) : ∀ (d : PyData) (v : V), Dp K H v d → Dp K H' v d
  | .none, _, h => by cases h; exact .non
  | .bool b, _, h => by cases h; exact .bl b
  | .int i, _, h => by cases h; exact .int i
  | .str x, _, h => by cases h; exact .str x
  | .list ds, _, h => by
    cases h with
    | lst h1 h2 => exact .lst (h1.elim (fun q => .inl (q.elim (fun z => .inl (e _ _ z)) fun ⟨o, z⟩ => .inr ⟨o, e _ _ z⟩)) .inr) (DpAll.up e ds _ h2)
  | .tuple ds, _, h => by
    cases h with
    | tup h1 h2 => exact .tup (h1.elim (fun q => .inl (q.elim (fun z => .inl (e _ _ z)) fun ⟨o, z⟩ => .inr ⟨o, e _ _ z⟩)) .inr) (DpAll.up e ds _ h2)
  | .dict _, _, h => by cases h
theorem DpAll.up {K : PySem.W.Frag} {H H' : Hp} (e : ∀ b o, H b = some o → H' b = some o) : ∀ (ds : List PyData) (vs : List V), DpAll K H vs ds → DpAll K H' vs ds
  | [], _, h => by cases h; exact .nil
  | d :: ds, _, h => by
    cases h with
    | cons h1 h2 => exact .cons (Dp.up e d _ h1) (DpAll.up e ds _ h2)
end
/-- objects that were not there at the start may change freely -/
theorem Un.but {fs : List Addr} {H H' : Hp} {h g g' : Heap} (U : Un fs [] H H' h g) (P : Addr → Prop) (hP : ∀ b o, h.get? b = some o → ¬ P b) (k : ∀ b o, ¬ P b → g.get? b = some o → g'.get? b = some o) : Un fs [] H H' h g' where
  keep := fun b o q n nf nx => k b o (hP b o q) (U.keep b o q n nf nx)
  slot := fun b o q n nf nx => by
    obtain ⟨sl, z⟩ := U.slot b o q n nf nx
    exact ⟨sl, k b _ (hP b o q) z⟩
  free := U.free
  there := fun b o q nx => by
    obtain ⟨o', z⟩ := U.there b o q nx
    exact ⟨o', k b _ (hP b o q) z⟩
  tups := U.tups
  frzs := U.frzs
  tbls := U.tbls
theorem HOk.but {P : Program} {w : World} {H : Hp} {g g' : Heap} (ok : HOk P w H g) (Pr : Addr → Prop) (hP : ∀ b, Pr b → H b = none) (k : ∀ b o, ¬ Pr b → g.get? b = some o → g'.get? b = some o) : HOk P w H g' := fun b u e =>
  (ok b u e).stay (fun c v hc q => k c v (fun z => by
    have hn := hP c z
    rcases hc with rfl | hc
    · rw [hn] at e; cases e
    · rw [hn] at hc; cases hc) q) (fun _ q => q) fun _ _ q => q
theorem Un.add {fs : List Addr} {H H' : Hp} {h g : Heap} {a : Addr} {u : HO} (U : Un fs [] H H' h g) (ha : h.get? a = none) (hn : H a = none) : Un fs [] H (upd H' a u) h g where
  keep := U.keep
  slot := U.slot
  free := fun b o q n nx => by
    rw [upd_ne (fun z => by subst z; rw [ha] at q; cases q)]
    exact U.free b o q n nx
  there := U.there
  tups := fun b xs q => by rw [upd_ne (ne_of_none q hn)]; exact U.tups b xs q
  frzs := fun b o x q => by rw [upd_ne (ne_of_none q hn)]; exact U.frzs b o x q
  tbls := fun b ps q => by rw [upd_ne (ne_of_none q hn)]; exact U.tbls b ps q
theorem HOk.add {P : Program} {w : World} {H : Hp} {g : Heap} {a : Addr} {u : HO} (ok : HOk P w H g) (hn : H a = none) (new : ObjOk P w (upd H a u) g a u) : HOk P w (upd H a u) g := fun b x e => by
  by_cases hb : b = a
  · subst hb
    rw [upd_same] at e
    cases e
    exact new
  · rw [upd_ne hb] at e
    exact (ok b x e).stay (fun _ _ _ q => q) (fun c q => by rw [upd_ne (ne_of_none q hn)]; exact q) fun c xs q => by rw [upd_ne (ne_of_none q hn)]; exact q
/-- what the key's call does: what is tracked stays, the result reads as the key -/
def KeyTurn (X : Cx) (pins : List (Addr × Obj)) (σ : St) (H : Hp) (f : Value) (x : V) (k : PyData) : Prop :=
  ∀ (s : Shared) (H1 : Hp) (v : Value), Inv X pins σ H1 s → (∀ b o, H b = some o → H1 b = some o) → RelV x v →
    wpAny (model X.prog X.w) X.A.in1.in1 (call f [v]) (CE X.stack X.prog X.w H1 s fun y H2 => (∀ b o, H1 b = some o → H2 b = some o) ∧ Dp X.K H2 y k) (fun _ _ => False) s
/-- the state while the keys are made -/
structure KSt (X : Cx) (pins : List (Addr × Obj)) (σ : St) (H : Hp) (s : Shared) (a kS : Addr) (e1 : Nat) (kz : List PyData) (s' : Shared) : Prop where
  ex : ∃ (H' : Hp) (ys : List V) (us : List Value) (n : Nat), s'.os = s.os ∧ AllBare s'.gens ∧ Un (frs X.stack) [] H H' s.heap s'.heap ∧ HOk X.prog X.w H' s'.heap ∧ (∀ b o, H b = some o → H' b = some o) ∧ H' a = none ∧ H' kS = none ∧
    s'.heap.get? a = some (seqObj "list" #[] e1) ∧ s'.heap.get? kS = some (seqObj "list" us.toArray n) ∧ Vals ys us ∧ DpAll X.K H' ys kz
theorem dpAll_app {K : PySem.W.Frag} {H : Hp} : ∀ {vs ws : List V} {ds es : List PyData}, DpAll K H vs ds → DpAll K H ws es → DpAll K H (vs ++ ws) (ds ++ es)
  | _, _, _, _, .nil, s => s
  | _, _, _, _, .cons r t, s => .cons r (dpAll_app t s)
theorem dpAll_len {K : PySem.W.Frag} {H : Hp} : ∀ {vs : List V} {ds : List PyData}, DpAll K H vs ds → vs.length = ds.length
  | _, _, .nil => rfl
  | _, _, .cons r t => by rw [List.length_cons, List.length_cons, dpAll_len t]
section
variable {X : Cx} {pins : List (Addr × Obj)} {σ : St} {H : Hp} {s : Shared} {a kS : Addr}
/-- the invariant's own words at a state with other objects -/
theorem Inv.of_un {H' : Hp} {s' : Shared} (I : Inv X pins σ H s) (ho : s'.os = s.os) (hb : AllBare s'.gens) (U : Un (frs X.stack) [] H H' s.heap s'.heap) (ok : HOk X.prog X.w H' s'.heap) : Inv X pins σ H' s' := by
  obtain ⟨h', g', d', t', o'⟩ := s'
  have e : o' = s.os := ho
  subst e
  exact I.call (h' := h') (g' := g') (d' := d') (t' := t') (ch := []) U ok hb (fun b z => absurd z (by simp))
theorem keys_run {f : Value} {b : Bool} {e1 : Nat} {P : PySem.Fin → Shared → Prop} {E : Value → Shared → Prop} {bs : List (V × PyData)} {vs : List Value} {s0 : Shared} (I : Inv X pins σ H s) (ha : s.heap.get? a = none) (hk : s.heap.get? kS = none) (hn1 : H a = none) (hn2 : H kS = none) (hak : kS ≠ a)
    (rv : Vals (bs.map (·.1)) vs) (hz : vs.length ≤ sizeLine) (hal : AllAlike (bs.map (·.2))) (hsk : Sortable (bs.map (·.2))) (hdep : ∀ c ∈ bs, c.2.depth ≤ 32) (hu : X.A.units + 64 < cLine)
    (st : KSt X pins σ H s a kS e1 [] s0) (turn : ∀ c ∈ bs, KeyTurn X pins σ H f c.1 c.2)
    (done : ∀ s' H', Inv X pins σ H' s' → CE X.stack X.prog X.w H s (fun v H2 => v = .ref a ∧ (∀ c o, H c = some o → H2 c = some o) ∧ H2 a = some (.lst ((bs.mergeSort (dataLe b (·.2))).map (·.1)))) (.ref a) s' → P (.done (.ret .none)) s') :
    wpAny (model X.prog X.w) X.A.in1.in1 (ksk_rest a f b vs.toArray e1 (.ref kS)) P E s0 := by
  have nfr : ∀ c, s.heap.get? c = none → c ∉ frs X.stack := fun c hc hm => by
    obtain ⟨_, o, ho, _⟩ := Heap.FunFrames.mem I.stack hm
    rw [hc] at ho; cases ho
  unfold ksk_rest
  refine wpAny_bind (wpAny_rule ?_)
  rw [List.forIn_toArray]
  have lv : bs.length = vs.length := by
    have := rv.length
    rw [List.length_map] at this
    exact this
  refine wpAny_bind (ksk_fold (fun i s' => KSt X pins σ H s a kS e1 ((bs.map (·.2)).take i) s') vs 0 s0 (by rw [List.take_zero]; exact st) ?step ?fin)
  case step =>
    intro j x s' hx hJ
    rw [Nat.zero_add] at hJ ⊢
    obtain ⟨H1, ys, us, n, o1, b1, U1, ok1, up1, na, nk, ga, gk, r1, d1⟩ := hJ.ex
    have hj : j < vs.length := (List.getElem?_eq_some_iff.mp hx).1
    have hjb : j < bs.length := by omega
    have hbj : bs[j]? = some bs[j] := List.getElem?_eq_getElem hjb
    have hr : RelV bs[j].1 x := by
      obtain ⟨u, h1, h2⟩ := rv.get (i := j) (x := bs[j].1) (by rw [List.getElem?_map, hbj]; rfl)
      rw [hx] at h1
      cases h1
      exact h2
    have I1 := I.of_un o1 b1 U1 ok1
    have hlen : us.length ≤ vs.length := by
      rw [← r1.length, dpAll_len d1, List.length_take, List.length_map]
      omega
    refine wpAny_bind (wpAny_attempt (wpAny_mono (turn bs[j] (List.getElem_mem hjb) s' H1 x I1 up1 hr) (fun k s2 hk2 => ?_) fun _ _ z => z.elim))
    obtain ⟨y, H2, o2, b2, U2, ok2, ry, up2, dy⟩ := hk2
    try dsimp only
    have ga2 : s2.heap.get? a = some (seqObj "list" #[] e1) := U2.keep _ _ ga na (nfr a ha) (by simp)
    have gk2 : s2.heap.get? kS = some (seqObj "list" us.toArray n) := U2.keep _ _ gk nk (nfr kS hk) (by simp)
    have na2 : H2 a = none := U2.free _ _ ga na (by simp)
    have nk2 : H2 kS = none := U2.free _ _ gk nk (by simp)
    refine wpAny_bind (listUpdate_at gk2 rfl ?_ (by rw [List.size_toArray]; omega) (by rw [Array.size_push, List.size_toArray]; omega))
    have sb := Heap.SameBut.update s2.heap kS (Obj.mapSeq (·.push k))
    have kk : ∀ c o, ¬ (c = kS) → s2.heap.get? c = some o → (s2.heap.update kS (Obj.mapSeq (·.push k))).get? c = some o := fun c o hc q => (sb.2 c hc).trans q
    obtain ⟨n2, gk3⟩ : ∃ n2, (s2.heap.update kS (Obj.mapSeq (·.push k))).get? kS = some (seqObj "list" (us.toArray.push k) n2) := ⟨_, get?_update_seq gk2 (·.push k)⟩
    refine wpAny_pure ⟨rfl, ⟨H2, ys ++ [y], us ++ [k], n2, o2.trans o1, b2, (U1.trans U2).but (fun c => c = kS) (fun c o q z => by rw [z, hk] at q; cases q) kk, ok2.but (fun c => c = kS) (fun c z => z ▸ nk2) kk, fun c o q => up2 _ _ (up1 _ _ q), na2, nk2, kk _ _ hak.symm ga2, ?_, r1.append (.cons ry .nil), ?_⟩⟩
    · show (s2.heap.update kS (Obj.mapSeq (·.push k))).get? kS = _
      rw [gk3]
      simp
    · have et : (bs.map (·.2)).take (j + 1) = (bs.map (·.2)).take j ++ [bs[j].2] := by
        rw [List.take_add_one, List.getElem?_map, hbj]
        rfl
      show DpAll X.K H2 (ys ++ [y]) ((bs.map (·.2)).take (j + 1))
      rw [et]
      exact dpAll_app (DpAll.up up2 _ _ d1) (.cons dy .nil)
  case fin =>
    intro s' hJ
    rw [Nat.zero_add, List.take_of_length_le (by rw [List.length_map, lv]; exact Nat.le_refl _)] at hJ
    obtain ⟨H1, ys, us, n, o1, b1, U1, ok1, up1, na, nk, ga, gk, r1, d1⟩ := hJ.ex
    have I1 := I.of_un o1 b1 U1 ok1
    have hlen : us.length = vs.length := by
      rw [← r1.length, dpAll_len d1, List.length_map, lv]
    have hks : EachIs (fun v d => ∃ as, Reads s'.heap v d as) us (bs.map (·.2)) := by
      have e1 : ((ys.zip (bs.map (·.2))).map (·.1)) = ys := List.map_fst_zip (by rw [dpAll_len d1]; exact Nat.le_refl _)
      have e2 : ((ys.zip (bs.map (·.2))).map (·.2)) = bs.map (·.2) := List.map_snd_zip (by rw [dpAll_len d1]; exact Nat.le_refl _)
      have q := (dpAll_each I1 (ys.zip (bs.map (·.2))) us (by rw [e1, e2]; exact d1) (by rw [e1]; exact r1)).2
      have : ∀ {as : List Value} {cs : List (V × PyData)}, EachIs (fun v (c : V × PyData) => ∃ as, Reads s'.heap v c.2 as) as cs → EachIs (fun v d => ∃ as, Reads s'.heap v d as) as (cs.map (·.2)) := by
        intro as cs h
        induction h with
        | nil => exact .nil
        | cons r _ ih => exact .cons r ih
      have q2 := this q
      rw [e2] at q2
      exact q2
    try dsimp only
    refine wpAny_bind (listItems_at gk rfl ?_)
    obtain ⟨G, g1, g2⟩ := restrict s'.heap fun c => decide (c ≠ kS)
    have gG : ∀ c o, c ≠ kS → s'.heap.get? c = some o → G.get? c = some o := fun c o hc q => by
      rw [g1 c (decide_eq_true hc)]
      exact q
    have Gg : ∀ c o, G.get? c = some o → s'.heap.get? c = some o := fun c o q => by
      by_cases hc : c = kS
      · rw [hc, g2 kS (decide_eq_false fun z => z rfl)] at q
        cases q
      · rw [← g1 c (decide_eq_true hc)]
        exact q
    have hu' : ∀ d, d ∈ bs.map (·.2) → X.A.in1.in1.units + d.depth < cLine := fun d hd => by
      obtain ⟨c, hc, rfl⟩ := List.mem_map.mp hd
      have := hdep c hc
      show X.A.units + 1 + 1 + c.2.depth < cLine
      omega
    refine keyH_end (κ := dataKind s'.heap (bs.map (·.2))) (h₁ := G) (vs := vs) (fun c o _ q => Gg c o q) (g2 kS (decide_eq_false fun z => z rfl)) gk ga hak (SortsAt.data (s := s') hks hal hsk hu') (by rw [List.size_toArray]; exact hlen) hz fun h' tk cc kp hD => ?_
    have kk : ∀ c o, ¬ (c = a ∨ c = kS) → s'.heap.get? c = some o → h'.get? c = some o := fun c o hc q => kp c o (fun z => hc (.inl z)) (gG c o (fun z => hc (.inr z)) q)
    have hout : KeyedOut b (bs.map (·.2)) vs (sortVals (dataKind s'.heap (bs.map (·.2))) b us vs) := ⟨s'.heap, us, hal, rfl, hks⟩
    have heach : EachIs (fun v (c : V × PyData) => RelV c.1 v) vs bs := by
      have : ∀ {cs : List (V × PyData)} {ws : List Value}, Vals (cs.map (·.1)) ws → EachIs (fun v (c : V × PyData) => RelV c.1 v) ws cs := by
        intro cs
        induction cs with
        | nil => intro ws h; cases h; exact .nil
        | cons c cs ih =>
          intro ws h
          rw [List.map_cons] at h
          cases h with
          | cons h1 h2 => exact .cons h1 (ih h2)
      exact this rv
    have hE := keyedOut_each (·.2) hout heach
    have hlo : (sortVals (dataKind s'.heap (bs.map (·.2))) b us vs).length = vs.length := hout.length (by rw [List.length_map, lv])
    have U3 : Un (frs X.stack) [] H H1 s.heap h' := U1.but (fun c => c = a ∨ c = kS) (fun c o q z => by
      rcases z with z | z
      · rw [z, ha] at q; cases q
      · rw [z, hk] at q; cases q) kk
    have ok3 : HOk X.prog X.w H1 h' := ok1.but (fun c => c = a ∨ c = kS) (fun c z => by
      rcases z with z | z
      · rw [z]; exact na
      · rw [z]; exact nk) kk
    have hval := each_vals hE
    have new : ObjOk X.prog X.w (upd H1 a (.lst ((bs.mergeSort (dataLe b (·.2))).map (·.1)))) h' a (.lst ((bs.mergeSort (dataLe b (·.2))).map (·.1))) :=
      ⟨by rw [hval.length, hlo]; exact hz, _, cc, hval, hD⟩
    have ok4 := ok3.add na new
    have U4 := U3.add (u := .lst ((bs.mergeSort (dataLe b (·.2))).map (·.1))) ha hn1
    refine done _ _ (I.of_un (s' := { s' with heap := h', toks := tk }) o1 b1 U4 ok4) ⟨.ref a, _, o1, b1, U4, ok4, rfl, rfl, fun c o q => ?_, upd_same⟩
    rw [upd_ne (ne_of_none q hn1)]
    exact up1 c o q
end
end L2

set_option Elab.async false
set_option linter.all false
set_option maxRecDepth 100000
set_option maxHeartbeats 4000000
/-! Srk: sorted(xs, key=f), f a def of the program: as a call by keywords, and as data. -/
namespace L2
open PySem PySem.Spec PyProof.Rows PySem.W PySem.Calls
theorem Room.in2 {k : Nat} {A : Around} (r : Room (k + 1) A) : Room k A.in1.in1 :=
  ⟨r.hd, by have := r.dp; show A.depth + 3 * k + 5 < _; omega, by have := r.un; show A.units + 1 + 1 + 16 * k + 200 < _; omega⟩
/-- sorted(xs, key=f): each key by f's promise -/
def rSortKey (K : PySem.W.Frag) (sp : Sp) (f : Addr) : List V → List V → Hp → VK → Prop := fun vs zs H Q => ∃ (a : Addr) (bs : List (V × PyData)), vs = [V.ref a] ∧ zs = [V.ref f] ∧ SqL K H a (bs.map (·.1)) ∧ AllAlike (bs.map (·.2)) ∧ Sortable (bs.map (·.2)) ∧ (∀ b ∈ bs, b.2.depth ≤ 32) ∧
  (∀ b ∈ bs, ∀ H1, (∀ c o, H c = some o → H1 c = some o) → sp [b.1] H1 (fun y H2 => (∀ c o, H1 c = some o → H2 c = some o) ∧ Dp K H2 y b.2) E0) ∧
  ∀ p H', H p = none → (∀ c o, H c = some o → H' c = some o) → H' p = some (.lst ((bs.mergeSort (dataLe false (·.2))).map (·.1))) → Q (.ref p) H'
section
variable {X : Cx}
theorem cr_sortKey {k : Nat} {f : Addr} {sp : Sp} (F : FnR X.prog X.w X.K X.mg X.base CX0 k f sp) (hr : Room (k + 1) X.A) : CallRK X (.builtin "sorted") [Str.ofString "key"] (rSortKey X.K sp f) := by
  intro pins s σ H vs zs us ws Q I r rz h
  obtain ⟨l, bs, rfl, rfl, hs, hal, hsk, hdep, hsp, q⟩ := h
  obtain rfl := Vals.ref1 r
  obtain ⟨w1, rfl, e1⟩ := vals1 rz
  obtain rfl : w1 = Value.ref f := e1
  obtain ⟨its, rv, hl, hz⟩ := I.list hs
  have hz' : its.length ≤ sizeLine := by rw [← rv.length]; exact hz
  have fr1 : s.heap.get? (s.heap.objs.size + 1) = none := Heap.get?_none_of_le (Nat.le_succ _)
  have turn : ∀ c ∈ bs, KeyTurn X pins σ H (.ref f) c.1 c.2 := fun c hc s1 H1 v I1 up rx => by
    refine wpAny_call (codeAny_mono (F X.A.in1.in1 X.stack s1 H1 [v] [c.1] _ E0 hr.in2 I1.env0.in1.in1 (.cons rx .nil) (hsp c hc H1 up)) fun r s' hq => ?_)
    cases r with
    | error e => exact hq.elim
    | ok fl =>
      cases fl with
      | ret u => exact hq
      | next => exact False.elim hq
      | brk => exact False.elim hq
      | cont => exact False.elim hq
  show wpAny _ _ (call (.builtin "sorted") [.ref l] [(Str.ofString "key", .ref f)]) _ _ s
  refine sorted_of_sort hl.isList hz' (ksk_s1 _ _) (fun _ => ksk_l1 _ _) fun E' => ?_
  rw [ksk_t1]
  have ho : (copyHeap s.heap its).get? (s.heap.objs.size + 1) = some (seqObj "list" its.toArray 0) := copyHeap_at s.heap its
  have csz : (copyHeap s.heap its).objs.size = s.heap.objs.size + 2 := by
    unfold copyHeap
    rw [size_push', Heap.size_update, size_push']
  obtain ⟨e1, ho1⟩ : ∃ e1, ((copyHeap s.heap its).update (s.heap.objs.size + 1) (Obj.mapSeq fun _ => (#[] : Array Value))).get? (s.heap.objs.size + 1) = some (seqObj "list" #[] e1) := ⟨_, get?_update_seq ho fun _ => #[]⟩
  have gsz : (((copyHeap s.heap its).update (s.heap.objs.size + 1) (Obj.mapSeq fun _ => (#[] : Array Value))).push (seqObj "tuple" its.toArray 0)).objs.size = s.heap.objs.size + 3 := by rw [size_push', Heap.size_update, csz]
  unfold ksk_tree
  refine wpAny_bind (listItems_at ho rfl ?_)
  refine wpAny_bind (listUpdate_at ho rfl ?_ (by rw [List.size_toArray]; exact hz') (Nat.zero_le _))
  refine wpAny_bind (seqEpoch_at ho1 rfl ?_)
  refine wpAny_bind (wpAny_newTuple ?_ (by show its.length ≤ _; exact hz'))
  refine wpAny_bind (wpAny_newList ?_ (Nat.zero_le _))
  refine wpAny_holding ?_
  dsimp only
  have up0 : ∀ b o, s.heap.get? b = some o → ((((copyHeap s.heap its).update (s.heap.objs.size + 1) (Obj.mapSeq fun _ => (#[] : Array Value))).push (seqObj "tuple" its.toArray 0)).push (seqObj "list" #[] 0)).get? b = some o := fun b o q => by
    refine Heap.get?_push_of_some _ (Heap.get?_push_of_some _ ?_)
    rw [Heap.get?_update_ne _ _ _ _ (Nat.ne_of_lt (Nat.lt_succ_of_lt (Heap.lt_size q)))]
    exact copyHeap_old q
  refine keys_run (s := s) (kS := (((copyHeap s.heap its).update (s.heap.objs.size + 1) (Obj.mapSeq fun _ => (#[] : Array Value))).push (seqObj "tuple" its.toArray 0)).objs.size) (a := s.heap.objs.size + 1) (bs := bs) I fr1 (Heap.get?_none_of_le (by rw [gsz]; omega)) (I.hok.fresh (Nat.le_succ _)) (I.hok.fresh (by rw [gsz]; omega)) (fun z => by rw [gsz] at z; exact absurd z (by simp)) rv hz' hal hsk hdep hr.units ?_ turn ?_
  · exact ⟨⟨H, [], [], 0, rfl, I.bare, Un.kept up0, I.hok.kept up0, fun _ _ q => q, I.hok.fresh (Nat.le_succ _), I.hok.fresh (by rw [gsz]; omega), Heap.get?_push_of_some _ (Heap.get?_push_of_some _ ho1), Heap.get?_push_size _ rfl, .nil, .nil⟩⟩
  · intro s' H' I' hce
    refine ⟨rfl, ?_⟩
    refine I.after ?_
    obtain ⟨v, H2, a1, a2, a3, a4, a5, rfl, a7, a8⟩ := hce
    exact ⟨.ref (s.heap.objs.size + 1), H2, a1, a2, a3, a4, rfl, q _ _ (I.hok.fresh (Nat.le_succ _)) a7 a8⟩
end
end L2
namespace G
open PySem PySem.Spec PyProof.Rows L2 PySem.W PySem.Calls
section
variable {K : PySem.W.Frag} {δ : DEnv} {a : TA} {ds es : List D}
/-- sorted(xs, key=f): key is what f gives -/
theorem dl_sortedKey {rel : List D → Res → Prop} {f : Addr} (key : D → D) (h : DA K δ a [.lst ds]) (hrel : ∀ d ∈ ds, rel [d] (.rt (key d))) (hp : ∀ d ∈ ds, (key d).pl = true) (hal : AllAlike (ds.map fun d => encD (key d))) (hk : Sortable (ds.map fun d => encD (key d)))
    (hdep : ∀ d ∈ ds, (encD (key d)).depth ≤ 32) (hn : ds.length ≤ 10000000) (hr : ds.mergeSort (dataLe false fun d => encD (key d)) = es) : DL K δ (tCKw (rSortKey K (spD K rel) f) a (tCons (tC (.ref f)) tNil)) es := fun H R σ Q s e q =>
  h H R σ _ s e fun vs H1 R1 g1 r1 => by
    obtain ⟨v, rfl, r⟩ := rep1 r1
    cases r with
    | @lst a xs _ k1 k2 =>
      obtain ⟨z1, z2, z3⟩ := repL_zip k2
      have m1 : ((xs.zip ds).map fun c => (c.1, encD (key c.2))).map (·.1) = xs := by rw [List.map_map]; exact z1
      have m2 : ((xs.zip ds).map fun c => (c.1, encD (key c.2))).map (·.2) = ds.map fun d => encD (key d) := by
        rw [List.map_map]
        conv => rhs; rw [← z2, List.map_map]
        rfl
      have s1 : (((xs.zip ds).map fun c => (c.1, encD (key c.2))).mergeSort (dataLe false (·.2))) = ((xs.zip ds).mergeSort (dataLe false fun c => encD (key c.2))).map fun c => (c.1, encD (key c.2)) :=
        (List.map_mergeSort (f := fun c : V × D => (c.1, encD (key c.2))) (s := dataLe false (·.2)) (r := dataLe false fun c => encD (key c.2)) (fun _ _ _ _ => rfl)).symm
      have s2 : ((xs.zip ds).mergeSort (dataLe false fun c => encD (key c.2))).map (·.2) = ds.mergeSort (dataLe false fun d => encD (key d)) := by
        rw [List.map_mergeSort (f := fun c : V × D => c.2) (r := dataLe false fun c => encD (key c.2)) (s := dataLe false fun d => encD (key d)) (fun _ _ _ _ => rfl), z2]
      have hx : ∀ c ∈ (xs.zip ds).mergeSort (dataLe false fun c => encD (key c.2)), Rep K R1 c.1 c.2 := fun c hc => z3 c (List.mem_mergeSort.mp hc)
      refine ⟨a, (xs.zip ds).map fun c => (c.1, encD (key c.2)), rfl, rfl, by rw [m1]; exact rdS g1.i k1, by rw [m2]; exact hal, by rw [m2]; exact hk, ?_, ?_, fun p H' hp0 up hl => ?_⟩
      · intro b hb
        obtain ⟨c, hc, rfl⟩ := List.mem_map.mp hb
        exact hdep _ (by rw [← z2]; exact List.mem_map_of_mem hc)
      · intro b hb H2 up
        obtain ⟨c, hc, rfl⟩ := List.mem_map.mp hb
        have hcd : c.2 ∈ ds := by rw [← z2]; exact List.mem_map_of_mem hc
        refine ⟨R1, [c.2], .rt (key c.2), fun b o e => up _ _ (g1.i _ _ e), .cons (z3 c hc) .nil, hrel _ hcd, fun v H3 R3 g r => ⟨g.h, ?_⟩⟩
        exact Dp.up g.i _ _ (rep_dp _ _ r (hp _ hcd))
      · rw [s1, List.map_map] at hl
        have hrep := repL_of_zip (K := K) (R := R1) _ hx
        rw [s2, hr] at hrep
        have g2 : Gr H1 R1 H' R1 := ⟨up, Same.refl _, fun b o e => up _ _ (g1.i _ _ e), fun _ _ _ n => n⟩
        refine q p _ H' R1 (g1.trans g2) (g1.h.free hp0) hl (g1.i.free hp0) (small ?_) hrep
        have := hrep.len
        rw [List.length_map] at this
        show ((((xs.zip ds).mergeSort (dataLe false fun c => encD (key c.2))).map _).length) ≤ _
        rw [List.length_map, this, ← hr, List.length_mergeSort]
        exact hn
end
end G

set_option Elab.async false
set_option linter.all false
set_option maxRecDepth 100000
set_option maxHeartbeats 4000000
/-! Lzip: for a, b in zip(x, y), x and y texts. -/
namespace L2
open PySem PySem.Spec PyProof.Rows
def ItzS (x y : Str) : It :=
  ⟨fun i _ => i < x.cps.size ∧ i < y.cps.size,
    fun i H v H' => ∃ T c d, v = .ref T ∧ H T = none ∧ H' = upd H T (.tup [.str ⟨#[c]⟩, .str ⟨#[d]⟩]) ∧ x.cps[i]? = some c ∧ y.cps[i]? = some d,
    fun i _ => i ≤ x.cps.size ∧ i ≤ y.cps.size ∧ (i = x.cps.size ∨ i = y.cps.size)⟩
theorem mem5 {c z a b d e : Addr} (h : c ∈ [z, a, b, d, e]) : c = z ∨ c = a ∨ c = b ∨ c = d ∨ c = e := by simpa using h
theorem turn_zipS {P : Program} {w : World} {K : PySem.W.Frag} {elts : List Expr} {kk : Nat} {tpos : Pos} {x y : Str} {t u : Tok} {z TI TO i1 i2 : Addr} (S : ZipSep2 z TI TO i1 i2 [i1] [i2]) :
    Turn P w K (.Tuple elts kk tpos) (ItzS x y) [z, TI, TO, i1, i2] z (fun i h => IsZip h z TI TO .none ∧ IsTupOf2 h TI (.ref i1) (.ref i2) ∧ (∃ a b, IsTupOf2 h TO a b) ∧ h.IsStrIter i1 (strIterType x) x t i ∧ h.IsStrIter i2 (strIterType y) y u i) where
  mem := List.mem_cons_self
  obj := fun i h st c hc => by
    obtain ⟨h1, h2, ⟨a, b, h3⟩, ⟨o1, e1, _, d1⟩, ⟨o2, e2, _, d2⟩⟩ := st
    rcases mem5 hc with q | q | q | q | q <;> subst q
    · exact ⟨_, h1, fun v q => nomatch q⟩
    · exact ⟨_, h2, fun v q => nomatch q⟩
    · exact ⟨_, h3, fun v q => nomatch q⟩
    · exact ⟨o1, e1, fun v q => by rw [d1] at q; cases q⟩
    · exact ⟨o2, e2, fun v q => by rw [d2] at q; cases q⟩
  keep := fun i h h' st k => by
    obtain ⟨h1, h2, ⟨a, b, h3⟩, ⟨o1, e1, r1⟩, ⟨o2, e2, r2⟩⟩ := st
    exact ⟨k _ (by simp) _ h1, k _ (by simp) _ h2, ⟨a, b, k _ (by simp) _ h3⟩, ⟨o1, k _ (by simp) _ e1, r1⟩, ⟨o2, k _ (by simp) _ e2, r2⟩⟩
  item := by
    intro X hP hw hK hc i pins s σ H E I hf st hg
    subst hP hw hK
    obtain ⟨h1, h2, ⟨a, b, h3⟩, s1, s2⟩ := st
    have hh : X.A.in1.handled = none := I.ok.hd hc
    refine wpAny_pyNext_zipD2_item S (Draws.text hh i1 x t) (Draws.text hh i2 y u) h1 h2 h3 s1 s2 hg.1 hg.2 fun x1 x2 h' tk p1 p2 z' to' s1' s2' hT hsz hk => ?_
    obtain ⟨c, uc, hc1, rfl⟩ := p1
    obtain ⟨d, ud, hd1, rfl⟩ := p2
    refine ⟨_, rfl, wpAny_letOwnedTupleGo_zip (s := { s with heap := h', toks := tk }) z' fun h'' z'' sb => ?_⟩
    have hzl : z < s.heap.objs.size := Heap.lt_size h1
    have hT2 : h''.get? s.heap.objs.size = some { cls := .type "tuple", data := .seq #[.str ⟨#[c]⟩ uc, .str ⟨#[d]⟩ ud] } := (sb.2 _ (Nat.ne_of_gt hzl)).trans hT
    have new : ObjOk X.prog X.w (upd H s.heap.objs.size (.tup [.str ⟨#[c]⟩, .str ⟨#[d]⟩])) h'' s.heap.objs.size (.tup [.str ⟨#[c]⟩, .str ⟨#[d]⟩]) :=
      ⟨by show 2 ≤ sizeLine; decide, [_, _], .cons ⟨uc, rfl⟩ (.cons ⟨ud, rfl⟩ .nil), ⟨_, hT2, rfl, _, rfl⟩⟩
    have I1 : Inv X pins σ (upd H s.heap.objs.size (.tup [.str ⟨#[c]⟩, .str ⟨#[d]⟩])) { s with heap := h'', toks := tk } :=
      I.turnedNew (t' := tk) (ch := [z, TI, TO, i1, i2]) (fun q o hb e => (sb.2 q (fun w => hb (by simp [w]))).trans (hk q o (fun w => hb (by simp [w])) (fun w => hb (by simp [w])) (fun w => hb (by simp [w])) (fun w => hb (by simp [w])) e)) hf (Nat.le_refl _) new
    have lt : ∀ q, q ∈ [z, TI, TO, i1, i2] → q < s.heap.objs.size := fun q hq => by
      obtain ⟨o1, e1, _⟩ := s1
      obtain ⟨o2, e2, _⟩ := s2
      rcases mem5 hq with w | w | w | w | w <;> rw [w]
      · exact hzl
      · exact Heap.lt_size h2
      · exact Heap.lt_size h3
      · exact Heap.lt_size e1
      · exact Heap.lt_size e2
    refine ⟨.ref s.heap.objs.size, _, I1, rfl, ⟨_, c, d, rfl, I.hok.fresh (Nat.le_refl _), rfl, hc1, hd1⟩, ⟨z'', ?_, ⟨.str ⟨#[c]⟩ uc, .str ⟨#[d]⟩ ud, ?_⟩, ?_, ?_⟩, fun q hq => ?_⟩
    · exact (sb.2 _ S.TIz).trans (hk _ _ S.TIz S.TITO S.TIi1 S.TIi2 h2)
    · exact (sb.2 _ S.TOz).trans to'
    · obtain ⟨o, e, r⟩ := s1'
      exact ⟨o, (sb.2 _ S.zi1.symm).trans e, r⟩
    · obtain ⟨o, e, r⟩ := s2'
      exact ⟨o, (sb.2 _ S.zi2.symm).trans e, r⟩
    · rw [upd_ne (Nat.ne_of_lt (lt q hq))]
      exact (hf q hq).1
  done := by
    intro X hP hw hK hc i pins s σ H E I hf st hg
    subst hP hw hK
    obtain ⟨h1, h2, ⟨a, b, h3⟩, s1, s2⟩ := st
    have hh : X.A.in1.handled = none := I.ok.hd hc
    refine wpAny_pyNext_zipD2_end S (Draws.text hh i1 x t) (Draws.text hh i2 y u) h1 h2 h3 s1 s2 hg.1 hg.2.1 hg.2.2 fun h' tk hk => ⟨rfl, ?_⟩
    exact I.turnedL (t' := tk) (ch := [z, TI, TO, i1, i2]) (fun q o hb e => hk q o (fun w => hb (by simp [w])) (fun w => hb (by simp [w])) (fun w => hb (by simp [w])) (fun w => hb (by simp [w])) e) hf
  self := fun A i s Q E st h => wpAny_pyIter_zip st.1 h
def iZipS (ta : TA) : TI := fun σ H R => ta σ H fun vs H1 => ∃ x y, vs = [.str x, .str y] ∧ R (ItzS x y) H1
theorem pi_zipS {X : Cx} {e e2 : Expr} {ta : TA} {p pos tpos : Pos} {elts : List Expr} {kk : Nat} (hg : Gl X "zip") (hm : X.mg "zip" = none) (ha : PA X [e, e2] ta)
    (hs : starEach [e, e2] X.env = (false, eval e X.env) :: starEach [e2] X.env := by rfl) (hpl : (backTo pos (starEach [e2] X.env)).any (·.1) = false := by rfl) :
    PI X (.Tuple elts kk tpos) (.Call (.Name "zip" p) [e, e2] [] pos) (iZipS ta) := by
  constructor
  intro pins s σ H R I h
  refine Call_ (ld_blt I hg hm PyProof.Rows.boot_zip (PyProof.Rows.callWith_type1 (thn (ha.run pos pins s σ H _ I h) fun us s1 hq => ?_) hs hpl))
  obtain ⟨vs, H1, I1, r1, x, y, rfl, q1⟩ := hq
  obtain ⟨w1, w2, rfl, ⟨t, rfl⟩, ⟨u, rfl⟩⟩ := vals2 r1
  refine zip_begins2 (begins_text x t) (begins_text y u) trivial trivial fun h' hz hTI hTO h1 h2 hsz hk => wpAny_pyIter_zip hz ?_
  have I2 : Inv X pins σ H1 { s1 with heap := h' } := I1.kept (t' := s1.toks) hk
  refine ⟨s1.heap.objs.size + 4, [s1.heap.objs.size + 4, s1.heap.objs.size + 2, s1.heap.objs.size + 3, s1.heap.objs.size, s1.heap.objs.size + 1], _, ItzS x y, H1, rfl, I2, turn_zipS (zip_sep2 (fp1 := []) (fp2 := []) (fun b hb => nomatch hb) (fun b hb => nomatch hb)), ⟨hz, hTI, ⟨_, _, hTO⟩, ⟨_, h1, rfl, rfl⟩, ⟨_, h2, rfl, rfl⟩⟩, fun c hc => ?_, q1⟩
  have hle : s1.heap.objs.size ≤ c := by
    rcases mem5 hc with w | w | w | w | w <;> rw [w]
    · exact Nat.le_add_right _ _
    · exact Nat.le_add_right _ _
    · exact Nat.le_add_right _ _
    · exact Nat.le_refl _
    · exact Nat.le_add_right _ _
  obtain ⟨f0, f1, f2, f3, f4, f5⟩ := I1.fpOk hle (I1.hok.fresh hle)
  exact ⟨f0, f1, f2, f3, f4, f5⟩
end L2
namespace G
open PySem PySem.Spec PyProof.Rows L2
end G

set_option Elab.async false
set_option linter.all false
set_option maxRecDepth 100000
set_option maxHeartbeats 4000000
/-! Dig: _law_digits; [e for k in range(n)]. -/
namespace G
open PySem PySem.Spec PyProof.Rows L2
/-- _law_digits(cell, sizes) -/
def t__law_digits (K : PySem.W.Frag) : TS :=
  (tSeq (tAsg (tLst tNil) (gName 2))
  (tSeq (tAsg (tCB rInt' (tCons (tVar 0) tNil)) (gName 3))
  (tSeq (tIfS (tTest (tOp rGe' (tVar 3) (tOp rPow' (tC (.int 10)) (tC (.int 18)))))
  (tSeq (tAsg (tOp rSub' (tVar 3) (tOp rPow' (tC (.int 10)) (tC (.int 18)))) (gName 3))
  (tSeq (tFor (iAny K (tVar 1)) (gName 4)
  (tSeq (tDrop (tBM K "list" rAppend (tVar 2) (tCons (tOp rMod' (tCB rInt' (tCons (tVar 3) tNil)) (tVar 4)) tNil)))
  (tAsg (tOp rDiv' (tCB rInt' (tCons (tVar 3) tNil)) (tVar 4)) (gName 3))))
  (tRet (tVar 2))))
  tNext)
  (tSeq (tAsg (tOp rMod' (tCB rInt' (tCons (tVar 3) tNil)) (tC (.int 2147483629))) (gName 5))
  (tSeq (tFor (iRng1 (tCons (tCB (rLen' K) (tCons (tVar 1) tNil)) tNil)) (gName 6)
  (tSeq (tAsg (tOp rMod' (tCB rInt' (tCons (tOp (rAdd' K) (tOp (rAdd' K) (tOp rMul' (tVar 5) (tC (.int 48271))) (tOp rMul' (tC (.int 974711)) (tVar 6))) (tC (.int 12345))) tNil)) (tC (.int 2147483647))) (gName 5))
  (tSeq (tAsg (tOp rMod' (tCB rInt' (tCons (tOp rMul' (tVar 5) (tOp (rAdd' K) (tOp rDiv' (tVar 5) (tC (.int 65537))) (tC (.int 3)))) tNil)) (tC (.int 2147483629))) (gName 7))
  (tDrop (tBM K "list" rAppend (tVar 2) (tCons (tOp rMod' (tOp rDiv' (tVar 7) (tC (.int 19))) (tOp (rIx' K) (tVar 1) (tVar 6))) tNil))))))
  (tRet (tVar 2)))))))
section
variable {K : PySem.W.Frag} {W : WX}
def stA (r0 : Int) (sz : List Int) : List Int × Int := sz.foldl (fun z s => (z.1 ++ [z.2 % s], z.2 / s)) ([], r0)
def seedB (z : List Int × Int) : Int := (z.2 * 48271 + 974711 * (z.1.length : Int) + 12345) % 2147483647
def stB (r0 : Int) (sz : List Int) : List Int × Int := sz.foldl (fun z s => (z.1 ++ [seedB z * (seedB z / 65537 + 3) % 2147483629 / 19 % s], seedB z)) ([], r0)
def digitsI (c : Int) (sz : List Int) : List Int := if c ≥ 10 ^ 18 then (stA (c - 10 ^ 18) sz).1 else (stB (c % 2147483629) sz).1
theorem stA_next {r0 : Int} {sz : List Int} {i : Nat} {s : Int} (h : sz[i]? = some s) : stA r0 (sz.take (i + 1)) = ((stA r0 (sz.take i)).1 ++ [(stA r0 (sz.take i)).2 % s], (stA r0 (sz.take i)).2 / s) := by
  unfold stA
  rw [List.take_add_one, h, List.foldl_append]; rfl
theorem stB_next {r0 : Int} {sz : List Int} {i : Nat} {s : Int} (h : sz[i]? = some s) : stB r0 (sz.take (i + 1)) = ((stB r0 (sz.take i)).1 ++ [seedB (stB r0 (sz.take i)) * (seedB (stB r0 (sz.take i)) / 65537 + 3) % 2147483629 / 19 % s], seedB (stB r0 (sz.take i))) := by
  unfold stB
  rw [List.take_add_one, h, List.foldl_append]; rfl
theorem foldl_len {f : List Int × Int → Int → List Int × Int} (hf : ∀ z s, (f z s).1.length = z.1.length + 1) : ∀ (sz : List Int) (z : List Int × Int), (sz.foldl f z).1.length = z.1.length + sz.length
  | [], z => rfl
  | s :: sz, z => by
    show (sz.foldl f (f z s)).1.length = _
    rw [foldl_len hf sz, hf, List.length_cons]; omega
theorem stA_len {r0 : Int} {sz : List Int} : (stA r0 sz).1.length = sz.length := by
  unfold stA
  rw [foldl_len (fun z s => by simp)]
  show 0 + _ = _
  omega
theorem stB_len {r0 : Int} {sz : List Int} : (stB r0 sz).1.length = sz.length := by
  unfold stB
  rw [foldl_len (fun z s => by simp)]
  show 0 + _ = _
  omega
theorem digits_len {c : Int} {sz : List Int} : (digitsI c sz).length = sz.length := by
  unfold digitsI
  split
  · exact stA_len
  · exact stB_len
theorem stB_seed {r0 : Int} (h0 : 0 ≤ r0 ∧ r0 < 2147483647) : ∀ sz : List Int, ∀ i, 0 ≤ (stB r0 (sz.take i)).2 ∧ (stB r0 (sz.take i)).2 < 2147483647 := fun sz i => by
  induction i with
  | zero => exact h0
  | succ i ih =>
    cases h : sz[i]? with
    | none => rw [List.take_add_one, h]; simpa using ih
    | some s => rw [stB_next h]; show 0 ≤ seedB _ ∧ seedB _ < _; unfold seedB; omega
def relDigits (ds : List D) (r : Res) : Prop := ∃ (c : Int) (sz : List Int), ds = [.int c, .lst (sz.map D.int)] ∧ sz.length ≤ 1000 ∧ (∀ s ∈ sz, 0 < s ∧ s < 1073741824) ∧ r = .rl ((digitsI c sz).map D.int)
theorem digits_ds (ds : List D) (r : Res) (h : relDigits ds r) : WP K W (ds.map Sl.va ++ List.replicate (8 - ds.length) Sl.no) (t__law_digits K) (fun o => Fits o r) := by
  obtain ⟨c, sz, rfl, hn, hs, rfl⟩ := h
  show WP K W [.va (.int c), .va (.lst (sz.map D.int)), .no, .no, .no, .no, .no, .no] _ _
  unfold t__law_digits
  have sget : ∀ {i : Nat} {d : D}, (sz.map D.int)[i]? = some d → ∃ s, sz[i]? = some s ∧ d = .int s ∧ 0 < s ∧ s < 1073741824 := fun {i d} h => by
    rw [List.getElem?_map] at h
    cases e : sz[i]? with
    | none => rw [e] at h; cases h
    | some s =>
      rw [e] at h
      exact ⟨s, rfl, (Option.some.inj h).symm, hs s (List.mem_of_getElem? e)⟩
  have hpow : ∀ δ : DEnv, DE K δ (tOp rPow' (tC (.int 10)) (tC (.int 18))) (.int (10 ^ 18)) := fun δ => de_is (d_op d_int d_int (o_powi ⟨by decide, by decide, by decide⟩)) rfl
  apply q_setL false (dl_lst d_anil (by decide)) (fun z => nomatch z)
  apply q_set false (d_cb (d_acons (d_var rfl) d_anil) c_inti) (fun z => nomatch z)
  apply q_if false (dt_test (d_op (d_var rfl) (hpow _) o_gei))
  · intro hb
    have hc : c ≥ 10 ^ 18 := of_decide_eq_true hb
    have hd : digitsI c sz = (stA (c - 10 ^ 18) sz).1 := if_pos hc
    rw [hd]
    apply q_assoc
    apply q_set false (d_op (d_var rfl) (hpow _) o_subi) (fun z => nomatch z)
    apply q_assoc
    refine q_forS (it_lst (d_var rfl)) (fun i => [.va (.int c), .va (.lst (sz.map D.int)), .ow (.lst ((stA (c - 10 ^ 18) (sz.take i)).1.map D.int)), .va (.int (stA (c - 10 ^ 18) (sz.take i)).2), .no, .no, .no, .no]) ⟨.inr rfl, .inr rfl, .inr rfl, .inr rfl, .inr rfl, .inr rfl, .inr rfl, .inr rfl, trivial⟩ (fun i d hd => ?_) ?_
    · obtain ⟨s, hsi, rfl, s1, s2⟩ := sget hd
      refine ⟨_, g_name', ?_⟩
      refine q_app false rfl (d_op (d_cb (d_acons (d_var rfl) d_anil) c_inti) (d_var rfl) (o_modi s1)) (fun z => nomatch z) (by rw [List.length_map, stA_len, List.length_take]; omega) ?_
      apply q_last
      apply q_set false (d_op (d_cb (d_acons (d_var rfl) d_anil) c_inti) (d_var rfl) (o_divi ⟨s1, s2⟩)) (fun z => nomatch z)
      apply q_nx
      refine ⟨.inr rfl, .inr rfl, .inr ?_, .inr ?_, .inl rfl, .inr rfl, .inr rfl, .inr rfl, trivial⟩
      · rw [stA_next hsi]; simp
      · rw [stA_next hsi]
    · rw [List.length_map, List.take_length]
      exact q_retO rfl (by rw [List.length_map, stA_len]; omega) rfl
  · intro hb
    have hc : ¬ c ≥ 10 ^ 18 := of_decide_eq_false hb
    have hd : digitsI c sz = (stB (c % 2147483629) sz).1 := if_neg hc
    rw [hd]
    apply q_next
    apply q_set false (d_op (d_cb (d_acons (d_var rfl) d_anil) c_inti) d_int (o_modi (by decide))) (fun z => nomatch z)
    refine q_forS (it_rng1 (n := sz.length) (d_acons (d_cb (d_acons (d_var rfl) d_anil) c_leni) d_anil) (by rw [List.length_map]; omega) (by rw [List.length_map]; omega)) (fun i => [.va (.int c), .va (.lst (sz.map D.int)), .ow (.lst ((stB (c % 2147483629) (sz.take i)).1.map D.int)), .va (.int c), .no, .va (.int (stB (c % 2147483629) (sz.take i)).2), .no, .no]) ⟨.inr rfl, .inr rfl, .inr rfl, .inr rfl, .inr rfl, .inr rfl, .inr rfl, .inr rfl, trivial⟩ (fun i d hd => ?_) ?_
    · obtain ⟨hi, rfl⟩ := rngD_val hd
      obtain ⟨s, hsi⟩ : ∃ s, sz[i]? = some s := ⟨_, List.getElem?_eq_getElem hi⟩
      obtain ⟨s1, s2⟩ := hs s (List.mem_of_getElem? hsi)
      have hr := stB_seed (r0 := c % 2147483629) (by omega) sz i
      have hsb : seedB (stB (c % 2147483629) (sz.take i)) = ((stB (c % 2147483629) (sz.take i)).2 * 48271 + 974711 * (i : Int) + 12345) % 2147483647 := by
        unfold seedB
        rw [stB_len, List.length_take, show min i sz.length = i by omega]
      refine ⟨_, g_name', ?_⟩
      apply q_set false (d_op (d_cb (d_acons (d_op (d_op (d_op (d_var rfl) d_int (o_muli (.inr ⟨by decide, by decide⟩))) (d_op d_int (d_var rfl) (o_muli (.inl ⟨by decide, by decide⟩))) o_addi) d_int o_addi) d_anil) c_inti) d_int (o_modi (by decide))) (fun z => nomatch z)
      rw [← hsb]
      have hsr : 0 ≤ seedB (stB (c % 2147483629) (sz.take i)) ∧ seedB (stB (c % 2147483629) (sz.take i)) < 2147483647 := by rw [hsb]; omega
      apply q_set false (d_op (d_cb (d_acons (d_op (d_var rfl) (d_op (d_op (d_var rfl) d_int (o_divi ⟨by decide, by decide⟩)) d_int o_addi) (o_muli (.inl ⟨by omega, by omega⟩))) d_anil) c_inti) d_int (o_modi (by decide))) (fun z => nomatch z)
      apply q_last
      refine q_app false rfl (d_op (d_op (d_var rfl) d_int (o_divi ⟨by decide, by decide⟩)) (d_op (d_var (d := .lst (sz.map D.int)) rfl) (d_var rfl) (o_ixl (ixN_of rfl (by rw [List.length_map]; exact hi)) (d := .int s) (by rw [List.getElem?_map, hsi]; rfl))) (o_modi s1)) (fun z => nomatch z) (by rw [List.length_map, stB_len, List.length_take]; omega) ?_
      apply q_nx
      refine ⟨.inr rfl, .inr rfl, .inr ?_, .inr rfl, .inr rfl, .inr ?_, .inl rfl, .inl rfl, trivial⟩
      · rw [stB_next hsi]; simp
      · rw [stB_next hsi]
    · rw [rngD_len, List.take_length]
      apply q_last
      exact q_retO rfl (by rw [List.length_map, stB_len]; omega) rfl
end
section
variable {K : PySem.W.Frag} {W : WX}
theorem rep_none (c : Nat) (d : D) : (List.range c).filterMap (fun _ => some d) = List.replicate c d := by
  induction c with
  | zero => rfl
  | succ c ih => rw [List.range_succ, List.filterMap_append, ih, List.replicate_succ']; rfl
theorem dl_rep {δ : DEnv} {ta : TA} {te : TE} {i c : Nat} {n : Int} {d : D} (h : DA K δ ta [.int n]) (hc : n.toNat = c) (hn : n ≤ 1000 ∧ -1000 ≤ n) (hd : ∀ δ', DE K δ' te d) : DL K δ (tLc (iRng1 ta) (gName i) tYes te [i]) (List.replicate c d) := by
  refine dl_lc (it_rng1 (n := c) h hc (by omega)) (fun _ => some d) (fun j => [(i, .int (j : Int))]) (fun j d hd => ?_) (fun j d' hd' => ⟨dt_yes, fun y hy => by cases hy; exact hd _⟩) (by rw [rngD_len]; omega) (by rw [rngD_len, rep_none])
  obtain ⟨_, rfl⟩ := rngD_val hd
  exact ⟨g_name', fun p hp => by rw [List.mem_singleton.mp hp]; exact List.mem_singleton.mpr rfl⟩
end
end G

set_option Elab.async false
set_option linter.all false
set_option maxRecDepth 100000
/-! Pm: paths as lists of signs: their order, the ordered rows, prefixes. -/
namespace Pm
open PySem PySem.W
/-- a text by its signs -/
def mkS (p : List Nat) : Str := ⟨p.toArray⟩
theorem mkS_cps (p : List Nat) : (mkS p).cps.toList = p := by simp [mkS]
theorem mkS_len (p : List Nat) : (mkS p).length = p.length := by simp [mkS, Str.length]
theorem mkS_inj {p q : List Nat} (h : mkS p = mkS q) : p = q := by rw [← mkS_cps p, h, mkS_cps]
theorem mkS_of (x : Str) : mkS x.cps.toList = x := by cases x; simp [mkS]
/-- shorter first, then by the alphabet -/
def leP (a b : List Nat) : Bool := decide (a.length < b.length ∨ (a.length = b.length ∧ a ≤ b))
def keyP (p : List Nat) : PyData := .tuple [.int p.length, .str (mkS p)]
theorem leP_refl (a : List Nat) : leP a a = true := decide_eq_true (.inr ⟨rfl, List.le_refl a⟩)
theorem leP_total (a b : List Nat) : (leP a b || leP b a) = true := by
  unfold leP
  rw [Bool.or_eq_true, decide_eq_true_iff, decide_eq_true_iff]
  rcases Nat.lt_trichotomy a.length b.length with h | h | h
  · exact .inl (.inl h)
  · rcases List.le_total a b with q | q
    · exact .inl (.inr ⟨h, q⟩)
    · exact .inr (.inr ⟨h.symm, q⟩)
  · exact .inr (.inl h)
theorem leP_trans (a b c : List Nat) (h1 : leP a b = true) (h2 : leP b c = true) : leP a c = true := by
  unfold leP at *
  rw [decide_eq_true_iff] at *
  rcases h1 with h1 | ⟨h1, q1⟩
  · rcases h2 with h2 | ⟨h2, q2⟩
    · exact .inl (by omega)
    · exact .inl (by omega)
  · rcases h2 with h2 | ⟨h2, q2⟩
    · exact .inl (by omega)
    · exact .inr ⟨by omega, List.le_trans q1 q2⟩
theorem leP_anti {a b : List Nat} (h1 : leP a b = true) (h2 : leP b a = true) : a = b := by
  unfold leP at *
  rw [decide_eq_true_iff] at *
  rcases h1 with h1 | ⟨h1, q1⟩
  · rcases h2 with h2 | ⟨h2, q2⟩ <;> omega
  · rcases h2 with h2 | ⟨h2, q2⟩
    · omega
    · exact List.le_antisymm q1 q2
theorem dataLe_path : dataLe false keyP = leP := by
  funext p q
  show (!dataLt (keyP q) (keyP p)) = _
  unfold keyP leP
  rw [dataLt_pair (by simp [alike]) (by simp [alike]), dataLt_int, dataLt_str, mkS_cps, mkS_cps]
  simp only [PyData.eqv, beq_iff_eq]
  by_cases h1 : (q.length : Int) = (p.length : Int)
  · have h1' : q.length = p.length := by omega
    rw [if_pos h1]
    by_cases h2 : mkS q = mkS p
    · have h2' := mkS_inj h2
      rw [if_pos h2]
      symm
      exact decide_eq_true (.inr ⟨by omega, by rw [h2']; exact List.le_refl p⟩)
    · rw [if_neg h2]
      rw [not_lt_str]
      by_cases h3 : p ≤ q
      · rw [decide_eq_true h3]
        symm
        exact decide_eq_true (.inr ⟨h1'.symm, h3⟩)
      · rw [decide_eq_false h3]
        symm
        refine decide_eq_false ?_
        rintro (z | ⟨_, z⟩)
        · omega
        · exact h3 z
  · rw [if_neg h1, not_lt_int]
    have : ¬ q.length = p.length := fun z => h1 (by omega)
    by_cases h3 : (p.length : Int) ≤ (q.length : Int)
    · rw [decide_eq_true h3]
      symm
      exact decide_eq_true (.inl (by omega))
    · rw [decide_eq_false h3]
      symm
      refine decide_eq_false ?_
      rintro (z | ⟨z, _⟩) <;> omega
/-- strictly ordered rows -/
def Str3 (l : List (List Nat)) : Prop := l.Pairwise fun a b => leP a b = true ∧ a ≠ b
theorem uniq : ∀ {l m : List (List Nat)}, Str3 l → Str3 m → (∀ x, x ∈ l ↔ x ∈ m) → l = m
  | [], [], _, _, _ => rfl
  | [], y :: m, _, _, h => by have := (h y).mpr List.mem_cons_self; cases this
  | x :: l, [], _, _, h => by have := (h x).mp List.mem_cons_self; cases this
  | x :: l, y :: m, hl, hm, h => by
    have hl' := List.pairwise_cons.mp hl
    have hm' := List.pairwise_cons.mp hm
    have e : x = y := by
      have h1 := (h x).mp List.mem_cons_self
      have h2 := (h y).mpr List.mem_cons_self
      rcases List.mem_cons.mp h1 with h1 | h1
      · exact h1
      · rcases List.mem_cons.mp h2 with h2 | h2
        · exact h2.symm
        · exact leP_anti (hl'.1 y h2).1 (hm'.1 x h1).1
    subst e
    congr 1
    refine uniq hl'.2 hm'.2 fun z => ?_
    constructor
    · intro hz
      rcases List.mem_cons.mp ((h z).mp (List.mem_cons_of_mem _ hz)) with e | e
      · exact absurd e.symm (hl'.1 z hz).2
      · exact e
    · intro hz
      rcases List.mem_cons.mp ((h z).mpr (List.mem_cons_of_mem _ hz)) with e | e
      · exact absurd e.symm (hm'.1 z hz).2
      · exact e
/-- each once, as they come -/
def once (l : List (List Nat)) : List (List Nat) := l.foldl (fun acc p => if p ∈ acc then acc else acc ++ [p]) []
theorem once_snoc (l : List (List Nat)) (p : List Nat) : once (l ++ [p]) = if p ∈ once l then once l else once l ++ [p] := by
  unfold once
  rw [List.foldl_append]
  rfl
theorem once_mem : ∀ (n : Nat) (l : List (List Nat)), l.length = n → ∀ x, x ∈ once l ↔ x ∈ l
  | 0, l, h, x => by
    have : l = [] := List.length_eq_zero_iff.mp h
    subst this
    simp [once]
  | n + 1, l, h, x => by
    have hne : l ≠ [] := fun z => by rw [z] at h; cases h
    obtain ⟨l', z', rfl⟩ : ∃ l' z', l = l' ++ [z'] := ⟨_, _, (List.dropLast_concat_getLast hne).symm⟩
    have hl' : l'.length = n := by simpa using h
    have ih := once_mem n l' hl'
    rw [once_snoc]
    by_cases hp : z' ∈ once l'
    · rw [if_pos hp, ih, List.mem_append]
      constructor
      · exact .inl
      · rintro (z | z)
        · exact z
        · rw [List.mem_singleton.mp z]
          exact (ih _).mp hp
    · rw [if_neg hp, List.mem_append, List.mem_append, ih]
theorem once_nodup : ∀ (n : Nat) (l : List (List Nat)), l.length = n → (once l).Nodup
  | 0, l, h => by
    have : l = [] := List.length_eq_zero_iff.mp h
    subst this
    simp [once]
  | n + 1, l, h => by
    have hne : l ≠ [] := fun z => by rw [z] at h; cases h
    obtain ⟨l', z', rfl⟩ : ∃ l' z', l = l' ++ [z'] := ⟨_, _, (List.dropLast_concat_getLast hne).symm⟩
    have hl' : l'.length = n := by simpa using h
    have ih := once_nodup n l' hl'
    rw [once_snoc]
    by_cases hp : z' ∈ once l'
    · rw [if_pos hp]
      exact ih
    · rw [if_neg hp]
      refine List.nodup_append.mpr ⟨ih, by simp, ?_⟩
      intro a ha b hb
      rw [List.mem_singleton.mp hb]
      exact fun z => hp (z ▸ ha)
/-- the paths in order, each once -/
def ordS (l : List (List Nat)) : List (List Nat) := (once l).mergeSort leP
theorem sort_pw (l : List (List Nat)) : (l.mergeSort leP).Pairwise fun a b => leP a b = true := List.pairwise_mergeSort (le := leP) leP_trans leP_total l
theorem ordS_mem {l : List (List Nat)} {x : List Nat} : x ∈ ordS l ↔ x ∈ l := by
  unfold ordS
  rw [List.mem_mergeSort]
  exact once_mem _ l rfl x
theorem ordS_str (l : List (List Nat)) : Str3 (ordS l) := by
  have h1 := sort_pw (once l)
  have h2 : ((once l).mergeSort leP).Nodup := (List.mergeSort_perm (once l) leP).nodup_iff.mpr (once_nodup _ l rfl)
  exact (List.pairwise_and_iff.mpr ⟨h1, h2⟩)
theorem ordS_eq {l m : List (List Nat)} (h : ∀ x, x ∈ l ↔ x ∈ m) : ordS l = ordS m :=
  uniq (ordS_str l) (ordS_str m) fun x => by rw [ordS_mem, ordS_mem, h]
/-- without what stands twice in a row -/
def runs (l : List (List Nat)) : List (List Nat) := l.foldl (fun acc p => if acc.getLast? = some p then acc else acc ++ [p]) []
theorem runs_snoc (l : List (List Nat)) (p : List Nat) : runs (l ++ [p]) = if (runs l).getLast? = some p then runs l else runs l ++ [p] := by
  unfold runs
  rw [List.foldl_append]
  rfl
theorem runs_ok : ∀ (n : Nat) (l : List (List Nat)), l.length = n → (l.Pairwise fun a b => leP a b = true) → Str3 (runs l) ∧ ∀ x, x ∈ runs l ↔ x ∈ l
  | 0, l, h, _ => by
    have : l = [] := List.length_eq_zero_iff.mp h
    subst this
    simp [runs, Str3]
  | n + 1, l, h, hp => by
    have hne : l ≠ [] := fun z => by rw [z] at h; cases h
    obtain ⟨l', z', rfl⟩ : ∃ l' z', l = l' ++ [z'] := ⟨_, _, (List.dropLast_concat_getLast hne).symm⟩
    have hl' : l'.length = n := by simpa using h
    obtain ⟨p1, p2, p3⟩ := List.pairwise_append.mp hp
    obtain ⟨h1, h2⟩ := runs_ok n l' hl' p1
    rw [runs_snoc]
    by_cases hl : (runs l').getLast? = some z'
    · rw [if_pos hl]
      refine ⟨h1, fun x => ?_⟩
      rw [h2, List.mem_append]
      constructor
      · exact .inl
      · rintro (z | z)
        · exact z
        · rw [List.mem_singleton.mp z]
          exact (h2 _).mp (List.mem_of_getLast? hl)
    · rw [if_neg hl]
      refine ⟨List.pairwise_append.mpr ⟨h1, by simp, fun a ha b hb => ?_⟩, fun x => by rw [List.mem_append, List.mem_append, h2]⟩
      rw [List.mem_singleton.mp hb]
      have hle := p3 a ((h2 a).mp ha) _ (List.mem_singleton.mpr rfl)
      refine ⟨hle, fun z => hl ?_⟩
      -- a is the greatest there: it stands last
      have hne2 : runs l' ≠ [] := fun z => by rw [z] at ha; cases ha
      have e2 := List.dropLast_concat_getLast hne2
      rw [List.getLast?_eq_some_getLast hne2]
      congr 1
      have hm2 : (runs l').getLast hne2 ∈ l' := (h2 _).mp (List.getLast_mem hne2)
      have hle2 := p3 _ hm2 _ (List.mem_singleton.mpr rfl)
      refine leP_anti hle2 ?_
      rw [← z]
      rw [← e2] at ha h1
      rcases List.mem_append.mp ha with ha | ha
      · exact ((List.pairwise_append.mp h1).2.2 a ha _ (List.mem_singleton.mpr rfl)).1
      · rw [List.mem_singleton.mp ha]
        exact leP_refl _
theorem runs_sort (l : List (List Nat)) : runs (l.mergeSort leP) = ordS l := by
  obtain ⟨h1, h2⟩ := runs_ok _ (l.mergeSort leP) rfl (sort_pw l)
  exact uniq h1 (ordS_str l) fun x => by rw [h2, List.mem_mergeSort, ordS_mem]
/-- all prefixes -/
def prefs (l : List (List Nat)) : List (List Nat) := l.flatMap fun p => (List.range (p.length + 1)).map fun n => p.take n
theorem prefs_mem {l : List (List Nat)} {x : List Nat} : x ∈ prefs l ↔ ∃ p ∈ l, x <+: p := by
  unfold prefs
  rw [List.mem_flatMap]
  constructor
  · rintro ⟨p, hp, h⟩
    obtain ⟨n, _, rfl⟩ := List.mem_map.mp h
    exact ⟨p, hp, List.take_prefix n p⟩
  · rintro ⟨p, hp, h⟩
    refine ⟨p, hp, List.mem_map.mpr ⟨x.length, List.mem_range.mpr (by have := h.length_le; omega), ?_⟩⟩
    exact (List.prefix_iff_eq_take.mp h).symm
/-- the longest common prefix -/
def cpr : List Nat → List Nat → List Nat
  | a :: p, b :: q => if a = b then a :: cpr p q else []
  | _, _ => []
theorem cpr_take : ∀ (p q : List Nat) (n : Nat), n ≤ p.length → n ≤ q.length → (p.take n = q.take n ↔ n ≤ (cpr p q).length)
  | [], q, n, h1, h2 => by
    have : n = 0 := by simpa using h1
    subst this
    simp
  | a :: p, [], n, h1, h2 => by
    have : n = 0 := by simpa using h2
    subst this
    simp
  | a :: p, b :: q, 0, h1, h2 => by simp
  | a :: p, b :: q, n + 1, h1, h2 => by
    simp only [List.take_succ_cons, List.cons.injEq]
    unfold cpr
    by_cases e : a = b
    · rw [if_pos e, cpr_take p q n (by simpa using h1) (by simpa using h2)]
      simp [e]
    · rw [if_neg e]
      simp [e]
theorem cpr_len : ∀ p q : List Nat, (cpr p q).length ≤ p.length ∧ (cpr p q).length ≤ q.length
  | [], q => by simp [cpr]
  | a :: p, [] => by simp [cpr]
  | a :: p, b :: q => by
    have := cpr_len p q
    unfold cpr
    split
    · simp; omega
    · simp
theorem cpr_pre : ∀ p q : List Nat, p.take (cpr p q).length = cpr p q
  | [], q => by simp [cpr]
  | a :: p, [] => by simp [cpr]
  | a :: p, b :: q => by
    unfold cpr
    split
    · simp [cpr_pre p q]
    · simp
theorem cpr_eq {p q : List Nat} : cpr p q = p ↔ p <+: q := by
  have h0 := cpr_len p q
  constructor
  · intro h
    have h1 := (cpr_take p q p.length (Nat.le_refl _) (by rw [h] at h0; exact h0.2)).mpr (by rw [h]; exact Nat.le_refl _)
    rw [List.take_length] at h1
    rw [h1]
    exact List.take_prefix _ _
  · intro h
    have hl := h.length_le
    have h1 := (cpr_take p q p.length (Nat.le_refl _) hl).mp (by rw [List.take_length]; exact List.prefix_iff_eq_take.mp h)
    have h2 := cpr_pre p q
    rw [← h2]
    have : (cpr p q).length = p.length := by omega
    rw [this, List.take_length]
theorem cpr_eq2 {p q : List Nat} : cpr p q = q ↔ q <+: p := by
  have h0 := cpr_len p q
  constructor
  · intro h
    have := cpr_pre p q
    rw [h] at this
    rw [← this]
    exact List.take_prefix _ _
  · intro h
    have hl := h.length_le
    have h1 := (cpr_take p q q.length hl (Nat.le_refl _)).mp (by rw [List.take_length]; exact (List.prefix_iff_eq_take.mp h).symm)
    have h2 := cpr_pre p q
    have h3 : (cpr p q).length = q.length := by omega
    rw [← h2, h3]
    exact (List.prefix_iff_eq_take.mp h).symm
theorem starts (x y : List Nat) : Txt.startswith (mkS x) (mkS y) = decide (y <+: x) := by
  unfold Txt.startswith
  rw [mkS_len, mkS_len]
  unfold Builtin.Str.subAt
  rw [mkS_len]
  have e : ((mkS x).cps.extract 0 (0 + y.length) == (mkS y).cps) = decide (x.take y.length = y) := by
    unfold mkS
    rw [Bool.eq_iff_iff, beq_iff_eq, decide_eq_true_iff]
    simp
  rw [e]
  rw [Bool.eq_iff_iff, Bool.and_eq_true, decide_eq_true_iff, decide_eq_true_iff, decide_eq_true_iff]
  constructor
  · rintro ⟨h1, h2⟩
    exact List.prefix_iff_eq_take.mpr h2.symm
  · intro h
    exact ⟨by have := h.length_le; omega, (List.prefix_iff_eq_take.mp h).symm⟩
end Pm

set_option Elab.async false
set_option linter.all false
set_option maxRecDepth 100000
set_option maxHeartbeats 4000000
/-! Pth: the paths' functions: their readings, what they give. -/
namespace G
open PySem PySem.Spec PyProof.Rows L2
def t_is_path (K : PySem.W.Frag) : TS :=
  (tSeq (tIfS (tNot (tTru' K (tCB (rIsi' K) (tCons (tVar 0) (tCons (tC (.ty "str")) tNil)))))
  (tRet (tC (.bl false)))
  tNext)
  (tRet (tCB (rAll K) (tCons (tLc (iAny K (tVar 0)) (gName 2) tYes (tOp (rIn' K) (tVar 2) (tVar 1)) [2]) tNil))))
def t_begins (K : PySem.W.Frag) : TS :=
  (tRet (tBM K "str" rStartswith (tVar 1) (tCons (tVar 0) tNil)))
def t_apart (K : PySem.W.Frag) (sp_begins : Sp) : TS :=
  (tRet (tAndT K (tNotT K (tCallR sp_begins E0 (tCons (tVar 0) (tCons (tVar 1) tNil)))) (tNotT K (tCallR sp_begins E0 (tCons (tVar 1) (tCons (tVar 0) tNil))))))
def t_common (K : PySem.W.Frag) : TS :=
  (tSeq (tAsg (tC (.int 0)) (gName 2))
  (tSeq (tFor (iZipS (tCons (tVar 0) (tCons (tVar 1) tNil))) (gTup K 2 (gCons (gName 3) (gCons (gName 4) gNil)))
  (tSeq (tIfS (tTest (tOp (rNe' K) (tVar 3) (tVar 4)))
  tBreak
  tNext)
  (tAsg (tOp (rAdd' K) (tVar 2) (tC (.int 1))) (gName 2))))
  (tRet (tSl (rSl' K) (tVar 0) tNoPart (tPart (tVar 2))))))
def t_path_key (K : PySem.W.Frag) : TS :=
  (tRet (tTup (tCons (tCB (rLen' K) (tCons (tVar 0) tNil)) (tCons (tVar 0) tNil))))
def t_in_order (K : PySem.W.Frag) (kf : Addr) (sp_path_key : Sp) : TS :=
  (tSeq (tAsg (tDc (iAny K (tVar 0)) (gName 2) tYes (tVar 2) (tC (.bl true)) [2]) (gName 1))
  (tRet (tCB (rTuple' K) (tCons (tCKw (rSortKey K sp_path_key kf) (tCons (tCB (rListA K) (tCons (tVar 1) tNil)) tNil) (tCons (tC (.ref kf)) tNil)) tNil))))
def t_closed (K : PySem.W.Frag) (sp_in_order : Sp) : TS :=
  (tSeq (tAsg tDNewK (gName 1))
  (tSeq (tFor (iAny K (tVar 0)) (gName 2)
  (tFor (iRng3 (tCons (tCB (rLen' K) (tCons (tVar 2) tNil)) (tCons (tUn rNeg' (tC (.int 1))) (tCons (tUn rNeg' (tC (.int 1))) tNil)))) (gName 3)
  (tSeq (tIfS (tTest (tOp (rIn' K) (tSl (rSl' K) (tVar 2) tNoPart (tPart (tVar 3))) (tVar 1)))
  tBreak
  tNext)
  (tAsg (tC (.bl true)) (gSub (tVar 1) (tSl (rSl' K) (tVar 2) tNoPart (tPart (tVar 3))) rSet')))))
  (tRet (tCallR sp_in_order E0 (tCons (tCB (rListA K) (tCons (tVar 1) tNil)) tNil)))))
def t__law_common (K : PySem.W.Frag) : TS :=
  (tSeq (tAsg (tC (.int 0)) (gName 2))
  (tSeq (tFor (iRng1 (tCons (tCB (rMin' K) (tCons (tCB (rLen' K) (tCons (tVar 0) tNil)) (tCons (tCB (rLen' K) (tCons (tVar 1) tNil)) tNil))) tNil)) (gName 3)
  (tIfS (tTest (tOp (rEq' K) (tSl (rSl' K) (tVar 0) tNoPart (tPart (tOp (rAdd' K) (tVar 3) (tC (.int 1))))) (tSl (rSl' K) (tVar 1) tNoPart (tPart (tOp (rAdd' K) (tVar 3) (tC (.int 1)))))))
  (tAsg (tOp (rAdd' K) (tVar 3) (tC (.int 1))) (gName 2))
  tNext))
  (tRet (tSl (rSl' K) (tVar 0) tNoPart (tPart (tVar 2))))))
def t__law_ordered (K : PySem.W.Frag) : TS :=
  (tSeq (tAsg (tLst tNil) (gName 1))
  (tSeq (tFor (iAny K (tCB (rSortD K) (tCons (tLc (iAny K (tVar 0)) (gName 3) tYes (tTup (tCons (tCB (rLen' K) (tCons (tVar 3) tNil)) (tCons (tVar 3) tNil))) [3]) tNil))) (gName 2)
  (tIfS (tOr (tTest (tOp (rEq' K) (tCB (rLen' K) (tCons (tVar 1) tNil)) (tC (.int 0)))) (tTest (tOp (rNe' K) (tOp (rIx' K) (tVar 1) (tUn rNeg' (tC (.int 1)))) (tOp (rIx' K) (tVar 2) (tC (.int 1))))))
  (tDrop (tBM K "list" rAppend (tVar 1) (tCons (tOp (rIx' K) (tVar 2) (tC (.int 1))) tNil)))
  tNext))
  (tRet (tCB (rTuple' K) (tCons (tVar 1) tNil)))))
open Pm
def sD (p : List Nat) : D := .str (mkS p)
abbrev PD (ps : List (List Nat)) : List D := ps.map sD
section
variable {K : PySem.W.Frag} {W : WX} {δ : DEnv} {ta : TA}
theorem fm_map {α β : Type} (g : α → β) (l : List α) : (List.range l.length).filterMap (fun i => (l[i]?).map g) = l.map g := by
  have : ∀ n, n ≤ l.length → (List.range n).filterMap (fun k => (l[k]?).map g) = (l.take n).map g := by
    intro n
    induction n with
    | zero => intro _; rfl
    | succ n ih =>
      intro hn
      have hx : l[n]? = some l[n] := List.getElem?_eq_getElem (by omega)
      rw [List.range_succ, List.filterMap_append, ih (by omega), List.take_add_one, List.map_append]
      simp only [List.filterMap_cons, List.filterMap_nil, hx, Option.map_some, Option.toList_some, List.map_cons, List.map_nil]
  have := this l.length (Nat.le_refl _)
  rw [List.take_length] at this
  exact this
theorem cut_to (p : List Nat) (n : Nat) : cutS (mkS p) none (some (n : Int)) = mkS (p.take n) := by
  unfold cutS
  rw [mkS_cps, mkS_len, HT.sIx_nat, HT.sIx_none, List.drop_zero, Nat.sub_zero]
  unfold mkS
  congr 1
  congr 1
  by_cases h : n ≤ p.length
  · rw [Nat.min_eq_left h]
  · rw [Nat.min_eq_right (by omega), List.take_length, List.take_of_length_le (by omega)]
theorem sD_len {p : List Nat} {n : Nat} (h : p.length ≤ n) : (mkS p).length ≤ n := by rw [mkS_len]; exact h
/-- pairs of signs -/
def zipS (x y : Str) : List D := (x.cps.toList.zip y.cps.toList).map fun c => .tup [.str ⟨#[c.1]⟩, .str ⟨#[c.2]⟩]
theorem it_zipS {x y : Str} (h : DA K δ ta [.str x, .str y]) : DI K δ (iZipS ta) (zipS x y) := fun H R σ Rk s ev q =>
  h H R σ _ s ev fun vs H1 R1 g r => by
    obtain ⟨v, u, rfl, r1, r2⟩ := rep2 r
    cases r1; cases r2
    have hl : (zipS x y).length = min x.cps.size y.cps.size := by simp [zipS]
    refine ⟨x, y, rfl, q _ H1 R1 g ⟨fun i H v H' => (ItzS x y).yld i H v H', ⟨fun i H hi _ => ?_, fun H _ => ?_, fun i H x H' _ _ y => y⟩, ?_⟩⟩
    · rw [hl] at hi
      exact ⟨by omega, by omega⟩
    · rw [hl]
      exact ⟨by omega, by omega, by omega⟩
    · rintro i H R2 v H' hi s1 s2 ⟨T, c, d, rfl, hT, rfl, hc, hd⟩
      have g2 := Gr.new (u := .tup [.str ⟨#[c]⟩, .str ⟨#[d]⟩]) s2 hT
      refine ⟨.tup [.str ⟨#[c]⟩, .str ⟨#[d]⟩], upd R2 T (.tup [.str ⟨#[c]⟩, .str ⟨#[d]⟩]), ?_, g2, .tup (SqT.of upd_same) (.cons (.str _) (.cons (.str _) .nil))⟩
      unfold zipS
      rw [List.getElem?_map]
      have e1 : (x.cps.toList.zip y.cps.toList)[i]? = some (c, d) := by
        rw [List.getElem?_zip_eq_some]
        exact ⟨by rw [Array.getElem?_toList]; exact hc, by rw [Array.getElem?_toList]; exact hd⟩
      rw [e1]
      rfl
/-! is_path -/
def pathB (s : Str) : D → Bool
  | .str x => x.cps.toList.all fun c => decide (c ∈ s.cps.toList)
  | _ => false
def relIsPath (ds : List D) (r : Res) : Prop := ∃ (v : D) (s : Str), ds = [v, .str s] ∧ v.isV = false ∧ (∀ x, v = .str x → x.length ≤ 10000000) ∧ r = .rt (.bl (pathB s v))
theorem is_path_wp (ds : List D) (r : Res) (h : relIsPath ds r) : WP K W (ds.map Sl.va ++ List.replicate (3 - ds.length) Sl.no) (t_is_path K) (fun o => Fits o r) := by
  obtain ⟨v, s, rfl, hv, hl, rfl⟩ := h
  show WP K W [.va v, .va (.str s), .no] _ _
  unfold t_is_path
  by_cases hs : ∃ x, v = .str x
  · obtain ⟨x, rfl⟩ := hs
    apply q_ifF false
    · exact dt_is (dt_not (dt_tru (d_cb (d_acons (d_var rfl) (d_acons d_val d_anil)) (c_isi1 (b := true) rfl rfl)) trivial)) rfl
    apply q_next
    apply q_last
    have hx := hl x rfl
    have hz : x.cps.toList.length ≤ 10000000 := by simpa [Str.length] using hx
    refine q_ret false (d_cb (d_acons (DL.de (ds := (x.cps.toList.map fun c => decide (c ∈ s.cps.toList)).map D.bl) (dl_lc (it_str (d_var rfl)) (fun i => (x.cps.toList[i]?).map fun c => D.bl (decide (c ∈ s.cps.toList))) (fun i => [(2, ((signs x)[i]?).getD .non)]) (fun i d hd => ?_) (fun i d hd => ?_) ?_ ?_)) d_anil) c_allB) ?_
    · rw [hd]
      exact ⟨g_name', fun p hp => by rw [List.mem_singleton.mp hp]; exact List.mem_singleton.mpr rfl⟩
    · rw [hd]
      unfold signs at hd
      rw [List.getElem?_map] at hd
      cases e : x.cps.toList[i]? with
      | none => rw [e] at hd; cases hd
      | some c =>
        rw [e] at hd
        have hd' : d = .str ⟨#[c]⟩ := (Option.some.inj hd).symm
        subst hd'
        refine ⟨dt_yes, fun y hy => ?_⟩
        have hy' : y = D.bl (decide (c ∈ s.cps.toList)) := (Option.some.inj hy).symm
        subst hy'
        exact d_op (d_var rfl) (d_var rfl) o_inS
    · unfold signs
      rw [List.length_map]
      exact hz
    · unfold signs
      rw [List.length_map, fm_map, List.map_map]
      rfl
    · show D.bl _ = D.bl _
      simp [pathB, List.all_map]
  · have h1 : kitB v.typ "str" = some false := by
      cases v <;> first
        | rfl
        | exact absurd ⟨_, rfl⟩ hs
        | (cases hv)
    apply q_ifT false
    · exact dt_is (dt_not (dt_tru (d_cb (d_acons (d_var rfl) (d_acons d_val d_anil)) (c_isi1 (b := false) hv h1)) trivial)) rfl
    · apply q_ret false d_bl
      show D.bl _ = D.bl _
      cases v <;> first
        | rfl
        | exact absurd ⟨_, rfl⟩ hs
/-! begins, apart -/
def relBegins (ds : List D) (r : Res) : Prop := ∃ p q : List Nat, ds = [sD p, sD q] ∧ r = .rt (.bl (decide (p <+: q)))
theorem begins_wp (ds : List D) (r : Res) (h : relBegins ds r) : WP K W (ds.map Sl.va ++ List.replicate (2 - ds.length) Sl.no) (t_begins K) (fun o => Fits o r) := by
  obtain ⟨p, q, rfl, rfl⟩ := h
  show WP K W [.va (sD p), .va (sD q)] _ _
  unfold t_begins
  apply q_last
  refine q_ret false (d_starts (x := mkS q) (y := mkS p) (d_var rfl) (d_acons (d_var rfl) d_anil)) ?_
  show D.bl _ = D.bl _
  rw [starts]
def relApart (ds : List D) (r : Res) : Prop := ∃ p q : List Nat, ds = [sD p, sD q] ∧ r = .rt (.bl (!decide (p <+: q) && !decide (q <+: p)))
theorem apart_wp (ds : List D) (r : Res) (h : relApart ds r) : WP K W (ds.map Sl.va ++ List.replicate (2 - ds.length) Sl.no) (t_apart K (spD K relBegins)) (fun o => Fits o r) := by
  obtain ⟨p, q, rfl, rfl⟩ := h
  show WP K W [.va (sD p), .va (sD q)] _ _
  unfold t_apart
  apply q_last
  refine q_ret false (d_andT (x := .bl (!decide (p <+: q))) (y := .bl (!decide (q <+: p))) (d_notT (d_call (d_acons (d_var rfl) (d_acons (d_var rfl) d_anil)) (show relBegins _ _ from ⟨p, q, rfl, rfl⟩)) trivial) trivial (fun _ => d_notT (d_call (d_acons (d_var rfl) (d_acons (d_var rfl) d_anil)) (show relBegins _ _ from ⟨q, p, rfl, rfl⟩)) trivial) rfl) ?_
  show (if (!decide (p <+: q)) = true then D.bl (!decide (q <+: p)) else D.bl (!decide (p <+: q))) = D.bl _
  cases decide (p <+: q) <;> simp
/-! common -/
def relCommon (ds : List D) (r : Res) : Prop := ∃ p q : List Nat, ds = [sD p, sD q] ∧ p.length ≤ 1000000 ∧ q.length ≤ 1000000 ∧ r = .rt (sD (cpr p q))
theorem common_wp (ds : List D) (r : Res) (h : relCommon ds r) : WP K W (ds.map Sl.va ++ List.replicate (5 - ds.length) Sl.no) (t_common K) (fun o => Fits o r) := by
  obtain ⟨p, q, rfl, hp, hq, rfl⟩ := h
  show WP K W [.va (sD p), .va (sD q), .no, .no, .no] _ _
  unfold t_common
  have hcl := cpr_len p q
  have fin : ∀ (S : SEnv) (i : Nat), wk S [.va (sD p), .va (sD q), .va (.int (i : Int)), .no, .no] → i = (cpr p q).length → WP K W S (tRet (tSl (rSl' K) (tVar 0) tNoPart (tPart (tVar 2)))) (fun o => Fits o (.rt (sD (cpr p q)))) := by
    intro S i w hi
    refine q_weak w ?_
    apply q_last
    refine q_ret false (d_cutS (z := mkS p) (d_var rfl) d_noPart (d_part (d_var rfl)) (small (sD_len (by omega)))) ?_
    show D.str _ = D.str _
    rw [cut_to, hi, cpr_pre]
  apply q_set false d_int (fun z => nomatch z)
  have hzl : (zipS (mkS p) (mkS q)).length = min p.length q.length := by simp [zipS, mkS_cps]
  refine q_forP (it_zipS (x := mkS p) (y := mkS q) (d_acons (d_var rfl) (d_acons (d_var rfl) d_anil))) (fun i S => S = [.va (sD p), .va (sD q), .va (.int (i : Int)), .no, .no] ∧ i ≤ (cpr p q).length) [.va (sD p), .va (sD q), .va (.int ((0 : Nat) : Int)), .no, .no] (wk.refl _) ⟨rfl, Nat.zero_le _⟩ ?_ ?_
  · rintro i d S hd ⟨rfl, hi⟩
    unfold zipS at hd
    rw [mkS_cps, mkS_cps, List.getElem?_map] at hd
    cases e : (p.zip q)[i]? with
    | none => rw [e] at hd; cases hd
    | some c =>
      obtain ⟨a, b⟩ := c
      rw [e] at hd
      have hd' : d = .tup [.str ⟨#[a]⟩, .str ⟨#[b]⟩] := (Option.some.inj hd).symm
      subst hd'
      obtain ⟨e1, e2⟩ := List.getElem?_zip_eq_some.mp e
      have hip : i < p.length := (List.getElem?_eq_some_iff.mp e1).1
      have hiq : i < q.length := (List.getElem?_eq_some_iff.mp e2).1
      have htk := cpr_take p q i (by omega) (by omega)
      have htk1 := cpr_take p q (i + 1) (by omega) (by omega)
      refine ⟨_, g_tup (g_cons g_name' (g_cons g_name' g_nil)) rfl, ?_⟩
      have hne : (!decide ((⟨#[a]⟩ : Str) = ⟨#[b]⟩)) = !decide (a = b) := by
        by_cases hab : a = b
        · subst hab; simp
        · have : ¬ ((⟨#[a]⟩ : Str) = ⟨#[b]⟩) := fun z => hab (by simpa using z)
          simp [hab, this]
      apply q_if false (dt_test (d_op (d_var rfl) (d_var rfl) o_nes))
      · intro hb
        rw [hne] at hb
        have hab : a ≠ b := by simpa using hb
        apply q_brk
        refine fin _ i ⟨.inr rfl, .inr rfl, .inr rfl, .inl rfl, .inl rfl, trivial⟩ ?_
        have : ¬ i + 1 ≤ (cpr p q).length := fun z => by
          have h1 := htk1.mpr z
          rw [List.take_add_one, List.take_add_one, e1, e2] at h1
          have h2 := List.append_inj' h1 rfl
          simp at h2
          exact hab h2.2
        omega
      · intro hb
        rw [hne] at hb
        have hab : a = b := by simpa using hb
        apply q_next
        apply q_last
        apply q_set false (d_op (d_var rfl) d_int o_addi) (fun z => nomatch z)
        apply q_nx
        refine ⟨_, ?_, rfl, ?_⟩
        · refine ⟨.inr rfl, .inr rfl, .inr ?_, .inl rfl, .inl rfl, trivial⟩
          simp
        · refine htk1.mp ?_
          rw [List.take_add_one, List.take_add_one, e1, e2, htk.mpr hi, hab]
  · rintro S ⟨rfl, hi⟩
    rw [hzl] at hi ⊢
    exact fin _ _ (wk.refl _) (by omega)
/-! _law_common -/
theorem lcommon_wp (ds : List D) (r : Res) (h : relCommon ds r) : WP K W (ds.map Sl.va ++ List.replicate (4 - ds.length) Sl.no) (t__law_common K) (fun o => Fits o r) := by
  obtain ⟨p, q, rfl, hp, hq, rfl⟩ := h
  show WP K W [.va (sD p), .va (sD q), .no, .no] _ _
  unfold t__law_common
  have hcl := cpr_len p q
  apply q_set false d_int (fun z => nomatch z)
  have hmin : (if ((mkS q).length : Int) < ((mkS p).length : Int) then ((mkS q).length : Int) else ((mkS p).length : Int)) = ((min p.length q.length : Nat) : Int) := by
    rw [mkS_len, mkS_len]
    split <;> omega
  refine q_forP (it_rng1 (m := ((min p.length q.length : Nat) : Int)) (n := min p.length q.length) (d_acons (de_is (d_cb (d_acons (d_cb (d_acons (d_var rfl) d_anil) (c_lens (small (sD_len (by omega))))) (d_acons (d_cb (d_acons (d_var rfl) d_anil) (c_lens (small (sD_len (by omega))))) d_anil)) c_min2) (by rw [← hmin])) d_anil) (by simp) (by omega))
    (fun i S => S = [.va (sD p), .va (sD q), .va (.int ((min i (cpr p q).length : Nat) : Int)), .no]) [.va (sD p), .va (sD q), .va (.int ((min 0 (cpr p q).length : Nat) : Int)), .no] (by rw [Nat.zero_min]; exact wk.refl _) rfl ?_ ?_
  · rintro i d S hd rfl
    obtain ⟨hi, rfl⟩ := rngD_val hd
    have htk1 := cpr_take p q (i + 1) (by omega) (by omega)
    refine ⟨_, g_name', ?_⟩
    have hcut : ∀ (z : List Nat), z.length ≤ 1000000 → ∀ j, (fz false [.va (sD p), .va (sD q), .va (.int ((min i (cpr p q).length : Nat) : Int)), .va (.int (i : Int))])[j]? = some (some (sD z)) →
        DE K (fz false [.va (sD p), .va (sD q), .va (.int ((min i (cpr p q).length : Nat) : Int)), .va (.int (i : Int))]) (tSl (rSl' K) (tVar j) tNoPart (tPart (tOp (rAdd' K) (tVar 3) (tC (.int 1))))) (.str (mkS (z.take (i + 1)))) := by
      intro z hz j hj
      refine de_is (d_cutS (z := mkS z) (d_var hj) d_noPart (d_part (d_op (d_var rfl) d_int o_addi)) (small (sD_len (by omega)))) ?_
      show D.str _ = D.str _
      rw [← cut_to]
      rfl
    have heq : decide ((mkS (p.take (i + 1))) = mkS (q.take (i + 1))) = decide (i + 1 ≤ (cpr p q).length) := by
      by_cases hc : i + 1 ≤ (cpr p q).length
      · rw [decide_eq_true hc, htk1.mpr hc]; simp
      · rw [decide_eq_false hc]
        exact decide_eq_false fun z => hc (htk1.mp (mkS_inj z))
    apply q_last
    apply q_if false (dt_test (d_op (hcut p hp 0 rfl) (hcut q hq 1 rfl) o_eqs))
    · intro hb
      rw [heq] at hb
      have hc := of_decide_eq_true hb
      apply q_set false (d_op (d_var rfl) d_int o_addi) (fun z => nomatch z)
      apply q_nx
      refine ⟨_, ?_, rfl⟩
      refine ⟨.inr rfl, .inr rfl, .inr ?_, .inl rfl, trivial⟩
      rw [Nat.min_eq_left hc]
      simp
    · intro hb
      rw [heq] at hb
      have hc := of_decide_eq_false hb
      apply q_next
      apply q_nx
      refine ⟨_, ?_, rfl⟩
      refine ⟨.inr rfl, .inr rfl, .inr ?_, .inl rfl, trivial⟩
      have e1 : min i (cpr p q).length = min (i + 1) (cpr p q).length := by omega
      rw [← e1]
  · rintro S rfl
    rw [rngD_len]
    apply q_last
    refine q_ret false (d_cutS (z := mkS p) (d_var rfl) d_noPart (d_part (d_var rfl)) (small (sD_len (by omega)))) ?_
    show D.str _ = D.str _
    rw [cut_to, Nat.min_eq_right (by omega), cpr_pre]
/-! path_key, in_order -/
def relKey (ds : List D) (r : Res) : Prop := ∃ p : List Nat, ds = [sD p] ∧ p.length ≤ 10000000 ∧ r = .rt (.tup [.int p.length, sD p])
theorem path_key_wp (ds : List D) (r : Res) (h : relKey ds r) : WP K W (ds.map Sl.va ++ List.replicate (1 - ds.length) Sl.no) (t_path_key K) (fun o => Fits o r) := by
  obtain ⟨p, rfl, hp, rfl⟩ := h
  show WP K W [.va (sD p)] _ _
  unfold t_path_key
  apply q_last
  refine q_ret false (d_tup (d_acons (d_cb (d_acons (d_var rfl) d_anil) (c_lens (small (sD_len hp)))) (d_acons (d_var rfl) d_anil)) (by simp)) ?_
  show D.tup [.int ((mkS p).length : Int), _] = D.tup [.int (p.length : Int), _]
  rw [mkS_len]
def kP (p : List Nat) : L2.Key := .inr (mkS p)
theorem kP_inj {p q : List Nat} (h : kP p = kP q) : p = q := mkS_inj (Sum.inr.inj h)
theorem hasK_path {l : List (List Nat)} {p : List Nat} : hasK (l.map kP) (kP p) = decide (p ∈ l) := by
  rw [Bool.eq_iff_iff, hasK_iff, decide_eq_true_iff, List.mem_map]
  constructor
  · rintro ⟨q, h, e⟩
    exact kP_inj e ▸ h
  · exact fun h => ⟨p, h, rfl⟩
theorem dc_once (ps : List (List Nat)) (f : Nat → Option (L2.Key × D)) (hf : ∀ i p, ps[i]? = some p → f i = some (kP p, .bl true)) : ∀ n, n ≤ ps.length → (dcAcc f n).1 = (once (ps.take n)).map kP
  | 0, _ => by simp [dcAcc, once]
  | n + 1, hn => by
    have hx : ps[n]? = some ps[n] := List.getElem?_eq_getElem (by omega)
    have ih := dc_once ps f hf n (by omega)
    rw [dcAcc, hf n _ hx]
    dsimp only
    rw [ih, List.take_add_one, hx, Option.toList_some, once_snoc]
    unfold putKs
    rw [hasK_path]
    by_cases h : ps[n] ∈ once (ps.take n)
    · rw [if_pos (decide_eq_true h), if_pos h]
    · rw [if_neg (by simpa using h), if_neg h, List.map_append]
      rfl
/-- the row of paths, a list or a tuple -/
def IsRowP (x : D) (ps : List (List Nat)) : Prop := (x = .lst (PD ps) ∨ x = .tup (PD ps)) ∧ ps.length ≤ 10000000 ∧ ∀ p ∈ ps, p.length ≤ 10000000
def relInOrder (ds : List D) (r : Res) : Prop := ∃ (x : D) (ps : List (List Nat)), ds = [x] ∧ IsRowP x ps ∧ r = .rt (.tup (PD (ordS ps)))
theorem it_row {te : TE} {x : D} {ds : List D} (h : DE K δ te x) (hx : x = .lst ds ∨ x = .tup ds) : DI K δ (iAny K te) ds := by
  rcases hx with rfl | rfl
  · exact it_lst h
  · exact it_tup h
def keyD : D → D
  | .str x => .tup [.int x.length, .str x]
  | d => d
theorem encKey (p : List Nat) : encD (keyD (sD p)) = keyP p := by
  show encD (.tup [.int ((mkS p).length : Int), .str (mkS p)]) = _
  rw [mkS_len]
  simp [encD, encL, keyP]
theorem sortD_path (l : List (List Nat)) : (PD l).mergeSort (PySem.W.dataLe false fun d => encD (keyD d)) = PD (l.mergeSort leP) := by
  refine (List.map_mergeSort (f := sD) (r := leP) (s := PySem.W.dataLe false fun d => encD (keyD d)) fun a _ b _ => ?_).symm
  rw [← dataLe_path]
  show PySem.W.dataLe false keyP a b = PySem.W.dataLe false (fun d => encD (keyD d)) (sD a) (sD b)
  have e1 : PySem.W.dataLe false keyP a b = !PySem.W.dataLt (keyP b) (keyP a) := rfl
  have e2 : PySem.W.dataLe false (fun d => encD (keyD d)) (sD a) (sD b) = !PySem.W.dataLt (encD (keyD (sD b))) (encD (keyD (sD a))) := rfl
  rw [e1, e2, encKey, encKey]
theorem mem_PD {l : List (List Nat)} {d : D} (h : d ∈ PD l) : ∃ p ∈ l, d = sD p := by
  obtain ⟨p, hp, rfl⟩ := List.mem_map.mp h
  exact ⟨p, hp, rfl⟩
theorem once_len (l : List (List Nat)) : (once l).length ≤ l.length := by
  have : ∀ (l acc : List (List Nat)), (l.foldl (fun acc p => if p ∈ acc then acc else acc ++ [p]) acc).length ≤ acc.length + l.length := by
    intro l
    induction l with
    | nil => intro acc; simp
    | cons p l ih =>
      intro acc
      rw [List.foldl_cons]
      refine Nat.le_trans (ih _) ?_
      split
      · simp
      · simp; omega
  have h := this l []
  rw [List.length_nil, Nat.zero_add] at h
  exact h
theorem in_order_wp {f : Addr} (ds : List D) (r : Res) (h : relInOrder ds r) : WP K W (ds.map Sl.va ++ List.replicate (3 - ds.length) Sl.no) (t_in_order K f (spD K relKey)) (fun o => Fits o r) := by
  obtain ⟨x, ps, rfl, ⟨hx, hn, hb⟩, rfl⟩ := h
  show WP K W [.va x, .no, .no] _ _
  unfold t_in_order
  have hd : DE K (fz false [.va x, .no, .no]) (tDc (iAny K (tVar 0)) (gName 2) tYes (tVar 2) (tC (.bl true)) [2]) (.dct ((once ps).map kP) (dcAcc (fun i => (ps[i]?).map fun p => (kP p, D.bl true)) ps.length).2) := by
    refine DNw.de (dn_dc (it_row (d_var rfl) hx) (fun i => (ps[i]?).map fun p => (kP p, D.bl true)) (fun i => [(2, ((PD ps)[i]?).getD .non)]) (fun i d hd => ?_) (fun i d hd => ?_) (by rw [List.length_map]; exact hn) ?_)
    · rw [hd]
      exact ⟨g_name', fun p hp => by rw [List.mem_singleton.mp hp]; exact List.mem_singleton.mpr rfl⟩
    · rw [hd]
      rw [List.getElem?_map] at hd
      cases e : ps[i]? with
      | none => rw [e] at hd; cases hd
      | some p =>
        rw [e] at hd
        have hd' : d = sD p := (Option.some.inj hd).symm
        subst hd'
        refine ⟨dt_yes, fun k y hy => ?_⟩
        have hy' := Option.some.inj hy
        cases hy'
        exact ⟨d_var rfl, d_bl⟩
    · have e := dc_once ps (fun i => (ps[i]?).map fun p => (kP p, D.bl true)) (fun i p h => by show (ps[i]?).map _ = _; rw [h]; rfl) ps.length (Nat.le_refl _)
      rw [List.take_length] at e
      rw [List.length_map, ← e]
  apply q_set false hd (fun z => nomatch z)
  apply q_last
  have hk : ∀ d ∈ PD (once ps), ∃ p, d = sD p ∧ p.length ≤ 10000000 := fun d hd => by
    obtain ⟨p, hp, rfl⟩ := mem_PD hd
    exact ⟨p, rfl, hb p ((once_mem _ ps rfl p).mp hp)⟩
  have hol := once_len ps
  have hlk : (once ps).length ≤ 10000000 := by omega
  refine q_ret false (d_cb (d_acons (DL.de (ds := PD (ordS ps)) (dl_sortedKey (ds := PD (once ps)) (rel := relKey) keyD (d_acons (DL.de (dl_is (dl_listK (d_acons (d_var rfl) d_anil) (by rw [List.length_map]; exact hlk)) ?_)) d_anil) ?_ ?_ ?_ ?_ ?_ ?_ ?_)) d_anil) c_tupL) rfl
  · rw [List.map_map]
    rfl
  · intro d hd
    obtain ⟨p, rfl, hp⟩ := hk d hd
    refine ⟨p, rfl, hp, ?_⟩
    show Res.rt (.tup [.int ((mkS p).length : Int), .str (mkS p)]) = _
    rw [mkS_len]
    rfl
  · intro d hd
    obtain ⟨p, rfl, _⟩ := hk d hd
    rfl
  · rw [List.map_map]
    refine (show ((once ps).map ((fun d => encD (keyD d)) ∘ sD)) = (once ps).map keyP from List.map_congr_left fun p _ => encKey p) ▸ ?_
    exact PySem.W.AllAlike.of fun a b => by show PySem.W.alike (encD (keyD (sD a))) (encD (keyD (sD b))) = true; rw [encKey, encKey]; simp [keyP, PySem.W.alike, PySem.W.alikeAll]
  · rw [List.map_map]
    refine (show ((once ps).map ((fun d => encD (keyD d)) ∘ sD)) = (once ps).map keyP from List.map_congr_left fun p _ => encKey p) ▸ ?_
    exact PySem.W.Sortable.tuples fun p => ⟨_, _, rfl⟩
  · intro d hd
    obtain ⟨p, rfl, _⟩ := hk d hd
    rw [encKey]
    simp [keyP, PyData.depth, PyData.depthAll]
  · rw [List.length_map]
    exact hlk
  · exact sortD_path _
/-! closed -/
theorem putKs_path {l : List (List Nat)} {p : List Nat} : putKs (l.map kP) (kP p) = (if p ∈ l then l else l ++ [p]).map kP := by
  unfold putKs
  rw [hasK_path]
  by_cases h : p ∈ l
  · rw [if_pos (decide_eq_true h), if_pos h]
  · rw [if_neg (by simpa using h), if_neg h, List.map_append]
    rfl
def relClosed (ds : List D) (r : Res) : Prop := ∃ (x : D) (ps : List (List Nat)), ds = [x] ∧ (x = .lst (PD ps) ∨ x = .tup (PD ps)) ∧ ps.length ≤ 9000 ∧ (∀ p ∈ ps, p.length ≤ 1000) ∧ r = .rt (.tup (PD (ordS (prefs ps))))
theorem prefs_snoc {ps : List (List Nat)} {i : Nat} {p x : List Nat} (h : ps[i]? = some p) : x ∈ prefs (ps.take (i + 1)) ↔ x ∈ prefs (ps.take i) ∨ x <+: p := by
  rw [List.take_add_one, h, prefs_mem, prefs_mem]
  constructor
  · rintro ⟨q, hq, hx⟩
    rcases List.mem_append.mp hq with hq | hq
    · exact .inl ⟨q, hq, hx⟩
    · have : q = p := by simpa using hq
      exact .inr (this ▸ hx)
  · rintro (⟨q, hq, hx⟩ | hx)
    · exact ⟨q, List.mem_append_left _ hq, hx⟩
    · exact ⟨p, by simp, hx⟩
theorem prefs_down {ps : List (List Nat)} {x y : List Nat} (h : x ∈ prefs ps) (hy : y <+: x) : y ∈ prefs ps := by
  obtain ⟨p, hp, hx⟩ := prefs_mem.mp h
  exact prefs_mem.mpr ⟨p, hp, hy.trans hx⟩
theorem closed_wp (ds : List D) (r : Res) (h : relClosed ds r) : WP K W (ds.map Sl.va ++ List.replicate (4 - ds.length) Sl.no) (t_closed K (spD K relInOrder)) (fun o => Fits o r) := by
  obtain ⟨x, ps, rfl, hx, hn, hb, rfl⟩ := h
  show WP K W [.va x, .no, .no, .no] _ _
  unfold t_closed
  apply q_setN false dn_dict0 (fun z => nomatch z)
  refine q_forP (it_row (d_var rfl) hx) (fun i S => ∃ (qs : List (List Nat)) (vs : List D), S = [.va x, .ow (.dct (qs.map kP) vs), .no, .no] ∧ (∀ y, y ∈ qs ↔ y ∈ prefs (ps.take i)) ∧ qs.length ≤ i * 1001) [.va x, .ow (.dct (([] : List (List Nat)).map kP) []), .no, .no] (wk.refl _) ⟨[], [], rfl, fun y => by simp [prefs], Nat.zero_le _⟩ ?_ ?_
  · rintro i d S hd ⟨qs, vs, rfl, hm, hl⟩
    rw [List.getElem?_map] at hd
    cases hp : ps[i]? with
    | none => rw [hp] at hd; cases hd
    | some p =>
      rw [hp] at hd
      have hd' : d = sD p := (Option.some.inj hd).symm
      subst hd'
      have hpl := hb p (List.mem_of_getElem? hp)
      have hil : i < ps.length := (List.getElem?_eq_some_iff.mp hp).1
      refine ⟨_, g_name', ?_⟩
      show WP K W [.va x, .ow (.dct (qs.map kP) vs), .va (sD p), .no] _ _
      apply q_last
      refine q_forP (it_rngDn (a1 := (p.length : Int)) (b1 := -1) (n := p.length + 1) (d_acons (de_is (d_cb (d_acons (d_var rfl) d_anil) (c_lens (small (sD_len (by omega))))) (by rw [mkS_len])) (d_acons (d_neg d_int) (d_acons (d_neg d_int) d_anil))) (by omega) (by omega))
        (fun j S => ∃ (qs' : List (List Nat)) (vs' : List D), S = [.va x, .ow (.dct (qs'.map kP) vs'), .va (sD p), .no] ∧ (∀ y, y ∈ qs' ↔ y ∈ prefs (ps.take i) ∨ ∃ m, p.length < m + j ∧ m ≤ p.length ∧ y = p.take m) ∧ qs'.length ≤ i * 1001 + j) [.va x, .ow (.dct (qs.map kP) vs), .va (sD p), .no] (wk.refl _)
        ⟨qs, vs, rfl, fun y => ?_, hl⟩ ?_ ?_
      · rw [hm]
        constructor
        · exact .inl
        · rintro (h | ⟨m, h1, h2, _⟩)
          · exact h
          · omega
      · rintro j d S hd ⟨qs', vs', rfl, hm', hl'⟩
        obtain ⟨hj, rfl⟩ := rngDn_val hd
        refine ⟨_, g_name', ?_⟩
        show WP K W [.va x, .ow (.dct (qs'.map kP) vs'), .va (sD p), .va (.int ((p.length : Int) - (j : Int)))] _ _
        have hcnt : (p.length : Int) - (j : Int) = ((p.length - j : Nat) : Int) := by omega
        have hcut : ∀ l : Bool, DE K (fz l [.va x, .ow (.dct (qs'.map kP) vs'), .va (sD p), .va (.int ((p.length : Int) - (j : Int)))]) (tSl (rSl' K) (tVar 2) tNoPart (tPart (tVar 3))) (kD (kP (p.take (p.length - j)))) := by
          intro l
          refine de_is (d_cutS (z := mkS p) (d_var (d := sD p) (by cases l <;> rfl)) d_noPart (d_part (d_var (d := .int ((p.length : Int) - (j : Int))) (by cases l <;> rfl))) (small (sD_len (by omega)))) ?_
          show D.str _ = D.str _
          rw [hcnt, cut_to]
        apply q_if true (dt_test (d_op (hcut true) (d_var rfl) o_inK))
        · intro hb'
          rw [hasK_path] at hb'
          have hin := of_decide_eq_true hb'
          apply q_brk
          apply q_nx
          refine ⟨_, ?_, qs', vs', rfl, fun y => ?_, ?_⟩
          · exact ⟨.inr rfl, .inr rfl, .inl rfl, .inl rfl, trivial⟩
          · rw [prefs_snoc hp, hm']
            have hold : p.take (p.length - j) ∈ prefs (ps.take i) := by
              rcases (hm' _).mp hin with h | ⟨m, h1, h2, h3⟩
              · exact h
              · have := congrArg List.length h3
                rw [List.length_take, List.length_take] at this
                omega
            constructor
            · rintro (h | ⟨m, h1, h2, rfl⟩)
              · exact .inl h
              · exact .inr (List.take_prefix _ _)
            · rintro (h | h)
              · exact .inl h
              · have e := List.prefix_iff_eq_take.mp h
                have hle := h.length_le
                by_cases hc : y.length ≤ p.length - j
                · refine .inl (prefs_down hold ?_)
                  rw [e]
                  refine List.prefix_iff_eq_take.mpr ?_
                  rw [List.length_take, List.take_take]
                  congr 1
                  omega
                · exact .inr ⟨y.length, by omega, hle, e⟩
          · omega
        · intro hb'
          rw [hasK_path] at hb'
          have hout := of_decide_eq_false hb'
          apply q_next
          apply q_last
          refine q_dput false (k := kP (p.take (p.length - j))) rfl d_bl (fun z => nomatch z) (hcut false) (by rw [List.length_map]; omega) ?_
          apply q_nx
          refine ⟨_, ?_, qs' ++ [p.take (p.length - j)], putDs (qs'.map kP) vs' (kP (p.take (p.length - j))) (.bl true), rfl, fun y => ?_, ?_⟩
          · refine ⟨.inr rfl, .inr ?_, .inr rfl, .inl rfl, trivial⟩
            rw [putKs_path, if_neg hout]
          · rw [List.mem_append, hm', List.mem_singleton]
            constructor
            · rintro ((h | ⟨m, h1, h2, h3⟩) | h)
              · exact .inl h
              · exact .inr ⟨m, by omega, h2, h3⟩
              · exact .inr ⟨p.length - j, by omega, by omega, h⟩
            · rintro (h | ⟨m, h1, h2, h3⟩)
              · exact .inl (.inl h)
              · by_cases hc : p.length < m + j
                · exact .inl (.inr ⟨m, hc, h2, h3⟩)
                · have : m = p.length - j := by omega
                  exact .inr (this ▸ h3)
          · rw [List.length_append, List.length_singleton]
            omega
      · rintro S ⟨qs', vs', rfl, hm', hl'⟩
        rw [rngDn_len] at hm' hl'
        apply q_nx
        refine ⟨_, ?_, qs', vs', rfl, fun y => ?_, by omega⟩
        · exact ⟨.inr rfl, .inr rfl, .inl rfl, .inl rfl, trivial⟩
        · rw [prefs_snoc hp, hm']
          constructor
          · rintro (h | ⟨m, h1, h2, rfl⟩)
            · exact .inl h
            · exact .inr (List.take_prefix _ _)
          · rintro (h | h)
            · exact .inl h
            · have hle := h.length_le
              exact .inr ⟨y.length, by omega, hle, List.prefix_iff_eq_take.mp h⟩
  · rintro S ⟨qs, vs, rfl, hm, hl⟩
    rw [List.length_map, List.take_length] at hm
    rw [List.length_map] at hl
    apply q_last
    refine q_ret true (d_call (rel := relInOrder) (d_acons (DL.de (dl_listK (d_acons (d_var rfl) d_anil) (by rw [List.length_map]; omega))) d_anil) (show relInOrder _ _ from ⟨_, qs, rfl, ⟨.inl ?_, by omega, fun p hp => ?_⟩, rfl⟩)) ?_
    · rw [List.map_map]
      rfl
    · obtain ⟨q, hq, hpre⟩ := prefs_mem.mp ((hm p).mp hp)
      have := hpre.length_le
      have := hb q hq
      omega
    · show D.tup _ = D.tup _
      rw [ordS_eq hm]
/-! _law_ordered -/
def pairD (p : List Nat) : D := .tup [.int p.length, sD p]
theorem encPair (p : List Nat) : encD (pairD p) = keyP p := by
  unfold pairD sD keyP
  simp [encD, encL]
theorem sortD_pair (l : List (List Nat)) : (l.map pairD).mergeSort (PySem.W.dataLe false encD) = (l.mergeSort leP).map pairD := by
  refine (List.map_mergeSort (f := pairD) (r := leP) (s := PySem.W.dataLe false encD) fun a _ b _ => ?_).symm
  rw [← dataLe_path]
  have e1 : PySem.W.dataLe false keyP a b = !PySem.W.dataLt (keyP b) (keyP a) := rfl
  have e2 : PySem.W.dataLe false encD (pairD a) (pairD b) = !PySem.W.dataLt (encD (pairD b)) (encD (pairD a)) := rfl
  rw [e1, e2, encPair, encPair]
def relLOrdered (ds : List D) (r : Res) : Prop := ∃ ps : List (List Nat), ds = [.lst (PD ps)] ∧ ps.length ≤ 1000000 ∧ (∀ p ∈ ps, p.length ≤ 1000000) ∧ r = .rt (.tup (PD (ordS ps)))
theorem runs_len (l : List (List Nat)) : (runs l).length ≤ l.length := by
  have : ∀ (l acc : List (List Nat)), (l.foldl (fun acc p => if acc.getLast? = some p then acc else acc ++ [p]) acc).length ≤ acc.length + l.length := by
    intro l
    induction l with
    | nil => intro acc; simp
    | cons p l ih =>
      intro acc
      rw [List.foldl_cons]
      refine Nat.le_trans (ih _) ?_
      split
      · simp
      · simp; omega
  have h := this l []
  rw [List.length_nil, Nat.zero_add] at h
  exact h
theorem lordered_wp (ds : List D) (r : Res) (h : relLOrdered ds r) : WP K W (ds.map Sl.va ++ List.replicate (4 - ds.length) Sl.no) (t__law_ordered K) (fun o => Fits o r) := by
  obtain ⟨ps, rfl, hn, hb, rfl⟩ := h
  show WP K W [.va (.lst (PD ps)), .no, .no, .no] _ _
  unfold t__law_ordered
  apply q_setL false (dl_lst d_anil (by simp)) (fun z => nomatch z)
  have hpairs : DL K (fz false [.va (.lst (PD ps)), .ow (.lst []), .no, .no]) (tCB (rSortD K) (tCons (tLc (iAny K (tVar 0)) (gName 3) tYes (tTup (tCons (tCB (rLen' K) (tCons (tVar 3) tNil)) (tCons (tVar 3) tNil))) [3]) tNil)) ((ps.mergeSort leP).map pairD) := by
    refine dl_sorted (ds := ps.map pairD) (d_acons (DL.de (dl_lc (it_lst (d_var rfl)) (fun i => (ps[i]?).map pairD) (fun i => [(3, ((PD ps)[i]?).getD .non)]) (fun i d hd => ?_) (fun i d hd => ?_) (by rw [List.length_map]; omega) (by rw [List.length_map, fm_map]))) d_anil) ?_ ?_ ?_ ?_ (by rw [List.length_map]; omega) (sortD_pair ps)
    · rw [hd]
      exact ⟨g_name', fun p hp => by rw [List.mem_singleton.mp hp]; exact List.mem_singleton.mpr rfl⟩
    · rw [hd]
      rw [List.getElem?_map] at hd
      cases e : ps[i]? with
      | none => rw [e] at hd; cases hd
      | some p =>
        rw [e] at hd
        have hd' : d = sD p := (Option.some.inj hd).symm
        subst hd'
        refine ⟨dt_yes, fun y hy => ?_⟩
        have hy' : y = pairD p := (Option.some.inj hy).symm
        subst hy'
        have hp := hb p (List.mem_of_getElem? e)
        refine de_is (d_tup (d_acons (d_cb (d_acons (d_var rfl) d_anil) (c_lens (small (sD_len (by omega))))) (d_acons (d_var rfl) d_anil)) (by simp)) ?_
        show D.tup [.int ((mkS p).length : Int), _] = D.tup [.int (p.length : Int), _]
        rw [mkS_len]
        rfl
    · intro d hd
      obtain ⟨p, hp, rfl⟩ := List.mem_map.mp hd
      rfl
    · rw [List.map_map]
      exact PySem.W.AllAlike.of fun a b => by rw [show (encD ∘ pairD) a = keyP a from encPair a, show (encD ∘ pairD) b = keyP b from encPair b]; simp [keyP, PySem.W.alike, PySem.W.alikeAll]
    · rw [List.map_map]
      exact PySem.W.Sortable.tuples fun p => ⟨_, _, encPair p⟩
    · intro d hd
      obtain ⟨p, hp, rfl⟩ := List.mem_map.mp hd
      rw [encPair]
      simp [keyP, PyData.depth, PyData.depthAll]
  have hsl : (ps.mergeSort leP).length = ps.length := List.length_mergeSort _
  refine q_forS (it_lst hpairs.de) (fun i => [.va (.lst (PD ps)), .ow (.lst (PD (runs ((ps.mergeSort leP).take i)))), .no, .no]) ⟨.inr rfl, .inr rfl, .inr rfl, .inr rfl, trivial⟩ (fun i d hd => ?_) ?_
  · rw [List.getElem?_map] at hd
    cases e : (ps.mergeSort leP)[i]? with
    | none => rw [e] at hd; cases hd
    | some p =>
      rw [e] at hd
      have hd' : d = pairD p := (Option.some.inj hd).symm
      subst hd'
      have hi : i < ps.length := by rw [← hsl]; exact (List.getElem?_eq_some_iff.mp e).1
      have hrl := runs_len ((ps.mergeSort leP).take i)
      rw [List.length_take] at hrl
      have hnx : (ps.mergeSort leP).take (i + 1) = (ps.mergeSort leP).take i ++ [p] := by rw [List.take_add_one, e]; rfl
      refine ⟨_, g_name', ?_⟩
      apply q_last
      generalize hR : runs ((ps.mergeSort leP).take i) = R at *
      show WP K W [.va (.lst (PD ps)), .ow (.lst (PD R)), .va (pairD p), .no] _ _
      have hp1 : DO K (rIx' K) (pairD p) (.int 1) (sD p) := o_ixt (j := 1) rfl rfl
      apply q_if true (b := decide (¬ R.getLast? = some p))
      · refine dt_is (dt_or (b := decide (R.length = 0)) (c := decide (¬ R.getLast? = some p)) (dt_is (dt_test (d_op (d_cb (d_acons (d_var rfl) d_anil) c_leni) d_int o_eqi)) ?_) (fun hz => ?_)) ?_
        · rw [List.length_map]
          by_cases h0 : R.length = 0
          · simp [h0]
          · have : ¬ ((R.length : Int) = 0) := by omega
            simp [h0, this]
        · have h0 : R.length ≠ 0 := of_decide_eq_false hz
          have hne : R ≠ [] := fun z => h0 (by rw [z]; rfl)
          have hg : R.getLast? = some (R.getLast hne) := List.getLast?_eq_some_getLast hne
          have hix : (PD R)[R.length - 1]? = some (sD (R.getLast hne)) := by
            rw [List.getElem?_map, ← List.getLast?_eq_getElem?, hg]
            rfl
          refine dt_is (dt_test (d_op (d_op (d_var rfl) (d_neg d_int) (o_ixl (j := R.length - 1) ?_ hix)) (d_op (d_var rfl) d_int hp1) o_nes)) ?_
          · unfold ixN
            rw [if_neg (by decide), List.length_map, if_pos (by omega)]
            congr 1
            omega
          · rw [hg]
            by_cases hc : R.getLast hne = p
            · simp [hc]
            · have : ¬ mkS (R.getLast hne) = mkS p := fun z => hc (mkS_inj z)
              simp [hc, this]
        · by_cases h0 : R.length = 0
          · have : R = [] := List.length_eq_zero_iff.mp h0
            subst this
            simp
          · simp [h0]
      · intro hb'
        have hlast : ¬ R.getLast? = some p := of_decide_eq_true hb'
        refine q_app false rfl (d_op (d_var rfl) d_int hp1) (fun z => nomatch z) (by rw [List.length_map]; omega) ?_
        apply q_nx
        refine ⟨.inr rfl, .inr ?_, .inl rfl, .inr rfl, trivial⟩
        rw [hnx, runs_snoc, hR, if_neg hlast, show PD (R ++ [p]) = PD R ++ [sD p] from List.map_append]
      · intro hb'
        have hlast : R.getLast? = some p := Decidable.not_not.mp (of_decide_eq_false hb')
        apply q_next
        apply q_nx
        refine ⟨.inr rfl, .inr ?_, .inl rfl, .inr rfl, trivial⟩
        rw [hnx, runs_snoc, hR, if_pos hlast]
  · rw [List.length_map, List.take_length, runs_sort]
    apply q_last
    refine q_ret true (d_cb (d_acons (d_var rfl) d_anil) c_tupL) rfl
end
end G

set_option Elab.async false
set_option linter.all false
set_option maxRecDepth 100000
set_option maxHeartbeats 4000000
/-! Dcp: comprehensions over data by a function of the item; `and` of truths; literal texts. -/
namespace G
open PySem PySem.Spec PyProof.Rows L2 Pm
section
variable {K : PySem.W.Frag} {W : WX} {δ : DEnv} {ta tb te : TE} {tt : TT} {wi : TI} {xs : List D} {b c : Bool} {i : Nat}
theorem d_andB (h1 : DE K δ ta (.bl b)) (h2 : b = true → DE K δ tb (.bl c)) : DE K δ (tAndT K ta tb) (.bl (b && c)) :=
  d_andT (x := .bl b) (y := .bl c) h1 trivial h2 (by cases b <;> rfl)
theorem setsD_at {i : Nat} {d : D} (h : i < δ.length) : (setsD (wipeD δ [i]) [(i, d)])[i]? = some (some d) := by
  show ((wipeD δ [i]).set i (some d))[i]? = _
  rw [List.getElem?_set_self (by rw [wipeD_len]; exact h)]
theorem fm_filter {f : D → Option D} (l : List D) : (List.range l.length).filterMap (fun i => (l[i]?).bind f) = l.filterMap f := by
  have : ∀ n, n ≤ l.length → (List.range n).filterMap (fun k => (l[k]?).bind f) = (l.take n).filterMap f := by
    intro n
    induction n with
    | zero => intro _; rfl
    | succ n ih =>
      intro hn
      have hx : l[n]? = some l[n] := List.getElem?_eq_getElem (by omega)
      rw [List.range_succ, List.filterMap_append, ih (by omega), List.take_add_one, List.filterMap_append]
      simp only [List.filterMap_cons, List.filterMap_nil, hx, Option.bind_some, Option.toList_some]
  have := this l.length (Nat.le_refl _)
  rw [List.take_length] at this
  exact this
/-- [te for i in wi if tt] -/
theorem dl_mapF (hi : DI K δ wi xs) (f : D → Option D) (h : ∀ d ∈ xs, DT K (setsD (wipeD δ [i]) [(i, d)]) tt (f d).isSome ∧ ∀ y, f d = some y → DE K (setsD (wipeD δ [i]) [(i, d)]) te y) (hl : xs.length ≤ 10000000) :
    DL K δ (tLc wi (gName i) tt te [i]) (xs.filterMap f) := by
  refine dl_lc hi (fun j => (xs[j]?).bind f) (fun j => [(i, (xs[j]?).getD .non)]) (fun j d hd => ?_) (fun j d hd => ?_) hl (fm_filter xs).symm
  · rw [hd]
    exact ⟨g_name', fun p hp => by rw [List.mem_singleton.mp hp]; exact List.mem_singleton.mpr rfl⟩
  · rw [hd]
    exact h d (List.mem_of_getElem? hd)
/-- [te for i in wi] -/
theorem dl_mapL (hi : DI K δ wi xs) (f : D → D) (h : ∀ d ∈ xs, DE K (setsD (wipeD δ [i]) [(i, d)]) te (f d)) (hl : xs.length ≤ 10000000) :
    DL K δ (tLc wi (gName i) tYes te [i]) (xs.map f) := by
  refine dl_is (dl_mapF hi (fun d => some (f d)) (fun d hd => ⟨dt_yes, fun y hy => by cases hy; exact h d hd⟩) hl) ?_
  simp
/-- .. over data told by a plain list -/
theorem dl_mapG {α : Type} {l : List α} {g : α → D} (hi : DI K δ wi (l.map g)) (f : α → Option D) (h : ∀ x ∈ l, DT K (setsD (wipeD δ [i]) [(i, g x)]) tt (f x).isSome ∧ ∀ y, f x = some y → DE K (setsD (wipeD δ [i]) [(i, g x)]) te y) (hl : l.length ≤ 10000000) :
    DL K δ (tLc wi (gName i) tt te [i]) (l.filterMap f) := by
  have e : l.filterMap f = (List.range (l.map g).length).filterMap (fun j => (l[j]?).bind f) := by
    rw [List.length_map]
    have : ∀ n, n ≤ l.length → (List.range n).filterMap (fun k => (l[k]?).bind f) = (l.take n).filterMap f := by
      intro n
      induction n with
      | zero => intro _; rfl
      | succ n ih =>
        intro hn
        have hx : l[n]? = some l[n] := List.getElem?_eq_getElem (by omega)
        rw [List.range_succ, List.filterMap_append, ih (by omega), List.take_add_one, List.filterMap_append]
        simp only [List.filterMap_cons, List.filterMap_nil, hx, Option.bind_some, Option.toList_some]
    have := this l.length (Nat.le_refl _)
    rw [List.take_length] at this
    exact this.symm
  refine dl_lc hi (fun j => (l[j]?).bind f) (fun j => [(i, ((l.map g)[j]?).getD .non)]) (fun j d hd => ?_) (fun j d hd => ?_) (by rw [List.length_map]; exact hl) e
  · rw [hd]
    exact ⟨g_name', fun p hp => by rw [List.mem_singleton.mp hp]; exact List.mem_singleton.mpr rfl⟩
  · have hd0 := hd
    rw [List.getElem?_map] at hd
    cases hx : l[j]? with
    | none => rw [hx] at hd; cases hd
    | some x =>
      rw [hx] at hd
      cases hd
      rw [hd0]
      exact h x (List.mem_of_getElem? hx)
theorem dl_mapLG {α : Type} {l : List α} {g f : α → D} (hi : DI K δ wi (l.map g)) (h : ∀ x ∈ l, DE K (setsD (wipeD δ [i]) [(i, g x)]) te (f x)) (hl : l.length ≤ 10000000) :
    DL K δ (tLc wi (gName i) tYes te [i]) (l.map f) := by
  refine dl_is (dl_mapG hi (fun d => some (f d)) (fun d hd => ⟨dt_yes, fun y hy => by cases hy; exact h d hd⟩) hl) ?_
  simp
/-- all([te for i in wi]) -/
theorem d_allL (hi : DI K δ wi xs) (f : D → Bool) (h : ∀ d ∈ xs, DE K (setsD (wipeD δ [i]) [(i, d)]) te (.bl (f d))) (hl : xs.length ≤ 10000000) :
    DE K δ (tCB (rAll K) (tCons (tLc wi (gName i) tYes te [i]) tNil)) (.bl (xs.all f)) := by
  refine de_is (d_cb (d_acons (DL.de (ds := (xs.map f).map D.bl) (dl_is (dl_mapL hi (fun d => .bl (f d)) h hl) (by simp))) d_anil) c_allB) ?_
  show D.bl _ = D.bl _
  simp [List.all_map]
/-- a text and a literal -/
theorem d_eqL {l z : List Nat} {y : Str} (h : DE K δ te (sD l)) (hz : y.cps.toList = z) : DE K δ (tOp (rEq' K) te (tC (.str y))) (.bl (decide (l = z))) := by
  refine de_is (d_op h d_str o_eqs) ?_
  show D.bl _ = D.bl _
  congr 1
  rw [Bool.eq_iff_iff, decide_eq_true_iff, decide_eq_true_iff]
  constructor
  · intro e
    rw [← hz, ← e, mkS_cps]
  · intro e
    rw [e, ← hz, mkS_of]
theorem d_neL {l z : List Nat} {y : Str} (h : DE K δ te (sD l)) (hz : y.cps.toList = z) : DE K δ (tOp (rNe' K) te (tC (.str y))) (.bl (!decide (l = z))) := by
  refine de_is (d_op h d_str o_nes) ?_
  show D.bl _ = D.bl _
  congr 2
  rw [Bool.eq_iff_iff, decide_eq_true_iff, decide_eq_true_iff]
  constructor
  · intro e
    rw [← hz, ← e, mkS_cps]
  · intro e
    rw [e, ← hz, mkS_of]
theorem d_lit {l : List Nat} {y : Str} (hz : y.cps.toList = l) : DE K δ (tC (.str y)) (sD l) := de_is d_str (by rw [← hz]; unfold sD; rw [mkS_of])
theorem d_len {l : List Nat} (h : DE K δ te (sD l)) (hl : l.length ≤ 1000000) : DE K δ (tCB (rLen' K) (tCons te tNil)) (.int (l.length : Int)) :=
  de_is (d_cb (d_acons h d_anil) (c_lens (small (sD_len (by omega))))) (by rw [mkS_len])
/-- a text's part -/
theorem d_cut {l : List Nat} {to tu : TO} {lo hi : Option Int} (h1 : DE K δ te (sD l)) (h2 : DP K δ to lo) (h3 : DP K δ tu hi) (hl : l.length ≤ 1000000) : DE K δ (tSl (rSl' K) te to tu) (sD (cutD l lo hi)) := by
  refine de_is (d_cutS (z := mkS l) h1 h2 h3 (small (sD_len (by omega)))) ?_
  unfold cutS cutD
  rw [mkS_cps, mkS_len]
  rfl
theorem cutD_nat {α : Type} (xs : List α) (a b : Nat) : cutD xs (some (a : Int)) (some (b : Int)) = (xs.drop a).take (b - a) := by
  unfold cutD
  rw [HT.sIx_nat, HT.sIx_nat]
  by_cases h : a ≤ xs.length
  · rw [Nat.min_eq_left h]
    by_cases h2 : b ≤ xs.length
    · rw [Nat.min_eq_left h2]
    · rw [Nat.min_eq_right (by omega)]
      rw [List.take_of_length_le (by simp), List.take_of_length_le (by simp; omega)]
  · rw [List.drop_eq_nil_of_le (by omega), List.drop_eq_nil_of_le (by omega)]
    simp
theorem cutD_from {α : Type} (xs : List α) (a : Nat) : cutD xs (some (a : Int)) none = xs.drop a := by
  unfold cutD
  rw [HT.sIx_nat, HT.sIx_none]
  by_cases h : a ≤ xs.length
  · rw [Nat.min_eq_left h, List.take_of_length_le (by simp)]
  · rw [Nat.min_eq_right (by omega)]
    simp
    omega
theorem cutD_to {α : Type} (xs : List α) (b : Nat) : cutD xs none (some (b : Int)) = xs.take b := by
  unfold cutD
  rw [HT.sIx_nat, HT.sIx_none, List.drop_zero, Nat.sub_zero]
  by_cases h : b ≤ xs.length
  · rw [Nat.min_eq_left h]
  · rw [Nat.min_eq_right (by omega), List.take_length, List.take_of_length_le (by omega)]
/-- texts together -/
theorem d_cats {l m : List Nat} (h1 : DE K δ ta (sD l)) (h2 : DE K δ tb (sD m)) (hn : l.length + m.length ≤ 1000000) : DE K δ (tOp (rAdd' K) ta tb) (sD (l ++ m)) := by
  refine de_is (d_op h1 h2 (o_adds (small (n := (mkS l).length + (mkS m).length) (by rw [mkS_len, mkS_len]; omega)))) ?_
  show D.str _ = D.str _
  congr 1
  show (⟨l.toArray ++ m.toArray⟩ : Str) = ⟨(l ++ m).toArray⟩
  simp
end
end G

set_option Elab.async false
set_option linter.all false
set_option maxRecDepth 100000
set_option maxHeartbeats 1000000
/-! M01: terms: their forms, texts, readings. -/
namespace Tm
open PySem PySem.Spec G Pm
inductive T where
  | thing (p : List Nat)
  | call (n p : List Nat)
  | deed (n : List Nat) (ps : List T)
def sThing : List Nat := [116, 104, 105, 110, 103]
def sCall : List Nat := [99, 97, 108, 108]
def sDeed : List Nat := [100, 101, 101, 100]
/-- a row: a list or a tuple -/
def mk (f : Bool) (ds : List D) : D := if f then .lst ds else .tup ds
mutual
def T.df (f : Bool) : T → D
  | .thing p => mk f [sD sThing, sD p]
  | .call n p => mk f [sD sCall, sD n, sD p]
  | .deed n ps => mk f [sD sDeed, sD n, mk f (dfL f ps)]
def dfL (f : Bool) : List T → List D
  | [] => []
  | t :: ts => t.df f :: dfL f ts
end
theorem dfL_map (f : Bool) : ∀ ts : List T, dfL f ts = ts.map (T.df f)
  | [] => rfl
  | t :: ts => by rw [dfL, dfL_map f ts]; rfl
mutual
def T.nodes : T → List T
  | .thing p => [.thing p]
  | .call n p => [.call n p]
  | .deed n ps => .deed n ps :: nodesL ps
def nodesL : List T → List T
  | [] => []
  | t :: ts => t.nodes ++ nodesL ts
end
mutual
def T.dep : T → Nat
  | .thing _ => 1
  | .call _ _ => 1
  | .deed _ ps => depL ps + 1
def depL : List T → Nat
  | [] => 0
  | t :: ts => max t.dep (depL ts)
end
theorem nodes_pos (t : T) : 1 ≤ t.nodes.length := by cases t <;> simp [T.nodes]
mutual
theorem dep_nodes : ∀ t : T, t.dep ≤ t.nodes.length
  | .thing _ => by simp [T.dep, T.nodes]
  | .call _ _ => by simp [T.dep, T.nodes]
  | .deed n ps => by
    have := depL_nodes ps
    simp only [T.dep, T.nodes, List.length_cons]
    omega
theorem depL_nodes : ∀ ts : List T, depL ts ≤ (nodesL ts).length
  | [] => by simp [depL]
  | t :: ts => by
    have h1 := dep_nodes t
    have h2 := depL_nodes ts
    simp only [depL, nodesL, List.length_append]
    omega
end
theorem dep_mem {ts : List T} {t : T} (h : t ∈ ts) : t.dep ≤ depL ts := by
  induction ts with
  | nil => cases h
  | cons a ts ih =>
    rw [depL]
    rcases List.mem_cons.mp h with rfl | h
    · omega
    · have := ih h
      omega
theorem nodes_mem {ts : List T} {t : T} (h : t ∈ ts) : t.nodes.length ≤ (nodesL ts).length := by
  induction ts with
  | nil => cases h
  | cons a ts ih =>
    rw [nodesL, List.length_append]
    rcases List.mem_cons.mp h with rfl | h
    · omega
    · have := ih h
      omega
/-! the written form -/
def ptx (p : List Nat) : List Nat := if p = [] then [120] else p
def glue : List (List Nat) → List Nat
  | [] => []
  | [x] => x
  | x :: y :: r => x ++ [44, 32] ++ glue (y :: r)
mutual
def T.wr : T → List Nat
  | .thing p => ptx p
  | .call n p => n ++ [40] ++ ptx p ++ [41]
  | .deed n ps => n ++ [40] ++ glue (wrL ps) ++ [41]
def wrL : List T → List (List Nat)
  | [] => []
  | t :: ts => t.wr :: wrL ts
end
theorem wrL_map : ∀ ts : List T, wrL ts = ts.map T.wr
  | [] => rfl
  | t :: ts => by rw [wrL, wrL_map ts]; rfl
/-! names -/
def isCap (c : Nat) : Bool := decide (65 ≤ c ∧ c ≤ 90)
def isSm (c : Nat) : Bool := decide (97 ≤ c ∧ c ≤ 122)
def isAl (c : Nat) : Bool := isCap c || isSm c
def fnL : List Nat → Bool
  | [] => false
  | c :: r => decide (r.length ≤ 7) && isCap c && r.all isSm
def dnL (l : List Nat) : Bool := decide (1 ≤ l.length ∧ l.length ≤ 8) && l.all isSm
/-- the value's own parts -/
def rowB : D → Bool
  | .lst _ => true
  | .tup _ => true
  | _ => false
def items : D → List D
  | .lst l => l
  | .tup l => l
  | _ => []
def strL : D → Option (List Nat)
  | .str x => some x.cps.toList
  | _ => none
def fnB (d : D) : Bool := match strL d with | some l => fnL l | none => false
def dnB (d : D) : Bool := match strL d with | some l => dnL l | none => false
def ptB (s : List Nat) (d : D) : Bool := match strL d with | some l => l.all (fun c => decide (c ∈ s)) && decide (l.length ≤ 4) | none => false
def it (d : D) (i : Nat) : D := (items d).getD i .non
/-! node_bound -/
def nbLoop (f : D → Int → Int) (room : Int) : List D → Int → Int
  | [], c => c
  | d :: ds, c => if c + f d (room - c) > room then c + f d (room - c) else nbLoop f room ds (c + f d (room - c))
def nbF : Nat → D → Int → Int
  | 0, _, _ => 1
  | n + 1, v, room => if room ≤ 0 ∨ rowB v = false ∨ (items v).length ≠ 3 ∨ rowB (it v 2) = false then 1 else nbLoop (nbF n) room (items (it v 2)) 1
/-! is_shaped -/
def shF (s : List Nat) : Nat → D → Bool
  | 0, _ => false
  | n + 1, v =>
    if rowB v = false ∨ (items v).length < 2 ∨ 3 < (items v).length ∨ strL (it v 0) = none then false
    else if strL (it v 0) = some sThing then decide ((items v).length = 2) && ptB s (it v 1)
    else if (items v).length ≠ 3 then false
    else if strL (it v 0) = some sCall then fnB (it v 1) && ptB s (it v 2)
    else if strL (it v 0) ≠ some sDeed ∨ dnB (it v 1) = false ∨ rowB (it v 2) = false ∨ 4 < (items (it v 2)).length then false
    else (items (it v 2)).all (shF s n)
def tmB (s : List Nat) (v : D) : Bool := decide (nbF 60 v 12 ≤ 12) && shF s 60 v
theorem items_mk (f : Bool) (ds : List D) : items (mk f ds) = ds ∧ rowB (mk f ds) = true := by cases f <;> exact ⟨rfl, rfl⟩
theorem strL_sD (p : List Nat) : strL (sD p) = some p := by simp [strL, sD, mkS_cps]
theorem nbLoop_ok {n : Nat} {f : Bool} : ∀ (ts : List T) (room c : Int), (∀ t ∈ ts, ∀ r : Int, (t.nodes.length : Int) ≤ r → nbF n (t.df f) r = t.nodes.length) → c + ((nodesL ts).length : Int) ≤ room → nbLoop (nbF n) room (dfL f ts) c = c + ((nodesL ts).length : Int)
  | [], room, c, _, _ => by simp [dfL, nbLoop, nodesL]
  | t :: ts, room, c, h, hr => by
    rw [nodesL, List.length_append] at hr ⊢
    rw [dfL, nbLoop, h t List.mem_cons_self (room - c) (by omega), if_neg (by omega), nbLoop_ok ts room _ (fun t' ht' => h t' (List.mem_cons_of_mem _ ht')) (by omega)]
    omega
theorem nb_ok {f : Bool} : ∀ (n : Nat) (t : T) (room : Int), t.dep ≤ n → (t.nodes.length : Int) ≤ room → nbF n (t.df f) room = t.nodes.length
  | 0, t, _, h, _ => by cases t <;> simp [T.dep] at h
  | n + 1, .thing p, room, h, hr => by
    rw [nbF, if_pos]
    · simp [T.nodes]
    · refine .inr (.inr (.inl ?_))
      rw [T.df, (items_mk f _).1]
      simp
  | n + 1, .call m p, room, h, hr => by
    rw [nbF, if_pos]
    · simp [T.nodes]
    · refine .inr (.inr (.inr ?_))
      unfold it
      rw [T.df, (items_mk f _).1]
      rfl
  | n + 1, .deed m ps, room, h, hr => by
    have hd : depL ps ≤ n := by simp only [T.dep] at h; omega
    have hr' : 1 + ((nodesL ps).length : Int) ≤ room := by simp only [T.nodes, List.length_cons] at hr; omega
    have e2 : it ((T.deed m ps).df f) 2 = mk f (dfL f ps) := by
      unfold it
      rw [T.df, (items_mk f _).1]
      rfl
    rw [nbF, if_neg, e2, (items_mk f _).1, nbLoop_ok ps room 1 (fun t ht r hr => nb_ok n t r (Nat.le_trans (dep_mem ht) hd) hr) hr']
    · simp [T.nodes]
      omega
    · rw [e2, (items_mk f _).2, T.df, (items_mk f _).1, (items_mk f _).2]
      simp
      omega
/-! good terms -/
mutual
def T.ok (s : List Nat) : T → Bool
  | .thing p => p.all (fun c => decide (c ∈ s)) && decide (p.length ≤ 4)
  | .call n p => fnL n && (p.all (fun c => decide (c ∈ s)) && decide (p.length ≤ 4))
  | .deed n ps => dnL n && decide (ps.length ≤ 4) && okL s ps
def okL (s : List Nat) : List T → Bool
  | [] => true
  | t :: ts => t.ok s && okL s ts
end
theorem okL_all (s : List Nat) : ∀ ts : List T, okL s ts = ts.all (T.ok s)
  | [] => rfl
  | t :: ts => by rw [okL, okL_all s ts]; rfl
theorem sh_ok {f : Bool} {s : List Nat} : ∀ (n : Nat) (t : T), t.dep ≤ n → shF s n (t.df f) = t.ok s
  | 0, t, h => by cases t <;> simp [T.dep] at h
  | n + 1, .thing p, h => by
    have e : items ((T.thing p).df f) = [sD sThing, sD p] := (items_mk f _).1
    have e0 : it ((T.thing p).df f) 0 = sD sThing := by unfold it; rw [e]; rfl
    have e1 : it ((T.thing p).df f) 1 = sD p := by unfold it; rw [e]; rfl
    have er : rowB ((T.thing p).df f) = true := (items_mk f _).2
    rw [shF, if_neg, e0, strL_sD, if_pos rfl, e, e1]
    · unfold ptB
      rw [strL_sD, T.ok]
      rfl
    · rw [e, e0, er, strL_sD]
      simp
  | n + 1, .call m p, h => by
    have e : items ((T.call m p).df f) = [sD sCall, sD m, sD p] := (items_mk f _).1
    have e0 : it ((T.call m p).df f) 0 = sD sCall := by unfold it; rw [e]; rfl
    have e1 : it ((T.call m p).df f) 1 = sD m := by unfold it; rw [e]; rfl
    have e2 : it ((T.call m p).df f) 2 = sD p := by unfold it; rw [e]; rfl
    have er : rowB ((T.call m p).df f) = true := (items_mk f _).2
    rw [shF, if_neg, e0, strL_sD, if_neg (by decide), if_neg, if_pos rfl, e1, e2]
    · unfold ptB fnB
      rw [strL_sD, strL_sD, T.ok]
    · rw [e]; simp
    · rw [e, e0, er, strL_sD]
      simp
  | n + 1, .deed m ps, h => by
    have hd : depL ps ≤ n := by simp only [T.dep] at h; omega
    have e : items ((T.deed m ps).df f) = [sD sDeed, sD m, mk f (dfL f ps)] := (items_mk f _).1
    have e0 : it ((T.deed m ps).df f) 0 = sD sDeed := by unfold it; rw [e]; rfl
    have e1 : it ((T.deed m ps).df f) 1 = sD m := by unfold it; rw [e]; rfl
    have e2 : it ((T.deed m ps).df f) 2 = mk f (dfL f ps) := by unfold it; rw [e]; rfl
    have er : rowB ((T.deed m ps).df f) = true := (items_mk f _).2
    rw [shF, if_neg, e0, strL_sD, if_neg (by decide), if_neg, if_neg (by decide), e1, e2, (items_mk f _).1, (items_mk f _).2]
    · have hm : dnB (sD m) = dnL m := by unfold dnB; rw [strL_sD]
      rw [hm, T.ok, okL_all, dfL_map, List.length_map]
      have hall : (ps.map (T.df f)).all (shF s n) = ps.all (T.ok s) := by
        rw [List.all_map]
        have : ∀ t ∈ ps, (shF s n ∘ T.df f) t = T.ok s t := fun t ht => sh_ok n t (Nat.le_trans (dep_mem ht) hd)
        rw [Bool.eq_iff_iff, List.all_eq_true, List.all_eq_true]
        exact ⟨fun h t ht => (this t ht) ▸ h t ht, fun h t ht => by rw [this t ht]; exact h t ht⟩
      rw [hall]
      cases hdn : dnL m with
      | false => simp
      | true =>
        by_cases hl : ps.length ≤ 4
        · have : ¬ 4 < ps.length := by omega
          simp [hl, this]
        · have : 4 < ps.length := by omega
          simp [hl, this]
    · rw [e]; simp
    · rw [e, e0, er, strL_sD]
      simp
theorem tm_ok {f : Bool} {s : List Nat} {t : T} (h : t.nodes.length ≤ 12) : tmB s (t.df f) = t.ok s := by
  have hd := dep_nodes t
  unfold tmB
  rw [nb_ok 60 t 12 (by omega) (by omega), sh_ok 60 t (by omega)]
  rw [decide_eq_true (by omega)]
  rfl
/-! the reading -/
def rp (w : List Nat) : List Nat := if w = [120] then [] else w
def pL (f : List Nat → Option (T × List Nat)) (name : List Nat) : Nat → List T → List Nat → Option (T × List Nat)
  | 0, _, _ => none
  | k + 1, acc, w => match f w with
    | none => none
    | some (t, r) => match r with
      | 41 :: q => some (.deed name (acc ++ [t]), q)
      | 44 :: 32 :: q => pL f name k (acc ++ [t]) q
      | _ => none
def pD (f : List Nat → Option (T × List Nat)) (name : List Nat) (w : List Nat) : Option (T × List Nat) := match w with
  | 41 :: q => some (.deed name [], q)
  | _ => pL f name 4 [] w
def pT : Nat → List Nat → Option (T × List Nat)
  | 0, _ => none
  | n + 1, w => if w.takeWhile isAl = [] then none else match w.dropWhile isAl with
    | 40 :: r => if fnL (w.takeWhile isAl) = true then (match r.dropWhile isAl with
      | 41 :: q => some (.call (w.takeWhile isAl) (rp (r.takeWhile isAl)), q)
      | _ => none) else pD (pT n) (w.takeWhile isAl) r
    | rest => some (.thing (rp (w.takeWhile isAl)), rest)
theorem pT_par {n : Nat} {w m r : List Nat} (h1 : w.takeWhile isAl = m) (h2 : w.dropWhile isAl = 40 :: r) (hm : m ≠ []) : pT (n + 1) w = if fnL m = true then (match r.dropWhile isAl with
      | 41 :: q => some (.call m (rp (r.takeWhile isAl)), q)
      | _ => none) else pD (pT n) m r := by
  unfold pT
  rw [h1, h2, if_neg hm]
  rfl
theorem tw_app {w r : List Nat} (h : w.all isAl = true) (hr : ∀ c, r.head? = some c → isAl c = false) : (w ++ r).takeWhile isAl = w ∧ (w ++ r).dropWhile isAl = r := by
  induction w with
  | nil =>
    cases r with
    | nil => exact ⟨rfl, rfl⟩
    | cons c r =>
      have := hr c rfl
      simp [List.takeWhile_cons, List.dropWhile_cons, this]
  | cons a w ih =>
    simp only [List.all_cons, Bool.and_eq_true] at h
    obtain ⟨h1, h2⟩ := ih h.2
    simp [List.takeWhile_cons, List.dropWhile_cons, h.1, h1, h2]
theorem sm_al {c : Nat} (h : isSm c = true) : isAl c = true := by unfold isAl; rw [h]; simp
theorem fn_al {l : List Nat} (h : fnL l = true) : l.all isAl = true ∧ l ≠ [] := by
  cases l with
  | nil => cases h
  | cons c r =>
    unfold fnL at h
    simp only [Bool.and_eq_true] at h
    refine ⟨?_, by simp⟩
    rw [List.all_cons, List.all_eq_true.mpr fun c hc => sm_al (List.all_eq_true.mp h.2 c hc)]
    unfold isAl
    rw [h.1.2]
    rfl
theorem dn_al {l : List Nat} (h : dnL l = true) : l.all isAl = true ∧ l ≠ [] ∧ fnL l = false := by
  unfold dnL at h
  simp only [Bool.and_eq_true, decide_eq_true_iff] at h
  refine ⟨List.all_eq_true.mpr fun c hc => sm_al (List.all_eq_true.mp h.2 c hc), fun z => by rw [z] at h; simp at h, ?_⟩
  cases l with
  | nil => rfl
  | cons c r =>
    have hc := List.all_eq_true.mp h.2 c List.mem_cons_self
    have : isCap c = false := by
      unfold isSm at hc
      unfold isCap
      have := of_decide_eq_true hc
      exact decide_eq_false (by omega)
    show (decide (r.length ≤ 7) && isCap c && r.all isSm) = false
    rw [this]
    simp
/-- the letters of steps -/
def LetS (s : List Nat) : Prop := ∀ c ∈ s, 97 ≤ c ∧ c ≤ 104
theorem pt_al {s p : List Nat} (hs : LetS s) (h : p.all (fun c => decide (c ∈ s)) = true) : (ptx p).all isAl = true ∧ ptx p ≠ [] ∧ rp (ptx p) = p := by
  unfold ptx
  by_cases e : p = []
  · rw [if_pos e, e]
    exact ⟨rfl, by simp, rfl⟩
  · rw [if_neg e]
    have hall : ∀ c ∈ p, 97 ≤ c ∧ c ≤ 104 := fun c hc => hs c (by have := List.all_eq_true.mp h c hc; simpa using this)
    refine ⟨List.all_eq_true.mpr fun c hc => sm_al (by have := hall c hc; exact decide_eq_true (by omega)), e, ?_⟩
    unfold rp
    rw [if_neg]
    intro z
    have := hall 120 (by rw [z]; simp)
    omega
/-- what comes behind a term -/
def Stop (r : List Nat) : Prop := (∀ c, r.head? = some c → isAl c = false) ∧ r.head? ≠ some 40
theorem read_ok {s : List Nat} (hs : LetS s) : ∀ (n : Nat) (t : T) (r : List Nat), t.dep ≤ n → t.ok s = true → Stop r → pT n (t.wr ++ r) = some (t, r)
  | 0, t, _, h, _, _ => by cases t <;> simp [T.dep] at h
  | n + 1, .thing p, r, h, ho, hr => by
    rw [T.ok, Bool.and_eq_true] at ho
    obtain ⟨a1, a2, a3⟩ := pt_al hs ho.1
    obtain ⟨b1, b2⟩ := tw_app (r := r) a1 hr.1
    rw [T.wr, pT, b1, b2, if_neg a2, a3]
    match r, hr with
    | [], _ => rfl
    | c :: r, hr =>
      have hc : c ≠ 40 := fun z => hr.2 (by rw [z]; rfl)
      split
      · rename_i r' e
        cases e
        exact absurd rfl hc
      · rfl
  | n + 1, .call m p, r, h, ho, hr => by
    rw [T.ok, Bool.and_eq_true, Bool.and_eq_true] at ho
    obtain ⟨a1, a2, a3⟩ := pt_al hs ho.2.1
    obtain ⟨c1, c2⟩ := fn_al ho.1
    have e1 : (T.call m p).wr ++ r = m ++ (40 :: (ptx p ++ (41 :: r))) := by simp [T.wr]
    obtain ⟨b1, b2⟩ := tw_app (r := 40 :: (ptx p ++ (41 :: r))) c1 (fun c hc => by cases hc; rfl)
    obtain ⟨d1, d2⟩ := tw_app (r := 41 :: r) a1 (fun c hc => by cases hc; rfl)
    rw [e1, pT_par b1 b2 c2, if_pos ho.1, d1, d2, a3]
    rfl
  | n + 1, .deed m ps, r, h, ho, hr => by
    rw [T.ok, Bool.and_eq_true, Bool.and_eq_true, okL_all] at ho
    obtain ⟨⟨o1, o2⟩, o3⟩ := ho
    have hd : depL ps ≤ n := by simp only [T.dep] at h; omega
    obtain ⟨c1, c2, c3⟩ := dn_al o1
    have e1 : (T.deed m ps).wr ++ r = m ++ (40 :: (glue (wrL ps) ++ (41 :: r))) := by simp [T.wr]
    obtain ⟨b1, b2⟩ := tw_app (r := 40 :: (glue (wrL ps) ++ (41 :: r))) c1 (fun c hc => by cases hc; rfl)
    rw [e1, pT_par b1 b2 c2, if_neg (by rw [c3]; decide)]
    have hf : ∀ t ∈ ps, ∀ r', Stop r' → pT n (t.wr ++ r') = some (t, r') := fun t ht r' hr' => read_ok hs n t r' (Nat.le_trans (dep_mem ht) hd) (List.all_eq_true.mp o3 t ht) hr'
    have hlist : ∀ (ts : List T) (k : Nat) (acc : List T), ts ≠ [] → ts.length ≤ k → (∀ t ∈ ts, ∀ r', Stop r' → pT n (t.wr ++ r') = some (t, r')) → pL (pT n) m k acc (glue (wrL ts) ++ (41 :: r)) = some (.deed m (acc ++ ts), r) := by
      intro ts
      induction ts with
      | nil => intro k acc hne; exact absurd rfl hne
      | cons t ts ih =>
        intro k acc _ hk hg
        obtain ⟨k, rfl⟩ : ∃ k', k = k' + 1 := ⟨k - 1, by simp at hk; omega⟩
        cases ts with
        | nil =>
          rw [show glue (wrL [t]) = t.wr by simp [wrL, glue], pL, hg t List.mem_cons_self (41 :: r) ⟨fun c hc => by cases hc; rfl, by simp⟩]
          rfl
        | cons t2 ts =>
          have e2 : glue (wrL (t :: t2 :: ts)) ++ (41 :: r) = t.wr ++ (44 :: 32 :: (glue (wrL (t2 :: ts)) ++ (41 :: r))) := by simp [wrL, glue]
          rw [e2, pL, hg t List.mem_cons_self _ ⟨fun c hc => by cases hc; rfl, by simp⟩]
          show pL (pT n) m k (acc ++ [t]) (glue (wrL (t2 :: ts)) ++ (41 :: r)) = _
          rw [ih k (acc ++ [t]) (by simp) (by simp at hk ⊢; omega) fun t' ht' => hg t' (List.mem_cons_of_mem _ ht')]
          simp
    cases ps with
    | nil => simp [pD, wrL, glue]
    | cons t ts =>
      have hne : ∃ c w, glue (wrL (t :: ts)) ++ (41 :: r) = c :: w ∧ c ≠ 41 := by
        have hw : ∃ c w, t.wr = c :: w ∧ isAl c = true := by
          have htk := List.all_eq_true.mp o3 t List.mem_cons_self
          have hx : ∀ l r : List Nat, l.all isAl = true → l ≠ [] → ∃ c w, l ++ r = c :: w ∧ isAl c = true := by
            intro l r h1 h2
            cases l with
            | nil => exact absurd rfl h2
            | cons c l => exact ⟨c, l ++ r, rfl, by simp only [List.all_cons, Bool.and_eq_true] at h1; exact h1.1⟩
          cases t with
          | thing p =>
            rw [T.ok, Bool.and_eq_true] at htk
            obtain ⟨a1, a2, _⟩ := pt_al hs htk.1
            have := hx (ptx p) [] a1 a2
            rw [List.append_nil] at this
            rw [T.wr]
            exact this
          | call m' p =>
            rw [T.ok, Bool.and_eq_true] at htk
            obtain ⟨a1, a2⟩ := fn_al htk.1
            have := hx m' ([40] ++ ptx p ++ [41]) a1 a2
            rw [T.wr]
            simpa using this
          | deed m' qs =>
            rw [T.ok, Bool.and_eq_true, Bool.and_eq_true] at htk
            obtain ⟨a1, a2, _⟩ := dn_al htk.1.1
            have := hx m' ([40] ++ glue (wrL qs) ++ [41]) a1 a2
            rw [T.wr]
            simpa using this
        obtain ⟨c, w, e, hc⟩ := hw
        cases ts with
        | nil => exact ⟨c, w ++ (41 :: r), by simp [wrL, glue, e], fun z => by rw [z] at hc; cases hc⟩
        | cons t2 ts => exact ⟨c, _, by simp [wrL, glue, e]; rfl, fun z => by rw [z] at hc; cases hc⟩
      obtain ⟨c, w, e, hc⟩ := hne
      have hl := hlist (t :: ts) 4 [] (by simp) (by simpa using o2) hf
      rw [e] at hl ⊢
      unfold pD
      split
      · rename_i q e'
        cases e'
        exact absurd rfl hc
      · rw [hl]
        rfl
end Tm

set_option Elab.async false
set_option linter.all false
set_option maxRecDepth 100000
set_option maxHeartbeats 4000000
namespace K01
open PySem PySem.Spec PyProof.Rows L2 G
/-- is_row(value) -/
def t_is_row (K : PySem.W.Frag) : TS :=
  (tRet (tCB (rIsi' K) (tCons (tVar 0) (tCons (tTup (tCons (tC (.ty "list")) (tCons (tC (.ty "tuple")) tNil))) tNil))))
def n_is_row : List Str := ["value"]
/-- is_path(value, steps) -/
def t_is_path (K : PySem.W.Frag) : TS :=
  (tSeq (tIfS (tNot (tTru' K (tCB (rIsi' K) (tCons (tVar 0) (tCons (tC (.ty "str")) tNil)))))
  (tRet (tC (.bl false)))
  tNext)
  (tRet (tCB (rAll K) (tCons (tLc (iAny K (tVar 0)) (gName 2) tYes (tOp (rIn' K) (tVar 2) (tVar 1)) [2]) tNil))))
def n_is_path : List Str := ["value", "steps", "letter"]
/-- is_function_name(value) -/
def t_is_function_name (K : PySem.W.Frag) : TS :=
  (tSeq (tIfS (tOr (tNot (tTru' K (tCB (rIsi' K) (tCons (tVar 0) (tCons (tC (.ty "str")) tNil))))) (tOr (tNot (tTest (tChain rLe' rLe' (tC (.int 1)) (tCB (rLen' K) (tCons (tVar 0) tNil)) (tC (.int 8))))) (tTest (tOp (rNotIn' K) (tOp (rIx' K) (tVar 0) (tC (.int 0))) (tC (.str "ABCDEFGHIJKLMNOPQRSTUVWXYZ"))))))
  (tRet (tC (.bl false)))
  tNext)
  (tRet (tCB (rAll K) (tCons (tLc (iAny K (tSl (rSl' K) (tVar 0) (tPart (tC (.int 1))) tNoPart)) (gName 1) tYes (tOp (rIn' K) (tVar 1) (tC (.str "abcdefghijklmnopqrstuvwxyz"))) [1]) tNil))))
def n_is_function_name : List Str := ["value", "letter"]
/-- is_deed_name(value) -/
def t_is_deed_name (K : PySem.W.Frag) : TS :=
  (tSeq (tIfS (tOr (tNot (tTru' K (tCB (rIsi' K) (tCons (tVar 0) (tCons (tC (.ty "str")) tNil))))) (tNot (tTest (tChain rLe' rLe' (tC (.int 1)) (tCB (rLen' K) (tCons (tVar 0) tNil)) (tC (.int 8))))))
  (tRet (tC (.bl false)))
  tNext)
  (tRet (tCB (rAll K) (tCons (tLc (iAny K (tVar 0)) (gName 1) tYes (tOp (rIn' K) (tVar 1) (tC (.str "abcdefghijklmnopqrstuvwxyz"))) [1]) tNil))))
def n_is_deed_name : List Str := ["value", "letter"]
/-- node_bound(value, room) -/
def t_node_bound (K : PySem.W.Frag) (sp_is_row : Sp) (sp_node_bound : Sp) : TS :=
  (tSeq (tIfS (tOr (tTest (tOp rLe' (tVar 1) (tC (.int 0)))) (tOr (tNot (tTru' K (tCallR sp_is_row E0 (tCons (tVar 0) tNil)))) (tOr (tTest (tOp (rNe' K) (tCB (rLen' K) (tCons (tVar 0) tNil)) (tC (.int 3)))) (tNot (tTru' K (tCallR sp_is_row E0 (tCons (tOp (rIx' K) (tVar 0) (tC (.int 2))) tNil)))))))
  (tRet (tC (.int 1)))
  tNext)
  (tSeq (tAsg (tC (.int 1)) (gName 2))
  (tSeq (tFor (iAny K (tOp (rIx' K) (tVar 0) (tC (.int 2)))) (gName 3)
  (tSeq (tAsg (tOp (rAdd' K) (tVar 2) (tCallR sp_node_bound E0 (tCons (tVar 3) (tCons (tOp rSub' (tVar 1) (tVar 2)) tNil)))) (gName 2))
  (tIfS (tTest (tOp rGt' (tVar 2) (tVar 1)))
  tBreak
  tNext)))
  (tRet (tVar 2)))))
def n_node_bound : List Str := ["value", "room", "count", "part"]
/-- is_shaped(value, steps) -/
def t_is_shaped (K : PySem.W.Frag) (sp_is_deed_name : Sp) (sp_is_function_name : Sp) (sp_is_path : Sp) (sp_is_row : Sp) (sp_is_shaped : Sp) : TS :=
  (tSeq (tIfS (tOr (tNot (tTru' K (tCallR sp_is_row E0 (tCons (tVar 0) tNil)))) (tOr (tNot (tTest (tChain rLe' rLe' (tC (.int 2)) (tCB (rLen' K) (tCons (tVar 0) tNil)) (tC (.int 3))))) (tNot (tTru' K (tCB (rIsi' K) (tCons (tOp (rIx' K) (tVar 0) (tC (.int 0))) (tCons (tC (.ty "str")) tNil)))))))
  (tRet (tC (.bl false)))
  tNext)
  (tSeq (tIfS (tTest (tOp (rEq' K) (tOp (rIx' K) (tVar 0) (tC (.int 0))) (tC (.str "thing"))))
  (tRet (tAndT K (tOp (rEq' K) (tCB (rLen' K) (tCons (tVar 0) tNil)) (tC (.int 2))) (tAndT K (tCallR sp_is_path E0 (tCons (tOp (rIx' K) (tVar 0) (tC (.int 1))) (tCons (tVar 1) tNil))) (tOp rLe' (tCB (rLen' K) (tCons (tOp (rIx' K) (tVar 0) (tC (.int 1))) tNil)) (tC (.int 4))))))
  tNext)
  (tSeq (tIfS (tTest (tOp (rNe' K) (tCB (rLen' K) (tCons (tVar 0) tNil)) (tC (.int 3))))
  (tRet (tC (.bl false)))
  tNext)
  (tSeq (tIfS (tTest (tOp (rEq' K) (tOp (rIx' K) (tVar 0) (tC (.int 0))) (tC (.str "call"))))
  (tRet (tAndT K (tCallR sp_is_function_name E0 (tCons (tOp (rIx' K) (tVar 0) (tC (.int 1))) tNil)) (tAndT K (tCallR sp_is_path E0 (tCons (tOp (rIx' K) (tVar 0) (tC (.int 2))) (tCons (tVar 1) tNil))) (tOp rLe' (tCB (rLen' K) (tCons (tOp (rIx' K) (tVar 0) (tC (.int 2))) tNil)) (tC (.int 4))))))
  tNext)
  (tSeq (tIfS (tOr (tTest (tOp (rNe' K) (tOp (rIx' K) (tVar 0) (tC (.int 0))) (tC (.str "deed")))) (tOr (tNot (tTru' K (tCallR sp_is_deed_name E0 (tCons (tOp (rIx' K) (tVar 0) (tC (.int 1))) tNil)))) (tOr (tNot (tTru' K (tCallR sp_is_row E0 (tCons (tOp (rIx' K) (tVar 0) (tC (.int 2))) tNil)))) (tTest (tOp rGt' (tCB (rLen' K) (tCons (tOp (rIx' K) (tVar 0) (tC (.int 2))) tNil)) (tC (.int 4)))))))
  (tRet (tC (.bl false)))
  tNext)
  (tRet (tCB (rAll K) (tCons (tLc (iAny K (tOp (rIx' K) (tVar 0) (tC (.int 2)))) (gName 2) tYes (tCallR sp_is_shaped E0 (tCons (tVar 2) (tCons (tVar 1) tNil))) [2]) tNil))))))))
def n_is_shaped : List Str := ["value", "steps", "part"]
/-- is_term(value, steps) -/
def t_is_term (K : PySem.W.Frag) (sp_is_shaped : Sp) (sp_node_bound : Sp) : TS :=
  (tRet (tAndT K (tOp rLe' (tCallR sp_node_bound E0 (tCons (tVar 0) (tCons (tC (.int (12))) tNil))) (tC (.int (12)))) (tCallR sp_is_shaped E0 (tCons (tVar 0) (tCons (tVar 1) tNil)))))
def n_is_term : List Str := ["value", "steps"]
/-- is_body(value, steps) -/
def t_is_body (K : PySem.W.Frag) (sp_is_term : Sp) : TS :=
  (tRet (tAndT K (tCallR sp_is_term E0 (tCons (tVar 0) (tCons (tVar 1) tNil))) (tOp (rNe' K) (tOp (rIx' K) (tVar 0) (tC (.int 0))) (tC (.str "thing")))))
def n_is_body : List Str := ["value", "steps"]
/-- nodes_of(term) -/
def t_nodes_of (K : PySem.W.Frag) (sp_nodes_of : Sp) : TS :=
  (tSeq (tAsg (tLst (tCons (tVar 0) tNil)) (gName 1))
  (tSeq (tIfS (tTest (tOp (rEq' K) (tOp (rIx' K) (tVar 0) (tC (.int 0))) (tC (.str "deed"))))
  (tFor (iAny K (tOp (rIx' K) (tVar 0) (tC (.int 2)))) (gName 2)
  (tDrop (tBM K "list" (rExtend' K) (tVar 1) (tCons (tCallR sp_nodes_of E0 (tCons (tVar 2) tNil)) tNil))))
  tNext)
  (tRet (tVar 1))))
def n_nodes_of : List Str := ["term", "found", "part"]
/-- node_total(term) -/
def t_node_total (K : PySem.W.Frag) (sp_nodes_of : Sp) : TS :=
  (tRet (tCB (rLen' K) (tCons (tCallR sp_nodes_of E0 (tCons (tVar 0) tNil)) tNil)))
def n_node_total : List Str := ["term"]
/-- calls_of(term) -/
def t_calls_of (K : PySem.W.Frag) (sp_nodes_of : Sp) : TS :=
  (tRet (tCB (rTuple' K) (tCons (tLc (iAny K (tCallR sp_nodes_of E0 (tCons (tVar 0) tNil))) (gName 1) (tTest (tOp (rEq' K) (tOp (rIx' K) (tVar 1) (tC (.int 0))) (tC (.str "call")))) (tTup (tCons (tOp (rIx' K) (tVar 1) (tC (.int 1))) (tCons (tOp (rIx' K) (tVar 1) (tC (.int 2))) tNil))) [1]) tNil)))
def n_calls_of : List Str := ["term", "node"]
/-- things_of(term) -/
def t_things_of (K : PySem.W.Frag) (sp_nodes_of : Sp) : TS :=
  (tRet (tCB (rTuple' K) (tCons (tLc (iAny K (tCallR sp_nodes_of E0 (tCons (tVar 0) tNil))) (gName 1) (tTest (tOp (rEq' K) (tOp (rIx' K) (tVar 1) (tC (.int 0))) (tC (.str "thing")))) (tOp (rIx' K) (tVar 1) (tC (.int 1))) [1]) tNil)))
def n_things_of : List Str := ["term", "node"]
/-- deeds_of(term) -/
def t_deeds_of (K : PySem.W.Frag) (sp_nodes_of : Sp) : TS :=
  (tRet (tCB (rTuple' K) (tCons (tLc (iAny K (tCallR sp_nodes_of E0 (tCons (tVar 0) tNil))) (gName 1) (tTest (tOp (rEq' K) (tOp (rIx' K) (tVar 1) (tC (.int 0))) (tC (.str "deed")))) (tTup (tCons (tOp (rIx' K) (tVar 1) (tC (.int 1))) (tCons (tCB (rLen' K) (tCons (tOp (rIx' K) (tVar 1) (tC (.int 2))) tNil)) tNil))) [1]) tNil)))
def n_deeds_of : List Str := ["term", "node"]
/-- path_text(path) -/
def t_path_text (K : PySem.W.Frag) : TS :=
  (tSeq (tIfS (tTest (tOp (rEq' K) (tVar 0) (tC (.str ""))))
  (tRet (tC (.str "x")))
  tNext)
  (tRet (tVar 0)))
def n_path_text : List Str := ["path"]
/-- write_term(term) -/
def t_write_term (K : PySem.W.Frag) (sp_path_text : Sp) (sp_write_term : Sp) : TS :=
  (tSeq (tIfS (tTest (tOp (rEq' K) (tOp (rIx' K) (tVar 0) (tC (.int 0))) (tC (.str "thing"))))
  (tRet (tCallR sp_path_text E0 (tCons (tOp (rIx' K) (tVar 0) (tC (.int 1))) tNil)))
  tNext)
  (tSeq (tIfS (tTest (tOp (rEq' K) (tOp (rIx' K) (tVar 0) (tC (.int 0))) (tC (.str "call"))))
  (tRet (tJoin (List.cons (tFmt (tOp (rIx' K) (tVar 0) (tC (.int 1)))) (List.cons (tC (.str "(")) (List.cons (tFmt (tCallR sp_path_text E0 (tCons (tOp (rIx' K) (tVar 0) (tC (.int 2))) tNil))) (List.cons (tC (.str ")")) List.nil))))))
  tNext)
  (tSeq (tAsg (tBM K "str" (rJoin K) (tC (.str ", ")) (tCons (tLc (iAny K (tOp (rIx' K) (tVar 0) (tC (.int 2)))) (gName 2) tYes (tCallR sp_write_term E0 (tCons (tVar 2) tNil)) [2]) tNil)) (gName 1))
  (tRet (tJoin (List.cons (tFmt (tOp (rIx' K) (tVar 0) (tC (.int 1)))) (List.cons (tC (.str "(")) (List.cons (tFmt (tVar 1)) (List.cons (tC (.str ")")) List.nil)))))))))
def n_write_term : List Str := ["term", "inner", "part"]
/-- read_path(text) -/
def t_read_path (K : PySem.W.Frag) : TS :=
  (tSeq (tIfS (tTest (tOp (rEq' K) (tVar 0) (tC (.str "x"))))
  (tRet (tC (.str "")))
  tNext)
  (tRet (tVar 0)))
def n_read_path : List Str := ["text"]
/-- word_end(text, at) -/
def t_word_end (K : PySem.W.Frag) : TS :=
  (tSeq (tWhile (tAnd (tTest (tOp rLt' (tVar 1) (tCB (rLen' K) (tCons (tVar 0) tNil)))) (tTru' K (tBM0 K "str" rIsalpha (tOp (rIx' K) (tVar 0) (tVar 1)))))
  (tAsg (tOp (rAdd' K) (tVar 1) (tC (.int 1))) (gName 1)))
  (tRet (tVar 1)))
def n_word_end : List Str := ["text", "at"]
/-- deed_at(text, name, at, depth) -/
def t_deed_at (K : PySem.W.Frag) (sp_term_at : Sp) : TS :=
  (tSeq (tAsg (tLst tNil) (gName 4))
  (tSeq (tIfS (tTru' K (tBM K "str" rStarts3 (tVar 0) (tCons (tC (.str ")")) (tCons (tVar 2) tNil))))
  (tRet (tTup (tCons (tTup (tCons (tC (.str "deed")) (tCons (tVar 1) (tCons (tTup tNil) tNil)))) (tCons (tOp (rAdd' K) (tVar 2) (tC (.int 1))) tNil))))
  tNext)
  (tSeq (tFor (iRng1 (tCons (tC (.int 4)) tNil)) (gName 5)
  (tSeq (tAsg (tCallR sp_term_at E0 (tCons (tVar 0) (tCons (tVar 2) (tCons (tOp (rAdd' K) (tVar 3) (tC (.int 1))) tNil)))) (gName 6))
  (tSeq (tIfS (tTest (tOp rIs' (tVar 6) (tC .non)))
  (tRet (tC .non))
  tNext)
  (tSeq (tDrop (tBM K "list" rAppend (tVar 4) (tCons (tOp (rIx' K) (tVar 6) (tC (.int 0))) tNil)))
  (tSeq (tAsg (tOp (rIx' K) (tVar 6) (tC (.int 1))) (gName 2))
  (tSeq (tIfS (tTru' K (tBM K "str" rStarts3 (tVar 0) (tCons (tC (.str ")")) (tCons (tVar 2) tNil))))
  (tRet (tTup (tCons (tTup (tCons (tC (.str "deed")) (tCons (tVar 1) (tCons (tCB (rTuple' K) (tCons (tVar 4) tNil)) tNil)))) (tCons (tOp (rAdd' K) (tVar 2) (tC (.int 1))) tNil))))
  tNext)
  (tSeq (tIfS (tNot (tTru' K (tBM K "str" rStarts3 (tVar 0) (tCons (tC (.str ", ")) (tCons (tVar 2) tNil)))))
  (tRet (tC .non))
  tNext)
  (tAsg (tOp (rAdd' K) (tVar 2) (tC (.int 2))) (gName 2)))))))))
  (tRet (tC .non)))))
def n_deed_at : List Str := ["text", "name", "at", "depth", "parts", "count", "found"]
/-- term_at(text, at, depth) -/
def t_term_at (K : PySem.W.Frag) (sp_deed_at : Sp) (sp_is_function_name : Sp) (sp_read_path : Sp) (sp_word_end : Sp) : TS :=
  (tSeq (tAsg (tCallR sp_word_end E0 (tCons (tVar 0) (tCons (tVar 1) tNil))) (gName 3))
  (tSeq (tIfS (tOr (tTest (tOp (rEq' K) (tVar 3) (tVar 1))) (tTest (tOp rGt' (tVar 2) (tC (.int 12)))))
  (tRet (tC .non))
  tNext)
  (tSeq (tAsg (tSl (rSl' K) (tVar 0) (tPart (tVar 1)) (tPart (tVar 3))) (gName 4))
  (tSeq (tIfS (tNot (tTru' K (tBM K "str" rStarts3 (tVar 0) (tCons (tC (.str "(")) (tCons (tVar 3) tNil)))))
  (tRet (tTup (tCons (tTup (tCons (tC (.str "thing")) (tCons (tCallR sp_read_path E0 (tCons (tVar 4) tNil)) tNil))) (tCons (tVar 3) tNil))))
  tNext)
  (tSeq (tIfS (tNot (tTru' K (tCallR sp_is_function_name E0 (tCons (tVar 4) tNil))))
  (tRet (tCallR sp_deed_at E0 (tCons (tVar 0) (tCons (tVar 4) (tCons (tOp (rAdd' K) (tVar 3) (tC (.int 1))) (tCons (tVar 2) tNil))))))
  tNext)
  (tSeq (tAsg (tCallR sp_word_end E0 (tCons (tVar 0) (tCons (tOp (rAdd' K) (tVar 3) (tC (.int 1))) tNil))) (gName 5))
  (tSeq (tIfS (tNot (tTru' K (tBM K "str" rStarts3 (tVar 0) (tCons (tC (.str ")")) (tCons (tVar 5) tNil)))))
  (tRet (tC .non))
  tNext)
  (tRet (tTup (tCons (tTup (tCons (tC (.str "call")) (tCons (tVar 4) (tCons (tCallR sp_read_path E0 (tCons (tSl (rSl' K) (tVar 0) (tPart (tOp (rAdd' K) (tVar 3) (tC (.int 1)))) (tPart (tVar 5))) tNil)) tNil)))) (tCons (tOp (rAdd' K) (tVar 5) (tC (.int 1))) tNil)))))))))))
def n_term_at : List Str := ["text", "at", "depth", "end", "word", "close"]
/-- read_term(text, steps) -/
def t_read_term (K : PySem.W.Frag) (sp_is_term : Sp) (sp_term_at : Sp) (sp_write_term : Sp) : TS :=
  (tSeq (tIfS (tTest (tOp rGt' (tCB (rLen' K) (tCons (tVar 0) tNil)) (tC (.int 400))))
  (tRet (tC .non))
  tNext)
  (tSeq (tAsg (tCallR sp_term_at E0 (tCons (tVar 0) (tCons (tC (.int 0)) (tCons (tC (.int 1)) tNil)))) (gName 2))
  (tSeq (tIfS (tOr (tTest (tOp rIs' (tVar 2) (tC .non))) (tOr (tTest (tOp (rNe' K) (tOp (rIx' K) (tVar 2) (tC (.int 1))) (tCB (rLen' K) (tCons (tVar 0) tNil)))) (tNot (tTru' K (tCallR sp_is_term E0 (tCons (tOp (rIx' K) (tVar 2) (tC (.int 0))) (tCons (tVar 1) tNil)))))))
  (tRet (tC .non))
  tNext)
  (tSeq (tIfS (tTest (tOp (rNe' K) (tCallR sp_write_term E0 (tCons (tOp (rIx' K) (tVar 2) (tC (.int 0))) tNil)) (tVar 0)))
  (tRet (tC .non))
  tNext)
  (tRet (tOp (rIx' K) (tVar 2) (tC (.int 0))))))))
def n_read_term : List Str := ["text", "steps", "found"]
/-- _law_whole(value) -/
def t__law_whole (K : PySem.W.Frag) : TS :=
  (tRet (tAndT K (tCB (rIsi' K) (tCons (tVar 0) (tCons (tC (.ty "int")) tNil))) (tNotT K (tCB (rIsi' K) (tCons (tVar 0) (tCons (tC (.ty "bool")) tNil))))))
def n__law_whole : List Str := ["value"]
/-- _law_cell(script, k) -/
def t__law_cell (K : PySem.W.Frag) : TS :=
  (tSeq (tIfS (tTest (tOp rLt' (tVar 1) (tCB (rLen' K) (tCons (tVar 0) tNil))))
  (tRet (tOp (rIx' K) (tVar 0) (tVar 1)))
  tNext)
  (tSeq (tAsg (tC (.int 17)) (gName 2))
  (tSeq (tFor (iAny K (tVar 0)) (gName 3)
  (tAsg (tOp rMod' (tCB rInt' (tCons (tOp (rAdd' K) (tOp rMul' (tVar 2) (tC (.int 31))) (tOp rMod' (tCB rInt' (tCons (tVar 3) tNil)) (tC (.int 1000003)))) tNil)) (tC (.int 1000003))) (gName 2)))
  (tRet (tOp rMod' (tCB rInt' (tCons (tOp rMul' (tOp rMul' (tOp (rAdd' K) (tVar 2) (tC (.int 7))) (tOp (rAdd' K) (tVar 1) (tC (.int 3)))) (tC (.int 69621))) tNil)) (tC (.int 2147483647)))))))
def n__law_cell : List Str := ["script", "k", "seed", "cell"]
/-- _law_digits(cell, sizes) -/
def t__law_digits (K : PySem.W.Frag) : TS :=
  (tSeq (tAsg (tLst tNil) (gName 2))
  (tSeq (tAsg (tCB rInt' (tCons (tVar 0) tNil)) (gName 3))
  (tSeq (tIfS (tTest (tOp rGe' (tVar 3) (tOp rPow' (tC (.int 10)) (tC (.int 18)))))
  (tSeq (tAsg (tOp rSub' (tVar 3) (tOp rPow' (tC (.int 10)) (tC (.int 18)))) (gName 3))
  (tSeq (tFor (iAny K (tVar 1)) (gName 4)
  (tSeq (tDrop (tBM K "list" rAppend (tVar 2) (tCons (tOp rMod' (tCB rInt' (tCons (tVar 3) tNil)) (tVar 4)) tNil)))
  (tAsg (tOp rDiv' (tCB rInt' (tCons (tVar 3) tNil)) (tVar 4)) (gName 3))))
  (tRet (tVar 2))))
  tNext)
  (tSeq (tAsg (tOp rMod' (tCB rInt' (tCons (tVar 3) tNil)) (tC (.int 2147483629))) (gName 5))
  (tSeq (tFor (iRng1 (tCons (tCB (rLen' K) (tCons (tVar 1) tNil)) tNil)) (gName 6)
  (tSeq (tAsg (tOp rMod' (tCB rInt' (tCons (tOp (rAdd' K) (tOp (rAdd' K) (tOp rMul' (tVar 5) (tC (.int 48271))) (tOp rMul' (tC (.int 974711)) (tVar 6))) (tC (.int 12345))) tNil)) (tC (.int 2147483647))) (gName 5))
  (tSeq (tAsg (tOp rMod' (tCB rInt' (tCons (tOp rMul' (tVar 5) (tOp (rAdd' K) (tOp rDiv' (tVar 5) (tC (.int 65537))) (tC (.int 3)))) tNil)) (tC (.int 2147483629))) (gName 7))
  (tDrop (tBM K "list" rAppend (tVar 2) (tCons (tOp rMod' (tOp rDiv' (tVar 7) (tC (.int 19))) (tOp (rIx' K) (tVar 1) (tVar 6))) tNil))))))
  (tRet (tVar 2)))))))
def n__law_digits : List Str := ["cell", "sizes", "row", "rest", "size", "seed", "k", "twice"]
/-- _law_same(value, due) -/
def t__law_same (K : PySem.W.Frag) (sp__law_same : Sp) (sp__law_whole : Sp) : TS :=
  (tSeq (tIfS (tOr (tTru' K (tCB (rIsi' K) (tCons (tVar 1) (tCons (tC (.ty "tuple")) tNil)))) (tTru' K (tCB (rIsi' K) (tCons (tVar 1) (tCons (tC (.ty "list")) tNil)))))
  (tSeq (tIfS (tOr (tNot (tTru' K (tCB (rIsi' K) (tCons (tVar 0) (tCons (tC (.ty "tuple")) tNil))))) (tTest (tOp (rNe' K) (tCB (rLen' K) (tCons (tVar 0) tNil)) (tCB (rLen' K) (tCons (tVar 1) tNil)))))
  (tRet (tC (.bl false)))
  tNext)
  (tSeq (tFor (iRng1 (tCons (tCB (rLen' K) (tCons (tVar 1) tNil)) tNil)) (gName 2)
  (tIfS (tNot (tTru' K (tCallR sp__law_same E0 (tCons (tOp (rIx' K) (tVar 0) (tVar 2)) (tCons (tOp (rIx' K) (tVar 1) (tVar 2)) tNil)))))
  (tRet (tC (.bl false)))
  tNext))
  (tRet (tC (.bl true)))))
  tNext)
  (tSeq (tIfS (tTest (tOp rIs' (tVar 1) (tC .non)))
  (tRet (tOp rIs' (tVar 0) (tC .non)))
  tNext)
  (tSeq (tIfS (tTru' K (tCB (rIsi' K) (tCons (tVar 1) (tCons (tC (.ty "str")) tNil))))
  (tRet (tAndT K (tCB (rIsi' K) (tCons (tVar 0) (tCons (tC (.ty "str")) tNil))) (tOp (rEq' K) (tVar 0) (tVar 1))))
  tNext)
  (tRet (tAndT K (tCallR sp__law_whole E0 (tCons (tVar 0) tNil)) (tOp (rEq' K) (tVar 0) (tVar 1)))))))
def n__law_same : List Str := ["value", "due", "k"]
/-- _law_path_text(path) -/
def t__law_path_text (K : PySem.W.Frag) : TS :=
  (tSeq (tIfS (tTest (tOp (rEq' K) (tVar 0) (tC (.str ""))))
  (tRet (tC (.str "x")))
  tNext)
  (tRet (tVar 0)))
def n__law_path_text : List Str := ["path"]
/-- _law_term_text(term) -/
def t__law_term_text (K : PySem.W.Frag) (sp__law_path_text : Sp) (sp__law_term_text : Sp) : TS :=
  (tSeq (tIfS (tTest (tOp (rEq' K) (tOp (rIx' K) (tVar 0) (tC (.int 0))) (tC (.str "thing"))))
  (tRet (tCallR sp__law_path_text E0 (tCons (tOp (rIx' K) (tVar 0) (tC (.int 1))) tNil)))
  tNext)
  (tSeq (tIfS (tTest (tOp (rEq' K) (tOp (rIx' K) (tVar 0) (tC (.int 0))) (tC (.str "call"))))
  (tRet (tOp (rAdd' K) (tOp (rAdd' K) (tOp (rAdd' K) (tOp (rIx' K) (tVar 0) (tC (.int 1))) (tC (.str "("))) (tCallR sp__law_path_text E0 (tCons (tOp (rIx' K) (tVar 0) (tC (.int 2))) tNil))) (tC (.str ")"))))
  tNext)
  (tRet (tOp (rAdd' K) (tOp (rAdd' K) (tOp (rAdd' K) (tOp (rIx' K) (tVar 0) (tC (.int 1))) (tC (.str "("))) (tBM K "str" (rJoin K) (tC (.str ", ")) (tCons (tLc (iAny K (tOp (rIx' K) (tVar 0) (tC (.int 2)))) (gName 1) tYes (tCallR sp__law_term_text E0 (tCons (tVar 1) tNil)) [1]) tNil))) (tC (.str ")"))))))
def n__law_term_text : List Str := ["term", "part"]
/-- _law_draw_term(row, at, room, steps) -/
def t__law_draw_term (K : PySem.W.Frag) (sp__law_draw_term : Sp) : TS :=
  (tSeq (tAsg (tCB rInt' (tCons (tOp (rIx' K) (tVar 0) (tOp rMod' (tCB rInt' (tCons (tVar 1) tNil)) (tCB (rLen' K) (tCons (tVar 0) tNil)))) tNil)) (gName 4))
  (tSeq (tAsg (tCB rInt' (tCons (tOp (rIx' K) (tVar 0) (tOp rMod' (tCB rInt' (tCons (tOp (rAdd' K) (tVar 1) (tC (.int 1))) tNil)) (tCB (rLen' K) (tCons (tVar 0) tNil)))) tNil)) (gName 5))
  (tSeq (tAsg (tC (.str "")) (gName 6))
  (tSeq (tFor (iRng1 (tCons (tOp rMod' (tCB rInt' (tCons (tVar 5) tNil)) (tC (.int 5))) tNil)) (gName 7)
  (tAsg (tOp (rAdd' K) (tVar 6) (tOp (rIx' K) (tVar 3) (tOp rMod' (tOp rDiv' (tCB rInt' (tCons (tVar 5) tNil)) (tOp (rAdd' K) (tC (.int 5)) (tVar 7))) (tCB (rLen' K) (tCons (tVar 3) tNil))))) (gName 6)))
  (tSeq (tIfS (tOr (tTest (tOp (rEq' K) (tOp rMod' (tVar 4) (tC (.int 4))) (tC (.int 0)))) (tAnd (tTest (tOp rLt' (tVar 2) (tC (.int 2)))) (tTest (tOp (rEq' K) (tOp rMod' (tVar 4) (tC (.int 2))) (tC (.int 0))))))
  (tRet (tLst (tCons (tTup (tCons (tC (.str "thing")) (tCons (tVar 6) tNil))) (tCons (tOp (rAdd' K) (tVar 1) (tC (.int 2))) (tCons (tC (.int 1)) tNil)))))
  tNext)
  (tSeq (tIfS (tOr (tTest (tOp (rEq' K) (tOp rMod' (tVar 4) (tC (.int 4))) (tC (.int 1)))) (tTest (tOp rLt' (tVar 2) (tC (.int 2)))))
  (tRet (tLst (tCons (tTup (tCons (tC (.str "call")) (tCons (tOp (rIx' K) (tLst (tCons (tC (.str "F")) (tCons (tC (.str "G")) (tCons (tC (.str "Hi")) (tCons (tC (.str "Longname")) tNil))))) (tOp rMod' (tOp rDiv' (tCB rInt' (tCons (tVar 4) tNil)) (tC (.int 4))) (tC (.int 4)))) (tCons (tVar 6) tNil)))) (tCons (tOp (rAdd' K) (tVar 1) (tC (.int 2))) (tCons (tC (.int 1)) tNil)))))
  tNext)
  (tSeq (tAsg (tLst tNil) (gName 8))
  (tSeq (tAsg (tC (.int 1)) (gName 9))
  (tSeq (tAsg (tOp (rAdd' K) (tVar 1) (tC (.int 2))) (gName 10))
  (tSeq (tFor (iRng1 (tCons (tOp rMod' (tOp rDiv' (tCB rInt' (tCons (tVar 5) tNil)) (tC (.int 7))) (tC (.int 5))) tNil)) (gName 7)
  (tIfS (tTest (tOp rLt' (tVar 9) (tVar 2)))
  (tSeq (tAsg (tCallR sp__law_draw_term E0 (tCons (tVar 0) (tCons (tVar 10) (tCons (tCB (rMin' K) (tCons (tOp rSub' (tVar 2) (tVar 9)) (tCons (tC (.int 7)) tNil))) (tCons (tVar 3) tNil))))) (gName 11))
  (tSeq (tDrop (tBM K "list" rAppend (tVar 8) (tCons (tOp (rIx' K) (tVar 11) (tC (.int 0))) tNil)))
  (tSeq (tAsg (tOp (rIx' K) (tVar 11) (tC (.int 1))) (gName 10))
  (tAsg (tOp (rAdd' K) (tVar 9) (tOp (rIx' K) (tVar 11) (tC (.int 2)))) (gName 9)))))
  tNext))
  (tRet (tLst (tCons (tTup (tCons (tC (.str "deed")) (tCons (tOp (rIx' K) (tLst (tCons (tC (.str "e")) (tCons (tC (.str "h")) (tCons (tC (.str "x")) (tCons (tC (.str "longname")) tNil))))) (tOp rMod' (tOp rDiv' (tCB rInt' (tCons (tVar 4) tNil)) (tC (.int 4))) (tC (.int 4)))) (tCons (tCB (rTuple' K) (tCons (tVar 8) tNil)) tNil)))) (tCons (tVar 10) (tCons (tVar 9) tNil)))))))))))))))
def n__law_draw_term : List Str := ["row", "at", "room", "steps", "draw", "pick", "path", "k", "parts", "used", "here", "told"]
/-- _law_term_nodes(term) -/
def t__law_term_nodes (K : PySem.W.Frag) (sp__law_term_nodes : Sp) : TS :=
  (tSeq (tAsg (tLst (tCons (tVar 0) tNil)) (gName 1))
  (tSeq (tIfS (tTest (tOp (rEq' K) (tOp (rIx' K) (tVar 0) (tC (.int 0))) (tC (.str "deed"))))
  (tFor (iAny K (tOp (rIx' K) (tVar 0) (tC (.int 2)))) (gName 2)
  (tAsg (tOp (rAdd' K) (tVar 1) (tCallR sp__law_term_nodes E0 (tCons (tVar 2) tNil))) (gName 1)))
  tNext)
  (tRet (tVar 1))))
def n__law_term_nodes : List Str := ["term", "found", "part"]
/-- _law_listed(term) -/
def t__law_listed (K : PySem.W.Frag) (sp__law_listed : Sp) : TS :=
  (tSeq (tIfS (tTest (tOp (rEq' K) (tOp (rIx' K) (tVar 0) (tC (.int 0))) (tC (.str "deed"))))
  (tRet (tLst (tCons (tC (.str "deed")) (tCons (tOp (rIx' K) (tVar 0) (tC (.int 1))) (tCons (tLc (iAny K (tOp (rIx' K) (tVar 0) (tC (.int 2)))) (gName 1) tYes (tCallR sp__law_listed E0 (tCons (tVar 1) tNil)) [1]) tNil)))))
  tNext)
  (tRet (tCB (rListA K) (tCons (tVar 0) tNil))))
def n__law_listed : List Str := ["term", "part"]
/-- law(script) -/
def t_law (K : PySem.W.Frag) (sp__law_cell : Sp) (sp__law_digits : Sp) (sp__law_draw_term : Sp) (sp__law_listed : Sp) (sp__law_same : Sp) (sp__law_term_nodes : Sp) (sp__law_term_text : Sp) (sp_calls_of : Sp) (sp_deeds_of : Sp) (sp_is_body : Sp) (sp_is_term : Sp) (sp_node_total : Sp) (sp_read_term : Sp) (sp_things_of : Sp) (sp_write_term : Sp) : TS :=
  (tSeq (tAsg (tOp (rIx' K) (tLst (tCons (tC (.str "ab")) (tCons (tC (.str "a")) (tCons (tC (.str "abc")) (tCons (tC (.str "ch")) tNil))))) (tOp rMod' (tCB rInt' (tCons (tCallR sp__law_cell E0 (tCons (tVar 0) (tCons (tC (.int 0)) tNil))) tNil)) (tC (.int 4)))) (gName 1))
  (tSeq (tAsg (tCallR sp__law_digits E0 (tCons (tCallR sp__law_cell E0 (tCons (tVar 0) (tCons (tC (.int 1)) tNil))) (tCons (tLc (iRng1 (tCons (tC (.int 60)) tNil)) (gName 17) tYes (tC (.int 997)) [17]) tNil))) (gName 2))
  (tSeq (tAsg (tOp (rIx' K) (tCallR sp__law_draw_term E0 (tCons (tVar 2) (tCons (tC (.int 0)) (tCons (tOp (rAdd' K) (tC (.int 1)) (tOp rMod' (tCB rInt' (tCons (tOp (rIx' K) (tVar 2) (tC (.int 50))) tNil)) (tC (.int 12)))) (tCons (tVar 1) tNil))))) (tC (.int 0))) (gName 3))
  (tSeq (tAsg (tCallR sp__law_term_nodes E0 (tCons (tVar 3) tNil)) (gName 4))
  (tSeq (tIfS (tOr (tTest (tOp rIsNot' (tCallR sp_is_term E0 (tCons (tVar 3) (tCons (tVar 1) tNil))) (tC (.bl true)))) (tTest (tOp rIsNot' (tCallR sp_is_term E0 (tCons (tCallR sp__law_listed E0 (tCons (tVar 3) tNil)) (tCons (tVar 1) tNil))) (tC (.bl true)))))
  (tRet (tC (.bl false)))
  tNext)
  (tSeq (tIfS (tOr (tAnd (tTest (tOp rIsNot' (tCallR sp_is_body E0 (tCons (tVar 3) (tCons (tVar 1) tNil))) (tC (.bl true)))) (tTest (tOp (rNe' K) (tOp (rIx' K) (tVar 3) (tC (.int 0))) (tC (.str "thing"))))) (tAnd (tTest (tOp rIsNot' (tCallR sp_is_body E0 (tCons (tVar 3) (tCons (tVar 1) tNil))) (tC (.bl false)))) (tTest (tOp (rEq' K) (tOp (rIx' K) (tVar 3) (tC (.int 0))) (tC (.str "thing"))))))
  (tRet (tC (.bl false)))
  tNext)
  (tSeq (tIfS (tOr (tTest (tOp (rNe' K) (tCallR sp_node_total E0 (tCons (tVar 3) tNil)) (tCB (rLen' K) (tCons (tVar 4) tNil)))) (tTest (tOp (rNe' K) (tCallR sp_node_total E0 (tCons (tCallR sp__law_listed E0 (tCons (tVar 3) tNil)) tNil)) (tCB (rLen' K) (tCons (tVar 4) tNil)))))
  (tRet (tC (.bl false)))
  tNext)
  (tSeq (tIfS (tNot (tTru' K (tCallR sp__law_same E0 (tCons (tCallR sp_calls_of E0 (tCons (tVar 3) tNil)) (tCons (tCB (rTuple' K) (tCons (tLc (iAny K (tVar 4)) (gName 18) (tTest (tOp (rEq' K) (tOp (rIx' K) (tVar 18) (tC (.int 0))) (tC (.str "call")))) (tTup (tCons (tOp (rIx' K) (tVar 18) (tC (.int 1))) (tCons (tOp (rIx' K) (tVar 18) (tC (.int 2))) tNil))) [18]) tNil)) tNil)))))
  (tRet (tC (.bl false)))
  tNext)
  (tSeq (tIfS (tNot (tTru' K (tCallR sp__law_same E0 (tCons (tCallR sp_things_of E0 (tCons (tVar 3) tNil)) (tCons (tCB (rTuple' K) (tCons (tLc (iAny K (tVar 4)) (gName 18) (tTest (tOp (rEq' K) (tOp (rIx' K) (tVar 18) (tC (.int 0))) (tC (.str "thing")))) (tOp (rIx' K) (tVar 18) (tC (.int 1))) [18]) tNil)) tNil)))))
  (tRet (tC (.bl false)))
  tNext)
  (tSeq (tIfS (tNot (tTru' K (tCallR sp__law_same E0 (tCons (tCallR sp_deeds_of E0 (tCons (tVar 3) tNil)) (tCons (tCB (rTuple' K) (tCons (tLc (iAny K (tVar 4)) (gName 18) (tTest (tOp (rEq' K) (tOp (rIx' K) (tVar 18) (tC (.int 0))) (tC (.str "deed")))) (tTup (tCons (tOp (rIx' K) (tVar 18) (tC (.int 1))) (tCons (tCB (rLen' K) (tCons (tOp (rIx' K) (tVar 18) (tC (.int 2))) tNil)) tNil))) [18]) tNil)) tNil)))))
  (tRet (tC (.bl false)))
  tNext)
  (tSeq (tAsg (tCallR sp__law_term_text E0 (tCons (tVar 3) tNil)) (gName 5))
  (tSeq (tIfS (tOr (tTest (tOp (rNe' K) (tCallR sp_write_term E0 (tCons (tVar 3) tNil)) (tVar 5))) (tNot (tTru' K (tCallR sp__law_same E0 (tCons (tCallR sp_read_term E0 (tCons (tVar 5) (tCons (tVar 1) tNil))) (tCons (tVar 3) tNil))))))
  (tRet (tC (.bl false)))
  tNext)
  (tSeq (tAsg (tTup (tCons (tC (.str "thing")) (tCons (tC (.str "")) tNil))) (gName 6))
  (tSeq (tAsg (tOp rMul' (tOp (rIx' K) (tVar 1) (tC (.int 0))) (tC (.int 5))) (gName 7))
  (tSeq (tAsg (tLst (tCons (tTup (tCons (tC (.str "thing")) (tCons (tVar 7) tNil))) (tCons (tTup (tCons (tC (.str "call")) (tCons (tC (.str "F")) (tCons (tVar 7) tNil)))) (tCons (tTup (tCons (tC (.str "thing")) (tCons (tC (.str "z")) tNil))) (tCons (tTup (tCons (tC (.str "call")) (tCons (tC (.str "f")) (tCons (tC (.str "")) tNil)))) (tCons (tTup (tCons (tC (.str "call")) (tCons (tC (.str "Ninesigns")) (tCons (tC (.str "")) tNil)))) (tCons (tTup (tCons (tC (.str "deed")) (tCons (tC (.str "ninesigns")) (tCons (tTup tNil) tNil)))) tNil))))))) (gName 8))
  (tSeq (tAsg (tOp (rAdd' K) (tVar 8) (tLst (tCons (tTup (tCons (tC (.str "deed")) (tCons (tC (.str "H")) (tCons (tTup tNil) tNil)))) (tCons (tTup (tCons (tC (.str "deed")) (tCons (tC (.str "")) (tCons (tTup tNil) tNil)))) (tCons (tTup (tCons (tC (.str "deed")) (tCons (tC (.str "h")) (tCons (tTup (tCons (tVar 6) (tCons (tVar 6) (tCons (tVar 6) (tCons (tVar 6) (tCons (tVar 6) tNil)))))) tNil)))) (tCons (tTup (tCons (tC (.str "thing")) tNil)) (tCons (tTup (tCons (tC (.str "call")) (tCons (tC (.str "F")) tNil))) (tCons (tTup (tCons (tC (.str "things")) (tCons (tC (.str "")) tNil))) tNil)))))))) (gName 8))
  (tSeq (tAsg (tOp (rAdd' K) (tVar 8) (tLst (tCons (tC .non) (tCons (tC (.int 5)) (tCons (tC (.str "x")) (tCons (tC (.bl true)) (tCons (tTup tNil) (tCons (tTup (tCons (tC (.str "deed")) (tCons (tC (.str "h")) (tCons (tC .non) tNil)))) (tCons (tTup (tCons (tC (.str "deed")) (tCons (tC (.str "h")) (tCons (tTup (tCons (tC .non) tNil)) tNil)))) (tCons (tTup (tCons (tC (.str "call")) (tCons (tC (.bl true)) (tCons (tC (.str "")) tNil)))) (tCons (tTup (tCons (tC (.str "thing")) (tCons (tC (.int 5)) tNil))) tNil))))))))))) (gName 8))
  (tSeq (tAsg (tOp (rIx' K) (tVar 8) (tOp rMod' (tCB rInt' (tCons (tOp (rIx' K) (tVar 2) (tC (.int 51))) tNil)) (tCB (rLen' K) (tCons (tVar 8) tNil)))) (gName 9))
  (tSeq (tIfS (tOr (tTest (tOp rIsNot' (tCallR sp_is_term E0 (tCons (tVar 9) (tCons (tVar 1) tNil))) (tC (.bl false)))) (tOr (tTest (tOp rIsNot' (tCallR sp_is_term E0 (tCons (tTup (tCons (tC (.str "deed")) (tCons (tC (.str "h")) (tCons (tTup (tCons (tVar 6) (tCons (tVar 9) tNil))) tNil)))) (tCons (tVar 1) tNil))) (tC (.bl false)))) (tTest (tOp rIsNot' (tCallR sp_is_body E0 (tCons (tVar 9) (tCons (tVar 1) tNil))) (tC (.bl false))))))
  (tRet (tC (.bl false)))
  tNext)
  (tSeq (tAsg (tTup (tCons (tC (.str "deed")) (tCons (tC (.str "k")) (tCons (tTup (tCons (tVar 6) (tCons (tVar 6) (tCons (tVar 6) tNil)))) tNil)))) (gName 10))
  (tSeq (tAsg (tTup (tCons (tC (.str "deed")) (tCons (tC (.str "h")) (tCons (tTup (tCons (tVar 10) (tCons (tVar 10) (tCons (tVar 6) (tCons (tTup (tCons (tC (.str "deed")) (tCons (tC (.str "e")) (tCons (tTup (tCons (tVar 6) tNil)) tNil)))) tNil))))) tNil)))) (gName 11))
  (tSeq (tIfS (tOr (tTest (tOp rIsNot' (tCallR sp_is_term E0 (tCons (tVar 11) (tCons (tVar 1) tNil))) (tC (.bl true)))) (tTest (tOp rIsNot' (tCallR sp_is_term E0 (tCons (tTup (tCons (tC (.str "deed")) (tCons (tC (.str "f")) (tCons (tTup (tCons (tVar 11) tNil)) tNil)))) (tCons (tVar 1) tNil))) (tC (.bl false)))))
  (tRet (tC (.bl false)))
  tNext)
  (tSeq (tAsg (tOp rMod' (tCB rInt' (tCons (tOp (rIx' K) (tVar 2) (tC (.int 52))) tNil)) (tCB (rLen' K) (tCons (tVar 5) tNil))) (gName 12))
  (tSeq (tAsg (tOp (rIx' K) (tC (.str "ab x(),FGH1")) (tOp rMod' (tCB rInt' (tCons (tOp (rIx' K) (tVar 2) (tC (.int 53))) tNil)) (tC (.int 11)))) (gName 13))
  (tSeq (tAsg (tLst (tCons (tOp (rAdd' K) (tSl (rSl' K) (tVar 5) tNoPart (tPart (tVar 12))) (tSl (rSl' K) (tVar 5) (tPart (tOp (rAdd' K) (tVar 12) (tC (.int 1)))) tNoPart)) (tCons (tOp (rAdd' K) (tOp (rAdd' K) (tSl (rSl' K) (tVar 5) tNoPart (tPart (tVar 12))) (tVar 13)) (tSl (rSl' K) (tVar 5) (tPart (tVar 12)) tNoPart)) (tCons (tOp (rAdd' K) (tOp (rAdd' K) (tSl (rSl' K) (tVar 5) tNoPart (tPart (tVar 12))) (tVar 13)) (tSl (rSl' K) (tVar 5) (tPart (tOp (rAdd' K) (tVar 12) (tC (.int 1)))) tNoPart)) (tCons (tOp (rAdd' K) (tVar 5) (tC (.str " "))) (tCons (tOp (rAdd' K) (tC (.str " ")) (tVar 5)) (tCons (tC (.str "")) tNil))))))) (gName 14))
  (tSeq (tFor (iAny K (tVar 14)) (gName 15)
  (tSeq (tAsg (tCallR sp_read_term E0 (tCons (tVar 15) (tCons (tVar 1) tNil))) (gName 16))
  (tIfS (tTest (tOp rIsNot' (tVar 16) (tC .non)))
  (tIfS (tOr (tTest (tOp rIsNot' (tCallR sp_is_term E0 (tCons (tVar 16) (tCons (tVar 1) tNil))) (tC (.bl true)))) (tTest (tOp (rNe' K) (tCallR sp__law_term_text E0 (tCons (tVar 16) tNil)) (tVar 15))))
  (tRet (tC (.bl false)))
  tNext)
  (tIfS (tTest (tOp (rEq' K) (tVar 15) (tVar 5)))
  (tRet (tC (.bl false)))
  tNext))))
  (tRet (tAndT K (tOp rIs' (tCallR sp_read_term E0 (tCons (tC (.str "h(x,x)")) (tCons (tVar 1) tNil))) (tC .non)) (tAndT K (tOp rIs' (tCallR sp_read_term E0 (tCons (tC (.str "F()")) (tCons (tVar 1) tNil))) (tC .non)) (tCallR sp__law_same E0 (tCons (tCallR sp_read_term E0 (tCons (tC (.str "x")) (tCons (tVar 1) tNil))) (tCons (tVar 6) tNil))))))))))))))))))))))))))))))))
def n_law : List Str := ["script", "steps", "row", "term", "nodes", "text", "leaf", "far", "bad", "wrong", "four", "full", "at", "sign", "others", "other", "told", "k", "node"]
end K01

set_option Elab.async false
set_option linter.all false
set_option maxRecDepth 100000
set_option maxHeartbeats 4000000
/-! P01: rows, names, node_bound, is_shaped, is_term. -/
namespace K01
open PySem PySem.Spec PyProof.Rows L2 G Pm Tm
theorem bnt {b : Bool} (h : (!b) = true) : b = false := by cases b <;> first | rfl | cases h
theorem bnf {b : Bool} (h : (!b) = false) : b = true := by cases b <;> first | rfl | cases h
theorem atI0 {c : Nat} {r : List Nat} : atI (c :: r) (0 : Int) = some c := by
  unfold atI ixN
  rw [if_pos (by omega), if_pos (by simp)]
  rfl
mutual
/-- plain data of bounded size -/
def san : D → Bool
  | .str x => decide (x.length ≤ 1000000)
  | .non => true
  | .bl _ => true
  | .int _ => true
  | .tup ds => sanL ds && decide (ds.length ≤ 1000000)
  | .lst ds => sanL ds && decide (ds.length ≤ 1000000)
  | _ => false
def sanL : List D → Bool
  | [] => true
  | d :: ds => san d && sanL ds
end
theorem san_isV {d : D} (h : san d = true) : d.isV = false := by cases d <;> first | rfl | (simp [san] at h)
theorem sanL_mem {ds : List D} (h : sanL ds = true) {d : D} (hd : d ∈ ds) : san d = true := by
  induction ds with
  | nil => cases hd
  | cons a ds ih =>
    rw [sanL, Bool.and_eq_true] at h
    rcases List.mem_cons.mp hd with rfl | hd
    · exact h.1
    · exact ih h.2 hd
theorem san_items {v : D} (h : san v = true) : sanL (items v) = true ∧ (items v).length ≤ 1000000 := by
  cases v <;> first
    | exact ⟨rfl, by show (0 : Nat) ≤ _; omega⟩
    | (rw [san, Bool.and_eq_true] at h; exact ⟨h.1, of_decide_eq_true h.2⟩)
theorem it_get {v : D} {i : Nat} (h : i < (items v).length) : (items v)[i]? = some (it v i) := by
  unfold it
  rw [List.getD_eq_getElem?_getD, List.getElem?_eq_getElem h]
  rfl
theorem san_it {v : D} {i : Nat} (h : san v = true) : san (it v i) = true := by
  by_cases hi : i < (items v).length
  · exact sanL_mem (san_items h).1 (List.mem_of_getElem? (it_get hi))
  · unfold it
    rw [List.getD_eq_getElem?_getD, List.getElem?_eq_none (by omega)]
    rfl
theorem depthL_mem {ds : List D} {d : D} (h : d ∈ ds) : d.depth ≤ D.depthL ds := by
  induction ds with
  | nil => cases h
  | cons a ds ih =>
    rw [D.depthL]
    rcases List.mem_cons.mp h with rfl | h
    · omega
    · have := ih h
      omega
theorem depth_item {v d : D} (h : d ∈ items v) : d.depth + 1 ≤ v.depth := by
  cases v <;> first
    | (cases h; done)
    | (have := depthL_mem h; rw [D.depth]; show d.depth + 1 ≤ _; first | omega | (simp only [items] at *; omega))
theorem depth_it {v : D} {i : Nat} (h : i < (items v).length) : (it v i).depth + 1 ≤ v.depth := depth_item (List.mem_of_getElem? (it_get h))
section
variable {K : PySem.W.Frag} {W : WX} {δ : DEnv} {te : TE}
theorem o_it {v : D} {i : Nat} (hr : rowB v = true) (h : i < (items v).length) : DO K (rIx' K) v (.int (i : Int)) (it v i) := by
  cases v <;> first
    | (cases hr; done)
    | exact o_ixl (ixN_of rfl h) (it_get h)
    | exact o_ixt (ixN_of rfl h) (it_get h)
theorem c_row {v : D} (hr : rowB v = true) : DC K (rLen' K) [v] (.int ((items v).length : Int)) := by
  cases v <;> first
    | (cases hr; done)
    | exact c_leni
    | exact c_lent
theorem i_row {v : D} (hr : rowB v = true) (h : DE K δ te v) : DI K δ (iAny K te) (items v) := by
  cases v <;> first
    | (cases hr; done)
    | exact it_lst h
    | exact it_tup h
def relRow (ds : List D) (r : Res) : Prop := ∃ d, ds = [d] ∧ d.isV = false ∧ r = .rt (.bl (rowB d))
theorem row_wp (ds : List D) (r : Res) (h : relRow ds r) : WP K W (ds.map Sl.va ++ List.replicate (1 - ds.length) Sl.no) (t_is_row K) (fun o => Fits o r) := by
  obtain ⟨d, rfl, hd, rfl⟩ := h
  show WP K W [.va d] _ _
  unfold t_is_row
  apply q_last
  refine q_ret false (d_isi2 (d_var rfl) hd (b := rowB d) ?_) rfl
  cases d <;> first
    | (cases hd; done)
    | rfl
theorem d_str1 {v : D} (h : DE K δ te v) (hv : v.isV = false) : DE K δ (tCB (rIsi' K) (tCons te (tCons (tC (.ty "str")) tNil))) (.bl (strL v).isSome) := by
  refine d_cb (d_acons h (d_acons d_val d_anil)) (c_isi1 hv ?_)
  cases v <;> first
    | rfl
    | (cases hv; done)
/-! names -/
theorem caps_mem (c : Nat) : decide (c ∈ (("ABCDEFGHIJKLMNOPQRSTUVWXYZ" : Str)).cps.toList) = isCap c := by
  have e : (("ABCDEFGHIJKLMNOPQRSTUVWXYZ" : Str)).cps.toList = [65, 66, 67, 68, 69, 70, 71, 72, 73, 74, 75, 76, 77, 78, 79, 80, 81, 82, 83, 84, 85, 86, 87, 88, 89, 90] := by rfl
  rw [e]
  unfold isCap
  rw [Bool.eq_iff_iff, decide_eq_true_iff, decide_eq_true_iff]
  simp only [List.mem_cons, List.not_mem_nil, or_false]
  omega
theorem small_mem (c : Nat) : decide (c ∈ (("abcdefghijklmnopqrstuvwxyz" : Str)).cps.toList) = isSm c := by
  have e : (("abcdefghijklmnopqrstuvwxyz" : Str)).cps.toList = [97, 98, 99, 100, 101, 102, 103, 104, 105, 106, 107, 108, 109, 110, 111, 112, 113, 114, 115, 116, 117, 118, 119, 120, 121, 122] := by rfl
  rw [e]
  unfold isSm
  rw [Bool.eq_iff_iff, decide_eq_true_iff, decide_eq_true_iff]
  simp only [List.mem_cons, List.not_mem_nil, or_false]
  omega
theorem setsD1 {i : Nat} {d : D} (h : i < δ.length) : (setsD (wipeD δ [i]) [(i, d)])[i]? = some (some d) := by
  show ((wipeD δ [i]).set i (some d))[i]? = _
  rw [List.getElem?_set_self (by rw [wipeD_len]; exact h)]
/-- all signs of a text are in a text -/
theorem d_allS {i : Nat} {z : Str} {l : List Nat} (h : DE K δ te (.str (mkS l))) (hi : i < δ.length) (hl : l.length ≤ 10000000) :
    DE K δ (tCB (rAll K) (tCons (tLc (iAny K te) (gName i) tYes (tOp (rIn' K) (tVar i) (tC (.str z))) [i]) tNil)) (.bl (l.all fun c => decide (c ∈ z.cps.toList))) := by
  refine de_is (d_cb (d_acons (DL.de (ds := (l.map fun c => decide (c ∈ z.cps.toList)).map D.bl) (dl_lc (it_str h) (fun j => (l[j]?).map fun c => D.bl (decide (c ∈ z.cps.toList))) (fun j => [(i, ((G.signs (mkS l))[j]?).getD .non)]) (fun j d hd => ?_) (fun j d hd => ?_) ?_ ?_)) d_anil) c_allB) ?_
  · rw [hd]
    exact ⟨g_name', fun p hp => by rw [List.mem_singleton.mp hp]; exact List.mem_singleton.mpr rfl⟩
  · rw [hd]
    unfold G.signs at hd
    rw [List.getElem?_map, mkS_cps] at hd
    cases e : l[j]? with
    | none => rw [e] at hd; cases hd
    | some c =>
      rw [e] at hd
      have hd' : d = .str ⟨#[c]⟩ := (Option.some.inj hd).symm
      subst hd'
      refine ⟨dt_yes, fun y hy => ?_⟩
      have hy' : y = D.bl (decide (c ∈ z.cps.toList)) := (Option.some.inj hy).symm
      subst hy'
      exact d_op (d_var (setsD1 hi)) d_str o_inS
  · unfold G.signs
    rw [List.length_map, mkS_cps]
    exact hl
  · unfold G.signs
    rw [List.length_map, mkS_cps, fm_map, List.map_map]
    rfl
  · show D.bl _ = D.bl _
    simp [List.all_map]
theorem str_of {v : D} (h : strL v ≠ none) : ∃ l, v = sD l ∧ strL v = some l := by
  cases v <;> first
    | exact absurd rfl h
    | skip
  rename_i x
  exact ⟨x.cps.toList, by unfold sD; rw [mkS_of], rfl⟩
theorem str_no {v : D} (h : ∀ l, v ≠ sD l) : strL v = none := by
  cases e : strL v with
  | none => rfl
  | some l =>
    obtain ⟨l', e', _⟩ := str_of (v := v) (by rw [e]; simp)
    exact absurd e' (h l')
def relFn (ds : List D) (r : Res) : Prop := ∃ v, ds = [v] ∧ san v = true ∧ r = .rt (.bl (fnB v))
theorem chain8 {l : List Nat} (h : DE K δ te (sD l)) (hl : l.length ≤ 1000000) : DT K δ (tNot (tTest (tChain rLe' rLe' (tC (.int 1)) (tCB (rLen' K) (tCons te tNil)) (tC (.int 8))))) (!decide (1 ≤ l.length ∧ l.length ≤ 8)) := by
  refine dt_not (dt_is (dt_test (d_chain (z := .int 8) (c := decide (((mkS l).length : Int) ≤ 8)) d_int (d_cb (d_acons h d_anil) (c_lens (small (sD_len (by omega))))) o_lei fun _ => ⟨d_int, o_lei⟩)) ?_)
  rw [mkS_len, Bool.eq_iff_iff, Bool.and_eq_true, decide_eq_true_iff, decide_eq_true_iff, decide_eq_true_iff]
  omega
theorem fn_wp (ds : List D) (r : Res) (h : relFn ds r) : WP K W (ds.map Sl.va ++ List.replicate (2 - ds.length) Sl.no) (t_is_function_name K) (fun o => Fits o r) := by
  obtain ⟨v, rfl, hs, rfl⟩ := h
  show WP K W [.va v, .no] _ _
  unfold t_is_function_name
  by_cases hv : ∃ l, v = sD l
  · obtain ⟨l, rfl⟩ := hv
    have hl : l.length ≤ 1000000 := by
      have : decide ((mkS l).length ≤ 1000000) = true := hs
      rw [mkS_len] at this
      exact of_decide_eq_true this
    have hfn : fnB (sD l) = fnL l := by unfold fnB; rw [strL_sD]
    rw [hfn]
    have h1 : DT K (fz false [.va (sD l), .no]) (tNot (tTru' K (tCB (rIsi' K) (tCons (tVar 0) (tCons (tC (.ty "str")) tNil))))) false := dt_is (dt_not (dt_tru (d_str1 (d_var rfl) rfl) trivial)) (by rw [strL_sD]; rfl)
    have h2 := chain8 (K := K) (δ := fz false [.va (sD l), .no]) (te := tVar 0) (l := l) (d_var rfl) hl
    cases l with
    | nil =>
      apply q_ifT false (dt_is (dt_or (b := false) (c := true) h1 fun _ => dt_is (dt_or (b := true) (c := true) (dt_is h2 rfl) fun z => nomatch z) rfl) rfl)
      exact q_ret false d_bl rfl
    | cons c r =>
      have h3 : DT K (fz false [.va (sD (c :: r)), .no]) (tTest (tOp (rNotIn' K) (tOp (rIx' K) (tVar 0) (tC (.int 0))) (tC (.str "ABCDEFGHIJKLMNOPQRSTUVWXYZ")))) (!isCap c) := by
        rw [← caps_mem]
        exact dt_test (d_op (d_op (d_var (d := .str (mkS (c :: r))) rfl) d_int (o_ixs (c := c) (small (sD_len (by omega))) (by rw [mkS_cps]; exact atI0))) d_str o_notinS)
      have hcut : DE K (fz false [.va (sD (c :: r)), .no]) (tSl (rSl' K) (tVar 0) (tPart (tC (.int 1))) tNoPart) (.str (mkS r)) := by
        refine de_is (d_cutS (z := mkS (c :: r)) (d_var rfl) (d_part d_int) d_noPart (small (sD_len (by omega)))) ?_
        unfold cutS
        rw [mkS_cps, mkS_len, HT.sIx_none, show HT.sIx (c :: r).length 0 (some (1 : Int)) = min 1 (c :: r).length from HT.sIx_nat _ _ 1]
        simp [mkS]
      have hall := d_allS (K := K) (te := tSl (rSl' K) (tVar 0) (tPart (tC (.int 1))) tNoPart) (i := 1) (z := "abcdefghijklmnopqrstuvwxyz") hcut (by simp [fz]) (by simp at hl; omega)
      apply q_if false (b := !decide (1 ≤ (c :: r).length ∧ (c :: r).length ≤ 8) || !isCap c) (dt_is (dt_or (b := false) h1 fun _ => dt_or h2 fun _ => h3) rfl)
      · intro hb
        refine q_ret false d_bl ?_
        show D.bl false = D.bl (fnL (c :: r))
        rw [Bool.or_eq_true] at hb
        unfold fnL
        rcases hb with hb | hb
        · have : ¬ r.length ≤ 7 := fun z => by simp at hb; omega
          simp [this]
        · have : isCap c = false := by simpa using hb
          simp [this]
      · intro hb
        rw [Bool.or_eq_false_iff] at hb
        apply q_next
        apply q_last
        refine q_ret false hall ?_
        show D.bl _ = D.bl (fnL (c :: r))
        have h7 : decide (r.length ≤ 7) = true := by
          have := hb.1
          simp at this
          exact decide_eq_true (by omega)
        have h8 : isCap c = true := by simpa using hb.2
        have : (r.all fun c => decide (c ∈ (("abcdefghijklmnopqrstuvwxyz" : Str)).cps.toList)) = r.all isSm := by
          congr 1
          funext c
          exact small_mem c
        rw [this]
        show D.bl _ = D.bl (decide (r.length ≤ 7) && isCap c && r.all isSm)
        rw [h7, h8]
        rfl
  · have hn := str_no (v := v) fun l e => hv ⟨l, e⟩
    have hfn : fnB v = false := by unfold fnB; rw [hn]
    rw [hfn]
    apply q_ifT false (dt_is (dt_or (b := true) (c := true) (dt_is (dt_not (dt_tru (d_str1 (d_var rfl) (san_isV hs)) trivial)) (by rw [hn]; rfl)) fun z => nomatch z) rfl)
    exact q_ret false d_bl rfl
def relDn (ds : List D) (r : Res) : Prop := ∃ v, ds = [v] ∧ san v = true ∧ r = .rt (.bl (dnB v))
theorem dn_wp (ds : List D) (r : Res) (h : relDn ds r) : WP K W (ds.map Sl.va ++ List.replicate (2 - ds.length) Sl.no) (t_is_deed_name K) (fun o => Fits o r) := by
  obtain ⟨v, rfl, hs, rfl⟩ := h
  show WP K W [.va v, .no] _ _
  unfold t_is_deed_name
  by_cases hv : ∃ l, v = sD l
  · obtain ⟨l, rfl⟩ := hv
    have hl : l.length ≤ 1000000 := by
      have : decide ((mkS l).length ≤ 1000000) = true := hs
      rw [mkS_len] at this
      exact of_decide_eq_true this
    have hfn : dnB (sD l) = dnL l := by unfold dnB; rw [strL_sD]
    rw [hfn]
    have h1 : DT K (fz false [.va (sD l), .no]) (tNot (tTru' K (tCB (rIsi' K) (tCons (tVar 0) (tCons (tC (.ty "str")) tNil))))) false := dt_is (dt_not (dt_tru (d_str1 (d_var rfl) rfl) trivial)) (by rw [strL_sD]; rfl)
    have h2 := chain8 (K := K) (δ := fz false [.va (sD l), .no]) (te := tVar 0) (l := l) (d_var rfl) hl
    have hall := d_allS (K := K) (δ := fz false [.va (sD l), .no]) (te := tVar 0) (i := 1) (z := "abcdefghijklmnopqrstuvwxyz") (l := l) (d_var rfl) (by simp [fz]) (by omega)
    have e7 : (l.all fun c => decide (c ∈ (("abcdefghijklmnopqrstuvwxyz" : Str)).cps.toList)) = l.all isSm := by
      congr 1
      funext c
      exact small_mem c
    rw [e7] at hall
    apply q_if false (b := !decide (1 ≤ l.length ∧ l.length ≤ 8)) (dt_is (dt_or (b := false) h1 fun _ => h2) rfl)
    · intro hb
      refine q_ret false d_bl ?_
      show D.bl false = D.bl (dnL l)
      unfold dnL
      have : decide (1 ≤ l.length ∧ l.length ≤ 8) = false := bnt hb
      rw [this]
      rfl
    · intro hb
      apply q_next
      apply q_last
      refine q_ret false hall ?_
      show D.bl _ = D.bl (dnL l)
      unfold dnL
      have : decide (1 ≤ l.length ∧ l.length ≤ 8) = true := bnf hb
      rw [this]
      rfl
  · have hn := str_no (v := v) fun l e => hv ⟨l, e⟩
    have hfn : dnB v = false := by unfold dnB; rw [hn]
    rw [hfn]
    apply q_ifT false (dt_is (dt_or (b := true) (c := true) (dt_is (dt_not (dt_tru (d_str1 (d_var rfl) (san_isV hs)) trivial)) (by rw [hn]; rfl)) fun z => nomatch z) rfl)
    exact q_ret false d_bl rfl
/-! node_bound -/
def relNB (n : Nat) (ds : List D) (r : Res) : Prop := ∃ (v : D) (room : Int), ds = [v, .int room] ∧ san v = true ∧ v.depth < n ∧ r = .rt (.int (nbF n v room))
theorem nb_wp (n : Nat) (ds : List D) (r : Res) (h : relNB (n + 1) ds r) : WP K W (ds.map Sl.va ++ List.replicate (4 - ds.length) Sl.no) (t_node_bound K (spD K relRow) (spD K (relNB n))) (fun o => Fits o r) := by
  obtain ⟨v, room, rfl, hs, hd, rfl⟩ := h
  show WP K W [.va v, .va (.int room), .no, .no] _ _
  unfold t_node_bound
  have hrow : ∀ {te : TE} {d : D}, DE K (fz false [.va v, .va (.int room), .no, .no]) te d → san d = true → DT K (fz false [.va v, .va (.int room), .no, .no]) (tNot (tTru' K (tCallR (spD K relRow) E0 (tCons te tNil)))) (!rowB d) := fun h hd => dt_not (dt_tru (d_call (d_acons h d_anil) (show relRow _ _ from ⟨_, rfl, san_isV hd, rfl⟩)) trivial)
  apply q_if false (b := decide (room ≤ 0 ∨ rowB v = false ∨ (items v).length ≠ 3 ∨ rowB (it v 2) = false))
  · refine dt_is (dt_or (b := decide (room ≤ 0)) (c := !rowB v || (!decide ((items v).length = 3) || !rowB (it v 2))) (dt_test (d_op (d_var rfl) d_int o_lei)) fun _ => dt_or (hrow (d_var rfl) hs) fun hr => ?_) ?_
    · have hr' : rowB v = true := by simpa using hr
      refine dt_or (dt_is (dt_test (d_op (d_cb (d_acons (d_var rfl) d_anil) (c_row hr')) d_int o_nei)) ?_) fun hl => ?_
      · congr 1
        rw [Bool.eq_iff_iff, decide_eq_true_iff, decide_eq_true_iff]
        omega
      · have hl' : (items v).length = 3 := by simpa using hl
        exact hrow (d_op (d_var rfl) d_int (o_it hr' (i := 2) (by omega))) (san_it hs)
    · rw [Bool.eq_iff_iff]
      simp
  · intro hb
    have hb' := of_decide_eq_true hb
    refine q_ret false d_int ?_
    show D.int 1 = D.int _
    rw [nbF, if_pos hb']
  · intro hb
    have hb' := of_decide_eq_false hb
    have h1 : rowB v = true := by
      cases e : rowB v with
      | true => rfl
      | false => exact absurd (.inr (.inl e)) hb'
    have h2 : (items v).length = 3 := by
      by_cases e : (items v).length = 3
      · exact e
      · exact absurd (.inr (.inr (.inl e))) hb'
    have h3 : rowB (it v 2) = true := by
      cases e : rowB (it v 2) with
      | true => rfl
      | false => exact absurd (.inr (.inr (.inr e))) hb'
    have hs2 := san_it (i := 2) hs
    have hd2 := depth_it (v := v) (i := 2) (by omega)
    rw [nbF, if_neg hb']
    have hg : DE K (fz false [.va v, .va (.int room), .va (.int 1), .no]) (tOp (rIx' K) (tVar 0) (tC (.int 2))) (it v 2) := d_op (d_var rfl) d_int (o_it h1 (i := 2) (by omega))
    generalize it v 2 = ps at *
    apply q_next
    apply q_set false d_int (fun z => nomatch z)
    refine q_forP (i_row h3 hg) (fun i S => ∃ c, S = [.va v, .va (.int room), .va (.int c), .no] ∧ nbLoop (nbF n) room ((items ps).drop i) c = nbLoop (nbF n) room (items ps) 1) [.va v, .va (.int room), .va (.int 1), .no] (wk.refl _) ⟨1, rfl, by rw [List.drop_zero]⟩ ?_ ?_
    · rintro i d S hx ⟨c, rfl, hc⟩
      have hdm := List.mem_of_getElem? hx
      have hdd := depth_item hdm
      have hil := (List.getElem?_eq_some_iff.mp hx).1
      have hdrop : (items ps).drop i = d :: (items ps).drop (i + 1) := by
        rw [List.drop_eq_getElem_cons hil]
        congr 1
        exact Option.some.inj ((List.getElem?_eq_getElem hil).symm.trans hx)
      rw [hdrop, nbLoop] at hc
      refine ⟨_, g_name', ?_⟩
      apply q_set false (d_op (d_var rfl) (d_call (d_acons (d_var rfl) (d_acons (d_op (d_var rfl) (d_var rfl) o_subi) d_anil)) (show relNB n _ _ from ⟨d, room - c, rfl, sanL_mem (san_items hs2).1 hdm, by omega, rfl⟩)) o_addi) (fun z => nomatch z)
      apply q_last
      apply q_if false (dt_test (d_op (d_var rfl) (d_var rfl) o_gti))
      · intro hgt
        have hgt' : c + nbF n d (room - c) > room := of_decide_eq_true hgt
        rw [if_pos hgt'] at hc
        apply q_brk
        apply q_last
        refine q_ret false (d_var rfl) ?_
        show D.int _ = D.int _
        rw [hc]
      · intro hgt
        have hgt' : ¬ c + nbF n d (room - c) > room := of_decide_eq_false hgt
        rw [if_neg hgt'] at hc
        apply q_next
        apply q_nx
        exact ⟨[.va v, .va (.int room), .va (.int (c + nbF n d (room - c))), .no], ⟨.inr rfl, .inr rfl, .inr rfl, .inl rfl, trivial⟩, _, rfl, hc⟩
    · rintro S ⟨c, rfl, hc⟩
      rw [List.drop_length, nbLoop] at hc
      apply q_last
      refine q_ret false (d_var rfl) ?_
      show D.int _ = D.int _
      rw [hc]
end
end K01

set_option Elab.async false
set_option linter.all false
set_option maxRecDepth 100000
set_option maxHeartbeats 4000000
/-! Q01: is_shaped, is_term, is_body; the walks over nodes. -/
namespace K01
open PySem PySem.Spec PyProof.Rows L2 G Pm Tm
section
variable {K : PySem.W.Frag} {W : WX} {δ : DEnv} {te tb : TE}
theorem strL_str {v : D} {l : List Nat} (h : strL v = some l) : v = sD l := by
  obtain ⟨l', e, h'⟩ := str_of (v := v) (by rw [h]; simp)
  rw [h] at h'
  cases h'
  exact e
theorem san_str {l : List Nat} (h : san (sD l) = true) : l.length ≤ 1000000 := by
  have : decide ((mkS l).length ≤ 1000000) = true := h
  rw [mkS_len] at this
  exact of_decide_eq_true this
/-- is_path(v, steps) and len(v) <= 4 -/
theorem d_pt {s : List Nat} {v : D} (h : DE K δ te v) (hs : san v = true) (hp : DE K δ tb (.str (mkS s))) :
    DE K δ (tAndT K (tCallR (spD K relIsPath) E0 (tCons te (tCons tb tNil))) (tOp rLe' (tCB (rLen' K) (tCons te tNil)) (tC (.int 4)))) (.bl (ptB s v)) := by
  have hc : DE K δ (tCallR (spD K relIsPath) E0 (tCons te (tCons tb tNil))) (.bl (pathB (mkS s) v)) := d_call (d_acons h (d_acons hp d_anil)) (show relIsPath _ _ from ⟨v, mkS s, rfl, san_isV hs, fun x e => by
    subst e
    have : decide (x.length ≤ 1000000) = true := hs
    have := of_decide_eq_true this
    omega, rfl⟩)
  by_cases hv : ∃ l, v = sD l
  · obtain ⟨l, rfl⟩ := hv
    refine de_is (d_andB hc fun _ => d_op (d_len h (san_str hs)) d_int o_lei) ?_
    show D.bl _ = D.bl _
    congr 1
    unfold ptB
    rw [strL_sD]
    show ((mkS l).cps.toList.all (fun c => decide (c ∈ (mkS s).cps.toList)) && decide ((l.length : Int) ≤ 4)) = _
    rw [mkS_cps, mkS_cps]
    congr 1
    rw [Bool.eq_iff_iff, decide_eq_true_iff, decide_eq_true_iff]
    omega
  · have hn := str_no (v := v) fun l e => hv ⟨l, e⟩
    have h0 : pathB (mkS s) v = false := by
      cases v <;> first
        | rfl
        | (rename_i x; exact absurd ⟨x.cps.toList, by unfold sD; rw [mkS_of]⟩ hv)
    rw [h0] at hc
    refine de_is (d_andB (c := false) hc fun z => nomatch z) ?_
    unfold ptB
    rw [hn]
    rfl
theorem cond_eq {p : Prop} [Decidable p] {b : Bool} (h : b = true ↔ p) : b = decide p := by
  rw [Bool.eq_iff_iff, decide_eq_true_iff]
  exact h
def relSh (n : Nat) (ds : List D) (r : Res) : Prop := ∃ (v : D) (s : List Nat), ds = [v, .str (mkS s)] ∧ san v = true ∧ v.depth < n ∧ r = .rt (.bl (shF s n v))
theorem thing_l : (("thing" : Str)).cps.toList = sThing := by rfl
theorem call_l : (("call" : Str)).cps.toList = sCall := by rfl
theorem deed_l : (("deed" : Str)).cps.toList = sDeed := by rfl
theorem sh_wp (n : Nat) (ds : List D) (r : Res) (h : relSh (n + 1) ds r) : WP K W (ds.map Sl.va ++ List.replicate (3 - ds.length) Sl.no) (t_is_shaped K (spD K relDn) (spD K relFn) (spD K relIsPath) (spD K relRow) (spD K (relSh n))) (fun o => Fits o r) := by
  obtain ⟨v, s, rfl, hs, hd, rfl⟩ := h
  show WP K W [.va v, .va (.str (mkS s)), .no] _ _
  unfold t_is_shaped
  have hrow : ∀ {te : TE} {d : D}, DE K (fz false [.va v, .va (.str (mkS s)), .no]) te d → san d = true → DT K (fz false [.va v, .va (.str (mkS s)), .no]) (tNot (tTru' K (tCallR (spD K relRow) E0 (tCons te tNil)))) (!rowB d) := fun h hd => dt_not (dt_tru (d_call (d_acons h d_anil) (show relRow _ _ from ⟨_, rfl, san_isV hd, rfl⟩)) trivial)
  rw [shF]
  by_cases h0 : rowB v = false ∨ (items v).length < 2 ∨ 3 < (items v).length ∨ strL (it v 0) = none
  · rw [if_pos h0]
    apply q_ifT false
    · refine dt_is (dt_or (b := !rowB v) (c := true) (hrow (d_var rfl) hs) fun hr => ?_) (by simp)
      have hr' : rowB v = true := bnf hr
      have hlen : DE K (fz false [.va v, .va (.str (mkS s)), .no]) (tCB (rLen' K) (tCons (tVar 0) tNil)) (.int ((items v).length : Int)) := d_cb (d_acons (d_var rfl) d_anil) (c_row hr')
      refine dt_is (dt_or (b := !(decide ((2 : Int) ≤ (items v).length) && decide (((items v).length : Int) ≤ 3))) (c := true) (dt_not (dt_test (d_chain d_int hlen o_lei fun _ => ⟨d_int, o_lei⟩))) fun hl => ?_) (by simp)
      have hl' := bnf hl
      rw [Bool.and_eq_true, decide_eq_true_iff, decide_eq_true_iff] at hl'
      refine dt_is (dt_not (dt_tru (d_str1 (d_op (d_var rfl) d_int (o_it hr' (i := 0) (by omega))) (san_isV (san_it hs))) trivial)) ?_
      show (!(strL (it v 0)).isSome) = true
      have : strL (it v 0) = none := by
        rcases h0 with z | z | z | z
        · rw [hr'] at z; cases z
        · omega
        · omega
        · exact z
      rw [this]; rfl
    · exact q_ret false d_bl rfl
  rw [if_neg h0]
  have hr : rowB v = true := bnf (by cases e : rowB v with | true => rfl | false => exact absurd (.inl e) h0)
  have h2 : 2 ≤ (items v).length := by
    rcases Nat.lt_or_ge (items v).length 2 with z | z
    · exact absurd (.inr (.inl z)) h0
    · exact z
  have h3 : (items v).length ≤ 3 := by
    rcases Nat.lt_or_ge 3 (items v).length with z | z
    · exact absurd (.inr (.inr (.inl z))) h0
    · exact z
  obtain ⟨w, hw⟩ : ∃ w, strL (it v 0) = some w := by
    cases e : strL (it v 0) with
    | none => exact absurd (.inr (.inr (.inr e))) h0
    | some w => exact ⟨w, rfl⟩
  have hlen : DE K (fz false [.va v, .va (.str (mkS s)), .no]) (tCB (rLen' K) (tCons (tVar 0) tNil)) (.int ((items v).length : Int)) := d_cb (d_acons (d_var rfl) d_anil) (c_row hr)
  have hi0 : DE K (fz false [.va v, .va (.str (mkS s)), .no]) (tOp (rIx' K) (tVar 0) (tC (.int 0))) (sD w) := de_is (d_op (d_var rfl) d_int (o_it hr (i := 0) (by omega))) (strL_str hw)
  have hi1 : DE K (fz false [.va v, .va (.str (mkS s)), .no]) (tOp (rIx' K) (tVar 0) (tC (.int 1))) (it v 1) := d_op (d_var rfl) d_int (o_it hr (i := 1) (by omega))
  rw [hw]
  apply q_ifF false
  · refine dt_is (dt_or (b := false) (c := false) (dt_is (hrow (d_var rfl) hs) (by rw [hr]; rfl)) fun _ => dt_or (b := false) (c := false) (dt_is (dt_not (dt_test (d_chain d_int hlen o_lei fun _ => ⟨d_int, o_lei⟩))) ?_) fun _ => dt_is (dt_not (dt_tru (d_str1 hi0 rfl) trivial)) (by rw [strL_sD]; rfl)) rfl
    have e1 : decide ((2 : Int) ≤ (items v).length) = true := decide_eq_true (by omega)
    have e2 : decide (((items v).length : Int) ≤ 3) = true := decide_eq_true (by omega)
    rw [e1, e2]; rfl
  apply q_next
  apply q_if false (dt_test (d_eqL hi0 thing_l))
  · intro e
    have e' : w = sThing := of_decide_eq_true e
    rw [if_pos (by rw [e'])]
    refine q_ret false (d_andB (d_op hlen d_int o_eqi) fun _ => d_pt hi1 (san_it hs) (d_var rfl)) ?_
    show D.bl _ = D.bl _
    congr 2
    rw [Bool.eq_iff_iff, decide_eq_true_iff, decide_eq_true_iff]
    omega
  intro e
  have e' : w ≠ sThing := of_decide_eq_false e
  rw [if_neg (fun z => e' (Option.some.inj z))]
  apply q_next
  apply q_if false (dt_test (d_op hlen d_int o_nei))
  · intro z
    have z' : (items v).length ≠ 3 := by
      have := bnt (b := decide (((items v).length : Int) = 3)) z
      have := of_decide_eq_false this
      omega
    rw [if_pos z']
    exact q_ret false d_bl rfl
  intro z
  have z' : (items v).length = 3 := by
    have := of_decide_eq_true (bnf z)
    omega
  rw [if_neg (fun y => y z')]
  apply q_next
  have hi2 : DE K (fz false [.va v, .va (.str (mkS s)), .no]) (tOp (rIx' K) (tVar 0) (tC (.int 2))) (it v 2) := d_op (d_var rfl) d_int (o_it hr (i := 2) (by omega))
  apply q_if false (dt_test (d_eqL hi0 call_l))
  · intro y
    have y' : w = sCall := of_decide_eq_true y
    rw [if_pos (by rw [y'])]
    exact q_ret false (d_andB (d_call (d_acons hi1 d_anil) (show relFn _ _ from ⟨_, rfl, san_it hs, rfl⟩)) fun _ => d_pt hi2 (san_it hs) (d_var rfl)) rfl
  intro y
  have y' : w ≠ sCall := of_decide_eq_false y
  rw [if_neg (fun z => y' (Option.some.inj z))]
  apply q_next
  by_cases h5 : some w ≠ some sDeed ∨ dnB (it v 1) = false ∨ rowB (it v 2) = false ∨ 4 < (items (it v 2)).length
  · rw [if_pos h5]
    apply q_ifT false
    · refine dt_is (dt_or (b := !decide (w = sDeed)) (c := true) (dt_test (d_neL hi0 deed_l)) fun g1 => ?_) (by simp)
      have g1' : w = sDeed := of_decide_eq_true (bnf g1)
      refine dt_is (dt_or (b := !dnB (it v 1)) (c := true) (dt_not (dt_tru (d_call (d_acons hi1 d_anil) (show relDn _ _ from ⟨_, rfl, san_it hs, rfl⟩)) trivial)) fun g2 => ?_) (by simp)
      have g2' := bnf g2
      refine dt_is (dt_or (b := !rowB (it v 2)) (c := true) (hrow hi2 (san_it hs)) fun g3 => ?_) (by simp)
      have g3' := bnf g3
      refine dt_is (dt_test (d_op (d_cb (d_acons hi2 d_anil) (c_row g3')) d_int o_gti)) ?_
      refine decide_eq_true ?_
      rcases h5 with q | q | q | q
      · exact absurd (by rw [g1']) q
      · rw [g2'] at q; cases q
      · rw [g3'] at q; cases q
      · omega
    · exact q_ret false d_bl rfl
  rw [if_neg h5]
  have g1 : w = sDeed := by
    by_cases e : w = sDeed
    · exact e
    · exact absurd (.inl fun z => e (Option.some.inj z)) h5
  have g2 : dnB (it v 1) = true := by
    cases e : dnB (it v 1) with
    | true => rfl
    | false => exact absurd (.inr (.inl e)) h5
  have g3 : rowB (it v 2) = true := by
    cases e : rowB (it v 2) with
    | true => rfl
    | false => exact absurd (.inr (.inr (.inl e))) h5
  have g4 : (items (it v 2)).length ≤ 4 := by
    rcases Nat.lt_or_ge 4 (items (it v 2)).length with q | q
    · exact absurd (.inr (.inr (.inr q))) h5
    · exact q
  apply q_ifF false
  · refine dt_is (dt_or (b := false) (c := false) (dt_is (dt_test (d_neL hi0 deed_l)) (by rw [g1]; rfl)) fun _ => dt_or (b := false) (c := false) (dt_is (dt_not (dt_tru (d_call (d_acons hi1 d_anil) (show relDn _ _ from ⟨_, rfl, san_it hs, rfl⟩)) trivial)) (by rw [g2]; rfl)) fun _ => dt_or (b := false) (c := false) (dt_is (hrow hi2 (san_it hs)) (by rw [g3]; rfl)) fun _ => dt_is (dt_test (d_op (d_cb (d_acons hi2 d_anil) (c_row g3)) d_int o_gti)) ?_) rfl
    exact decide_eq_false (by omega)
  apply q_next
  apply q_last
  refine q_ret false (d_allL (i_row g3 hi2) (shF s n) (fun d hd' => ?_) (by omega)) rfl
  have hdd := depth_item hd'
  have hd2 := depth_it (v := v) (i := 2) (by omega)
  refine d_call (d_acons (d_var (setsD_at (by simp [fz]))) (d_acons (d_var (d := .str (mkS s)) rfl) d_anil)) (show relSh n _ _ from ⟨d, s, rfl, sanL_mem (san_items (san_it hs)).1 hd', by omega, rfl⟩)
def relTm (ds : List D) (r : Res) : Prop := ∃ (v : D) (s : List Nat), ds = [v, .str (mkS s)] ∧ san v = true ∧ v.depth < 60 ∧ r = .rt (.bl (tmB s v))
theorem tm_wp (ds : List D) (r : Res) (h : relTm ds r) : WP K W (ds.map Sl.va ++ List.replicate (2 - ds.length) Sl.no) (t_is_term K (spD K (relSh 60)) (spD K (relNB 60))) (fun o => Fits o r) := by
  obtain ⟨v, s, rfl, hs, hd, rfl⟩ := h
  show WP K W [.va v, .va (.str (mkS s))] _ _
  unfold t_is_term
  apply q_last
  exact q_ret false (d_andB (d_op (d_call (d_acons (d_var rfl) (d_acons d_int d_anil)) (show relNB 60 _ _ from ⟨v, 12, rfl, hs, hd, rfl⟩)) d_int o_lei) fun _ => d_call (d_acons (d_var rfl) (d_acons (d_var rfl) d_anil)) (show relSh 60 _ _ from ⟨v, s, rfl, hs, hd, rfl⟩)) rfl
def bdB (s : List Nat) (v : D) : Bool := tmB s v && !decide (strL (it v 0) = some sThing)
def relBd (ds : List D) (r : Res) : Prop := ∃ (v : D) (s : List Nat), ds = [v, .str (mkS s)] ∧ san v = true ∧ v.depth < 60 ∧ r = .rt (.bl (bdB s v))
theorem bd_wp (ds : List D) (r : Res) (h : relBd ds r) : WP K W (ds.map Sl.va ++ List.replicate (2 - ds.length) Sl.no) (t_is_body K (spD K relTm)) (fun o => Fits o r) := by
  obtain ⟨v, s, rfl, hs, hd, rfl⟩ := h
  show WP K W [.va v, .va (.str (mkS s))] _ _
  unfold t_is_body
  apply q_last
  refine q_ret false (d_andB (c := !decide (strL (it v 0) = some sThing)) (d_call (d_acons (d_var rfl) (d_acons (d_var rfl) d_anil)) (show relTm _ _ from ⟨v, s, rfl, hs, hd, rfl⟩)) fun ht => ?_) rfl
  have hsh : shF s 60 v = true := by
    unfold tmB at ht
    rw [Bool.and_eq_true] at ht
    exact ht.2
  rw [shF] at hsh
  by_cases h0 : rowB v = false ∨ (items v).length < 2 ∨ 3 < (items v).length ∨ strL (it v 0) = none
  · rw [if_pos h0] at hsh; cases hsh
  have hr : rowB v = true := by cases e : rowB v with | true => rfl | false => exact absurd (.inl e) h0
  have h2 : 2 ≤ (items v).length := by
    rcases Nat.lt_or_ge (items v).length 2 with z | z
    · exact absurd (.inr (.inl z)) h0
    · exact z
  obtain ⟨w, hw⟩ : ∃ w, strL (it v 0) = some w := by
    cases e : strL (it v 0) with
    | none => exact absurd (.inr (.inr (.inr e))) h0
    | some w => exact ⟨w, rfl⟩
  have hi0 : DE K (fz false [.va v, .va (.str (mkS s))]) (tOp (rIx' K) (tVar 0) (tC (.int 0))) (sD w) := de_is (d_op (d_var rfl) d_int (o_it hr (i := 0) (by omega))) (strL_str hw)
  refine de_is (d_neL hi0 thing_l) ?_
  rw [hw]
  simp
/-! the walks over nodes -/
def _root_.Tm.T.w0 : T → List Nat
  | .thing _ => sThing
  | .call _ _ => sCall
  | .deed _ _ => sDeed
theorem df_row (f : Bool) (t : T) : rowB (t.df f) = true ∧ it (t.df f) 0 = sD t.w0 := by
  cases t <;> (rw [T.df]; exact ⟨(items_mk f _).2, by unfold it; rw [(items_mk f _).1]; rfl⟩)
theorem df_len (f : Bool) (t : T) : 2 ≤ (items (t.df f)).length := by
  cases t <;> (rw [T.df, (items_mk f _).1]; simp)
theorem d_w0 {f : Bool} {t : T} (h : DE K δ te (t.df f)) : DE K δ (tOp (rIx' K) te (tC (.int 0))) (sD t.w0) := by
  have := df_row f t
  refine de_is (d_op h d_int (o_it this.1 (i := 0) ?_)) this.2
  have := df_len f t
  omega
theorem d_ixm {f : Bool} {ds : List D} {i : Nat} {d : D} (h : DE K δ te (mk f ds)) (hd : ds[i]? = some d) : DE K δ (tOp (rIx' K) te (tC (.int (i : Int)))) d := by
  have hi : i < ds.length := (List.getElem?_eq_some_iff.mp hd).1
  have e1 := (items_mk f ds).1
  refine de_is (d_op h d_int (o_it (items_mk f ds).2 (i := i) (by rw [e1]; exact hi))) ?_
  unfold it
  rw [e1, List.getD_eq_getElem?_getD, hd]
  rfl
theorem i_mk {f : Bool} {ds : List D} (h : DE K δ te (mk f ds)) : DI K δ (iAny K te) ds := by
  have := i_row (items_mk f ds).2 h
  rw [(items_mk f ds).1] at this
  exact this
def relNodes (n : Nat) (ds : List D) (r : Res) : Prop := ∃ (f : Bool) (t : T), ds = [t.df f] ∧ t.dep ≤ n ∧ t.nodes.length ≤ 1000000 ∧ r = .rl (t.nodes.map (T.df f))
theorem map_nodesL (f : Bool) : ∀ (ts : List T) (i : Nat) (t : T), ts[i]? = some t → (nodesL (ts.take (i + 1))).map (T.df f) = (nodesL (ts.take i)).map (T.df f) ++ t.nodes.map (T.df f) := by
  intro ts i t h
  rw [List.take_add_one, h]
  have happ : ∀ (a b : List T), nodesL (a ++ b) = nodesL a ++ nodesL b := by
    intro a b
    induction a with
    | nil => rfl
    | cons x a ih => rw [List.cons_append, nodesL, nodesL, ih, List.append_assoc]
  rw [happ, List.map_append]
  simp [nodesL]
theorem nodesL_take (ts : List T) (i : Nat) : (nodesL (ts.take i)).length ≤ (nodesL ts).length := by
  induction ts generalizing i with
  | nil => simp
  | cons t ts ih =>
    cases i with
    | zero => simp [nodesL]
    | succ i =>
      rw [List.take_succ_cons, nodesL, nodesL, List.length_append, List.length_append]
      have := ih i
      omega
theorem nodes_wp (n : Nat) (ds : List D) (r : Res) (h : relNodes (n + 1) ds r) : WP K W (ds.map Sl.va ++ List.replicate (3 - ds.length) Sl.no) (t_nodes_of K (spD K (relNodes n))) (fun o => Fits o r) := by
  obtain ⟨f, t, rfl, hd, hn, rfl⟩ := h
  show WP K W [.va (t.df f), .no, .no] _ _
  unfold t_nodes_of
  apply q_setL false (dl_lst (d_acons (d_var rfl) d_anil) (by simp)) (fun z => nomatch z)
  have h0 := d_w0 (K := K) (δ := fz false [.va (t.df f), .ow (.lst [t.df f]), .no]) (te := tVar 0) (f := f) (t := t) (d_var rfl)
  cases t with
  | deed m ps =>
    simp only [T.nodes, List.length_cons, T.dep] at hd hn
    apply q_ifT false (dt_is (dt_test (d_eqL h0 deed_l)) rfl)
    have hg : DE K (fz false [.va ((T.deed m ps).df f), .ow (.lst [(T.deed m ps).df f]), .no]) (tOp (rIx' K) (tVar 0) (tC (.int 2))) (mk f (dfL f ps)) := d_ixm (f := f) (ds := [sD sDeed, sD m, mk f (dfL f ps)]) (i := 2) (d_var rfl) rfl
    refine q_forS (i_mk hg) (fun i => [.va ((T.deed m ps).df f), .ow (.lst ((T.deed m ps).df f :: (nodesL (ps.take i)).map (T.df f))), .no]) (wk.refl _) ?_ ?_
    · intro i d hx
      rw [dfL_map, List.getElem?_map] at hx
      cases hp : ps[i]? with
      | none => rw [hp] at hx; cases hx
      | some p =>
        rw [hp] at hx
        cases hx
        have hm := List.mem_of_getElem? hp
        have h1 := dep_mem hm
        have h2 := nodes_mem hm
        have h3 := nodesL_take ps i
        refine ⟨_, g_name', ?_⟩
        apply q_last
        apply q_ext false rfl (dl_call (es := p.nodes.map (T.df f)) (d_acons (d_var rfl) d_anil) (show relNodes n _ _ from ⟨f, p, rfl, by omega, by omega, rfl⟩)) (fun z => nomatch z)
        · simp
          omega
        apply q_nx
        refine ⟨.inr rfl, .inr ?_, .inl rfl, trivial⟩
        show Sl.ow (.lst (_ :: _ ++ _)) = _
        rw [map_nodesL f ps i p hp, List.cons_append]
    · apply q_last
      apply q_retO rfl
      · show (_ :: _ : List D).length ≤ _
        rw [dfL_map, List.length_map, List.take_length, List.length_cons, List.length_map]
        omega
      show (_ :: _ : List D) = _
      rw [dfL_map, List.length_map, List.take_length, T.nodes, List.map_cons]
  | thing p =>
    apply q_ifF false (dt_is (dt_test (d_eqL h0 deed_l)) rfl)
    apply q_next
    apply q_last
    exact q_retO rfl (by simp) rfl
  | call m p =>
    apply q_ifF false (dt_is (dt_test (d_eqL h0 deed_l)) rfl)
    apply q_next
    apply q_last
    exact q_retO rfl (by simp) rfl
/-- node_total -/
def relTot (ds : List D) (r : Res) : Prop := ∃ (f : Bool) (t : T), ds = [t.df f] ∧ t.dep ≤ 13 ∧ t.nodes.length ≤ 1000000 ∧ r = .rt (.int (t.nodes.length : Int))
theorem tot_wp (ds : List D) (r : Res) (h : relTot ds r) : WP K W (ds.map Sl.va ++ List.replicate (1 - ds.length) Sl.no) (t_node_total K (spD K (relNodes 13))) (fun o => Fits o r) := by
  obtain ⟨f, t, rfl, hd, hn, rfl⟩ := h
  show WP K W [.va (t.df f)] _ _
  unfold t_node_total
  apply q_last
  refine q_ret false (d_cb (d_acons (dl_call (es := t.nodes.map (T.df f)) (d_acons (d_var rfl) d_anil) (show relNodes 13 _ _ from ⟨f, t, rfl, hd, hn, rfl⟩)).de d_anil) c_leni) ?_
  show D.int _ = D.int _
  rw [List.length_map]
def callD : T → Option D
  | .call n p => some (.tup [sD n, sD p])
  | _ => none
def thingD : T → Option D
  | .thing p => some (sD p)
  | _ => none
def deedD : T → Option D
  | .deed n ps => some (.tup [sD n, .int (ps.length : Int)])
  | _ => none
theorem dt_w0 {f : Bool} {t : T} {y : Str} {z : List Nat} {b : Bool} (h : DE K δ te (t.df f)) (hz : y.cps.toList = z) (hb : decide (t.w0 = z) = b) : DT K δ (tTest (tOp (rEq' K) (tOp (rIx' K) te (tC (.int 0))) (tC (.str y)))) b :=
  dt_is (dt_test (d_eqL (d_w0 h) hz)) hb
theorem d_i1 {f : Bool} {t : T} {d : D} (i : Nat) (h : DE K δ te (t.df f)) (hd : (items (t.df f))[i]? = some d) : DE K δ (tOp (rIx' K) te (tC (.int (i : Int)))) d := by
  have e : t.df f = mk f (items (t.df f)) := by cases t <;> (rw [T.df, (items_mk f _).1])
  rw [e] at h
  exact d_ixm h hd
theorem df_thing (f : Bool) (p : List Nat) : items ((T.thing p).df f) = [sD sThing, sD p] := (items_mk f _).1
theorem df_call (f : Bool) (n p : List Nat) : items ((T.call n p).df f) = [sD sCall, sD n, sD p] := (items_mk f _).1
theorem df_deed (f : Bool) (n : List Nat) (ps : List T) : items ((T.deed n ps).df f) = [sD sDeed, sD n, mk f (dfL f ps)] := (items_mk f _).1
theorem c_mk {f : Bool} {ds : List D} : DC K (rLen' K) [mk f ds] (.int (ds.length : Int)) := by
  cases f
  · exact c_lent
  · exact c_leni
def relCalls (ds : List D) (r : Res) : Prop := ∃ (f : Bool) (t : T), ds = [t.df f] ∧ t.dep ≤ 13 ∧ t.nodes.length ≤ 1000000 ∧ r = .rt (.tup (t.nodes.filterMap callD))
/-- the three lists over nodes -/
theorem dl_calls {f : Bool} {l : List T} {wi : TI} {i : Nat} (hi : DI K δ wi (l.map (T.df f))) (hl : l.length ≤ 1000000) (hδ : i < δ.length) :
    DL K δ (tLc wi (gName i) (tTest (tOp (rEq' K) (tOp (rIx' K) (tVar i) (tC (.int 0))) (tC (.str "call")))) (tTup (tCons (tOp (rIx' K) (tVar i) (tC (.int 1))) (tCons (tOp (rIx' K) (tVar i) (tC (.int 2))) tNil))) [i]) (l.filterMap callD) := by
  refine dl_mapG hi callD (fun t ht => ?_) (by omega)
  have hv : DE K (setsD (wipeD δ [i]) [(i, t.df f)]) (tVar i) (t.df f) := d_var (setsD_at hδ)
  cases t with
  | thing p => exact ⟨dt_w0 hv call_l rfl, fun y hy => nomatch hy⟩
  | call n p => exact ⟨dt_w0 hv call_l rfl, fun y hy => by cases hy; exact d_tup (d_acons (d_i1 1 hv (by rw [df_call]; rfl)) (d_acons (d_i1 2 hv (by rw [df_call]; rfl)) d_anil)) (by simp)⟩
  | deed n ps => exact ⟨dt_w0 hv call_l rfl, fun y hy => nomatch hy⟩
theorem dl_things {f : Bool} {l : List T} {wi : TI} {i : Nat} (hi : DI K δ wi (l.map (T.df f))) (hl : l.length ≤ 1000000) (hδ : i < δ.length) :
    DL K δ (tLc wi (gName i) (tTest (tOp (rEq' K) (tOp (rIx' K) (tVar i) (tC (.int 0))) (tC (.str "thing")))) (tOp (rIx' K) (tVar i) (tC (.int 1))) [i]) (l.filterMap thingD) := by
  refine dl_mapG hi thingD (fun t ht => ?_) (by omega)
  have hv : DE K (setsD (wipeD δ [i]) [(i, t.df f)]) (tVar i) (t.df f) := d_var (setsD_at hδ)
  cases t with
  | thing p => exact ⟨dt_w0 hv thing_l rfl, fun y hy => by cases hy; exact d_i1 1 hv (by rw [df_thing]; rfl)⟩
  | call n p => exact ⟨dt_w0 hv thing_l rfl, fun y hy => nomatch hy⟩
  | deed n ps => exact ⟨dt_w0 hv thing_l rfl, fun y hy => nomatch hy⟩
theorem dl_deeds {f : Bool} {l : List T} {wi : TI} {i : Nat} (hi : DI K δ wi (l.map (T.df f))) (hl : l.length ≤ 1000000) (hδ : i < δ.length) :
    DL K δ (tLc wi (gName i) (tTest (tOp (rEq' K) (tOp (rIx' K) (tVar i) (tC (.int 0))) (tC (.str "deed")))) (tTup (tCons (tOp (rIx' K) (tVar i) (tC (.int 1))) (tCons (tCB (rLen' K) (tCons (tOp (rIx' K) (tVar i) (tC (.int 2))) tNil)) tNil))) [i]) (l.filterMap deedD) := by
  refine dl_mapG hi deedD (fun t ht => ?_) (by omega)
  have hv : DE K (setsD (wipeD δ [i]) [(i, t.df f)]) (tVar i) (t.df f) := d_var (setsD_at hδ)
  cases t with
  | thing p => exact ⟨dt_w0 hv deed_l rfl, fun y hy => nomatch hy⟩
  | call n p => exact ⟨dt_w0 hv deed_l rfl, fun y hy => nomatch hy⟩
  | deed n ps => exact ⟨dt_w0 hv deed_l rfl, fun y hy => by cases hy; exact d_tup (d_acons (d_i1 1 hv (by rw [df_deed]; rfl)) (d_acons (de_is (d_cb (d_acons (d_i1 (d := mk f (dfL f ps)) 2 hv (by rw [df_deed]; rfl)) d_anil) c_mk) (by rw [dfL_map, List.length_map])) d_anil)) (by simp)⟩
theorem calls_wp (ds : List D) (r : Res) (h : relCalls ds r) : WP K W (ds.map Sl.va ++ List.replicate (2 - ds.length) Sl.no) (t_calls_of K (spD K (relNodes 13))) (fun o => Fits o r) := by
  obtain ⟨f, t, rfl, hd, hn, rfl⟩ := h
  show WP K W [.va (t.df f), .no] _ _
  unfold t_calls_of
  apply q_last
  exact q_ret false (d_cb (d_acons (dl_calls (it_lst (dl_call (es := t.nodes.map (T.df f)) (d_acons (d_var rfl) d_anil) (show relNodes 13 _ _ from ⟨f, t, rfl, hd, hn, rfl⟩)).de) hn (by simp [fz])).de d_anil) c_tupL) rfl
def relThings (ds : List D) (r : Res) : Prop := ∃ (f : Bool) (t : T), ds = [t.df f] ∧ t.dep ≤ 13 ∧ t.nodes.length ≤ 1000000 ∧ r = .rt (.tup (t.nodes.filterMap thingD))
theorem things_wp (ds : List D) (r : Res) (h : relThings ds r) : WP K W (ds.map Sl.va ++ List.replicate (2 - ds.length) Sl.no) (t_things_of K (spD K (relNodes 13))) (fun o => Fits o r) := by
  obtain ⟨f, t, rfl, hd, hn, rfl⟩ := h
  show WP K W [.va (t.df f), .no] _ _
  unfold t_things_of
  apply q_last
  exact q_ret false (d_cb (d_acons (dl_things (it_lst (dl_call (es := t.nodes.map (T.df f)) (d_acons (d_var rfl) d_anil) (show relNodes 13 _ _ from ⟨f, t, rfl, hd, hn, rfl⟩)).de) hn (by simp [fz])).de d_anil) c_tupL) rfl
def relDeeds (ds : List D) (r : Res) : Prop := ∃ (f : Bool) (t : T), ds = [t.df f] ∧ t.dep ≤ 13 ∧ t.nodes.length ≤ 1000000 ∧ r = .rt (.tup (t.nodes.filterMap deedD))
theorem deeds_wp (ds : List D) (r : Res) (h : relDeeds ds r) : WP K W (ds.map Sl.va ++ List.replicate (2 - ds.length) Sl.no) (t_deeds_of K (spD K (relNodes 13))) (fun o => Fits o r) := by
  obtain ⟨f, t, rfl, hd, hn, rfl⟩ := h
  show WP K W [.va (t.df f), .no] _ _
  unfold t_deeds_of
  apply q_last
  exact q_ret false (d_cb (d_acons (dl_deeds (it_lst (dl_call (es := t.nodes.map (T.df f)) (d_acons (d_var rfl) d_anil) (show relNodes 13 _ _ from ⟨f, t, rfl, hd, hn, rfl⟩)).de) hn (by simp [fz])).de d_anil) c_tupL) rfl
/-- _law_term_nodes -/
def relLN (n : Nat) (ds : List D) (r : Res) : Prop := ∃ (f : Bool) (t : T), ds = [t.df f] ∧ t.dep ≤ n ∧ t.nodes.length ≤ 1000000 ∧ r = .rt (.lst (t.nodes.map (T.df f)))
theorem lnodes_wp (n : Nat) (ds : List D) (r : Res) (h : relLN (n + 1) ds r) : WP K W (ds.map Sl.va ++ List.replicate (3 - ds.length) Sl.no) (t__law_term_nodes K (spD K (relLN n))) (fun o => Fits o r) := by
  obtain ⟨f, t, rfl, hd, hn, rfl⟩ := h
  show WP K W [.va (t.df f), .no, .no] _ _
  unfold t__law_term_nodes
  apply q_set false (dl_lst (d_acons (d_var rfl) d_anil) (by simp)).de (fun z => nomatch z)
  have h0 := d_w0 (K := K) (δ := fz false [.va (t.df f), .va (.lst [t.df f]), .no]) (te := tVar 0) (f := f) (t := t) (d_var rfl)
  cases t with
  | deed m ps =>
    simp only [T.nodes, List.length_cons, T.dep] at hd hn
    apply q_ifT false (dt_is (dt_test (d_eqL h0 deed_l)) rfl)
    have hg : DE K (fz false [.va ((T.deed m ps).df f), .va (.lst [(T.deed m ps).df f]), .no]) (tOp (rIx' K) (tVar 0) (tC (.int 2))) (mk f (dfL f ps)) := d_ixm (f := f) (ds := [sD sDeed, sD m, mk f (dfL f ps)]) (i := 2) (d_var rfl) rfl
    refine q_forS (i_mk hg) (fun i => [.va ((T.deed m ps).df f), .va (.lst ((T.deed m ps).df f :: (nodesL (ps.take i)).map (T.df f))), .no]) (wk.refl _) ?_ ?_
    · intro i d hx
      rw [dfL_map, List.getElem?_map] at hx
      cases hp : ps[i]? with
      | none => rw [hp] at hx; cases hx
      | some p =>
        rw [hp] at hx
        cases hx
        have hm := List.mem_of_getElem? hp
        have h1 := dep_mem hm
        have h2 := nodes_mem hm
        have h3 := nodesL_take ps i
        refine ⟨_, g_name', ?_⟩
        apply q_last
        apply q_set false (dl_catD (d_var rfl) (d_call (d := .lst (p.nodes.map (T.df f))) (d_acons (d_var rfl) d_anil) (show relLN n _ _ from ⟨f, p, rfl, by omega, by omega, rfl⟩)) ?_).de (fun z => nomatch z)
        · apply q_nx
          refine ⟨.inr rfl, .inr ?_, .inl rfl, trivial⟩
          show Sl.va (.lst (_ :: _ ++ _)) = _
          rw [map_nodesL f ps i p hp, List.cons_append]
        · simp
          omega
    · apply q_last
      refine q_ret false (d_var rfl) ?_
      show D.lst _ = D.lst _
      rw [dfL_map, List.length_map, List.take_length, T.nodes, List.map_cons]
  | thing p =>
    apply q_ifF false (dt_is (dt_test (d_eqL h0 deed_l)) rfl)
    apply q_next
    apply q_last
    exact q_ret false (d_var rfl) rfl
  | call m p =>
    apply q_ifF false (dt_is (dt_test (d_eqL h0 deed_l)) rfl)
    apply q_next
    apply q_last
    exact q_ret false (d_var rfl) rfl
end
end K01

set_option Elab.async false
set_option linter.all false
set_option maxRecDepth 100000
set_option maxHeartbeats 4000000
/-! N01: sizes of terms and of what is read. -/
namespace Tm
open PySem PySem.Spec G Pm K01
def sumW : List T → Nat
  | [] => 0
  | t :: ts => t.wr.length + 2 + sumW ts
theorem sumW_app : ∀ a b : List T, sumW (a ++ b) = sumW a + sumW b
  | [], b => by simp [sumW]
  | x :: a, b => by
    rw [List.cons_append, sumW, sumW, sumW_app a b]
    omega
theorem glue_sum : ∀ ts : List T, ts ≠ [] → (glue (wrL ts)).length + 2 = sumW ts
  | [], h => absurd rfl h
  | [t], _ => by simp [wrL, glue, sumW]
  | t :: t2 :: ts, _ => by
    have := glue_sum (t2 :: ts) (by simp)
    rw [sumW, ← this]
    simp only [wrL, glue, List.length_append, List.length_cons, List.length_nil]
    omega
theorem glue_le (ts : List T) : (glue (wrL ts)).length ≤ sumW ts ∧ sumW ts ≤ (glue (wrL ts)).length + 2 := by
  cases ts with
  | nil => simp [wrL, glue, sumW]
  | cons t ts =>
    have := glue_sum (t :: ts) (by simp)
    omega
theorem sumW_mem {ts : List T} {t : T} (h : t ∈ ts) : t.wr.length + 2 ≤ sumW ts := by
  induction ts with
  | nil => cases h
  | cons a ts ih =>
    rw [sumW]
    rcases List.mem_cons.mp h with rfl | h
    · omega
    · have := ih h
      omega
theorem sumW_len (ts : List T) : 2 * ts.length ≤ sumW ts := by
  induction ts with
  | nil => simp
  | cons a ts ih => rw [sumW, List.length_cons]; omega
theorem ptx_len (p : List Nat) : p.length ≤ (ptx p).length ∧ (ptx p).length ≤ p.length + 1 := by
  unfold ptx
  by_cases h : p = []
  · rw [if_pos h, h]; simp
  · rw [if_neg h]; omega
theorem rp_len (w : List Nat) : (ptx (rp w)).length ≤ w.length + 1 ∧ (w ≠ [] → (ptx (rp w)).length ≤ w.length) := by
  unfold rp
  by_cases h : w = [120]
  · rw [if_pos h, h]; simp [ptx]
  · rw [if_neg h]
    unfold ptx
    by_cases h2 : w = []
    · rw [if_pos h2, h2]; simp
    · rw [if_neg h2]; exact ⟨by omega, fun _ => Nat.le_refl _⟩
mutual
theorem san_df (f : Bool) : ∀ t : T, t.wr.length ≤ 1000000 → san (t.df f) = true
  | .thing p, h => by
    rw [T.wr] at h
    have := ptx_len p
    have h1 : san (sD sThing) = true := rfl
    have h2 : san (sD p) = true := decide_eq_true (by rw [mkS_len]; omega)
    rw [T.df]
    cases f <;> simp [mk, san, sanL, h1, h2]
  | .call n p, h => by
    rw [T.wr] at h
    simp only [List.length_append, List.length_cons, List.length_nil] at h
    have := ptx_len p
    have h1 : san (sD sCall) = true := rfl
    have h2 : san (sD p) = true := decide_eq_true (by rw [mkS_len]; omega)
    have h3 : san (sD n) = true := decide_eq_true (by rw [mkS_len]; omega)
    rw [T.df]
    cases f <;> simp [mk, san, sanL, h1, h2, h3]
  | .deed n ps, h => by
    rw [T.wr] at h
    simp only [List.length_append, List.length_cons, List.length_nil] at h
    have hg := glue_le ps
    have hl := sumW_len ps
    have h1 : san (sD sDeed) = true := rfl
    have h2 := sanL_df f ps (by omega)
    have h3 : san (sD n) = true := decide_eq_true (by rw [mkS_len]; omega)
    have h4 : (dfL f ps).length ≤ 1000000 := by rw [dfL_map, List.length_map]; omega
    rw [T.df]
    cases f <;> simp [mk, san, sanL, h1, h2, h3, h4]
theorem sanL_df (f : Bool) : ∀ ts : List T, sumW ts ≤ 1000002 → sanL (dfL f ts) = true
  | [], _ => rfl
  | t :: ts, h => by
    rw [sumW] at h
    rw [dfL, sanL, san_df f t (by omega), sanL_df f ts (by omega)]
    rfl
end
mutual
theorem depth_df (f : Bool) : ∀ t : T, (t.df f).depth ≤ 2 * t.dep
  | .thing p => by cases f <;> simp [T.df, mk, D.depth, D.depthL, T.dep, sD]
  | .call n p => by cases f <;> simp [T.df, mk, D.depth, D.depthL, T.dep, sD]
  | .deed n ps => by
    have := depthL_df f ps
    cases f <;> (simp [T.df, mk, D.depth, D.depthL, T.dep, sD]; omega)
theorem depthL_df (f : Bool) : ∀ ts : List T, D.depthL (dfL f ts) ≤ 2 * depL ts
  | [] => by simp [dfL, D.depthL]
  | t :: ts => by
    have h1 := depth_df f t
    have h2 := depthL_df f ts
    simp only [dfL, D.depthL, depL]
    omega
end
theorem depL_app : ∀ a b : List T, depL (a ++ b) = max (depL a) (depL b)
  | [], b => by simp [depL]
  | x :: a, b => by
    rw [List.cons_append, depL, depL, depL_app a b]
    omega
/-- what is read is no longer than twice the text -/
def Good (n : Nat) (f : List Nat → Option (T × List Nat)) : Prop := ∀ w t r, f w = some (t, r) → r <:+ w ∧ t.wr.length + 2 * r.length ≤ 2 * w.length ∧ t.dep ≤ n
theorem pL_good {n : Nat} {f : List Nat → Option (T × List Nat)} (g : Good n f) (name : List Nat) : ∀ (k : Nat) (acc : List T) (w : List Nat) (t : T) (r : List Nat), pL f name k acc w = some (t, r) → r <:+ w ∧ ∃ ts, t = .deed name (acc ++ ts) ∧ depL ts ≤ n ∧ sumW ts + 2 * r.length ≤ 2 * w.length
  | 0, _, _, _, _, h => by simp [pL] at h
  | k + 1, acc, w, t, r, h => by
    rw [pL] at h
    cases e : f w with
    | none => rw [e] at h; cases h
    | some x =>
      obtain ⟨t1, r1⟩ := x
      rw [e] at h
      obtain ⟨g1, g2, g3⟩ := g w t1 r1 e
      dsimp only at h
      split at h
      · rename_i q
        cases h
        refine ⟨(List.suffix_cons _ _).trans g1, [t1], rfl, by simp [depL]; exact g3, ?_⟩
        simp [sumW] at g2 ⊢
        omega
      · rename_i q
        obtain ⟨s1, ts, s2, s3, s4⟩ := pL_good g name k (acc ++ [t1]) q t r h
        refine ⟨s1.trans (((List.suffix_cons _ _).trans (List.suffix_cons _ _)).trans g1), t1 :: ts, by rw [s2]; simp, by simp [depL]; omega, ?_⟩
        simp [sumW] at g2 ⊢
        omega
      · cases h
theorem pD_good {n : Nat} {f : List Nat → Option (T × List Nat)} (g : Good n f) (name : List Nat) (w : List Nat) (t : T) (r : List Nat) (h : pD f name w = some (t, r)) : r <:+ w ∧ ∃ ts, t = .deed name ts ∧ depL ts ≤ n ∧ sumW ts + 2 * r.length ≤ 2 * w.length := by
  unfold pD at h
  split at h
  · rename_i q
    cases h
    exact ⟨List.suffix_cons _ _, [], rfl, by simp [depL], by simp [sumW]; omega⟩
  · exact pL_good g name 4 [] w t r h
theorem pT_good : ∀ n : Nat, Good n (pT n)
  | 0 => fun w t r h => by simp [pT] at h
  | n + 1 => fun w t r h => by
    by_cases hm : w.takeWhile isAl = []
    · rw [pT, if_pos hm] at h; cases h
    have hw := List.takeWhile_append_dropWhile (p := isAl) (l := w)
    have hlen : w.length = (w.takeWhile isAl).length + (w.dropWhile isAl).length := by
      rw [← List.length_append, hw]
    have hsuf : w.dropWhile isAl <:+ w := List.dropWhile_suffix _
    by_cases hp : ∃ r0, w.dropWhile isAl = 40 :: r0
    · obtain ⟨r0, hr0⟩ := hp
      rw [pT_par rfl hr0 hm] at h
      rw [hr0] at hlen hsuf
      simp only [List.length_cons] at hlen
      by_cases hf : fnL (w.takeWhile isAl) = true
      · rw [if_pos hf] at h
        have hw2 := List.takeWhile_append_dropWhile (p := isAl) (l := r0)
        have hlen2 : r0.length = (r0.takeWhile isAl).length + (r0.dropWhile isAl).length := by
          rw [← List.length_append, hw2]
        have hsuf2 : r0.dropWhile isAl <:+ r0 := List.dropWhile_suffix _
        split at h
        · rename_i q hq
          cases h
          rw [hq] at hlen2 hsuf2
          simp only [List.length_cons] at hlen2
          have := (rp_len (r0.takeWhile isAl)).1
          refine ⟨(List.suffix_cons _ _).trans (hsuf2.trans ((List.suffix_cons _ _).trans hsuf)), ?_, by simp [T.dep]⟩
          simp only [T.wr, List.length_append, List.length_cons, List.length_nil]
          omega
        · cases h
      · rw [if_neg hf] at h
        obtain ⟨s1, ts, rfl, s3, s4⟩ := pD_good (pT_good n) _ _ _ _ h
        have := glue_le ts
        refine ⟨s1.trans ((List.suffix_cons _ _).trans hsuf), ?_, by simp [T.dep]; exact s3⟩
        simp only [T.wr, List.length_append, List.length_cons, List.length_nil]
        omega
    · have h' : some (T.thing (rp (w.takeWhile isAl)), w.dropWhile isAl) = some (t, r) := by
        rw [← h, pT, if_neg hm]
        split
        · rename_i r0 e
          exact absurd ⟨r0, e⟩ hp
        · rfl
      cases h'
      have := (rp_len (w.takeWhile isAl)).2 hm
      refine ⟨hsuf, ?_, by simp [T.dep]⟩
      rw [T.wr]
      omega
/-! sizes of good terms -/
mutual
theorem ok_len {s : List Nat} : ∀ t : T, t.ok s = true → t.wr.length + 2 ≤ 20 * t.nodes.length
  | .thing p, h => by
    rw [T.ok, Bool.and_eq_true, decide_eq_true_iff] at h
    have := ptx_len p
    simp only [T.wr, T.nodes, List.length_cons, List.length_nil]
    omega
  | .call n p, h => by
    rw [T.ok, Bool.and_eq_true, Bool.and_eq_true, decide_eq_true_iff] at h
    have := ptx_len p
    have hn : n.length ≤ 8 := by
      have h1 := h.1
      cases n with
      | nil => simp
      | cons c r =>
        unfold fnL at h1
        simp only [Bool.and_eq_true, decide_eq_true_iff] at h1
        simp
        omega
    simp only [T.wr, T.nodes, List.length_cons, List.length_nil, List.length_append]
    omega
  | .deed n ps, h => by
    rw [T.ok, Bool.and_eq_true, Bool.and_eq_true] at h
    have h1 := okL_len ps h.2
    have hn : n.length ≤ 8 := by
      have := h.1.1
      unfold dnL at this
      simp only [Bool.and_eq_true, decide_eq_true_iff] at this
      omega
    have := glue_le ps
    simp only [T.wr, T.nodes, List.length_cons, List.length_nil, List.length_append]
    omega
theorem okL_len {s : List Nat} : ∀ ts : List T, okL s ts = true → sumW ts ≤ 20 * (nodesL ts).length
  | [], _ => by simp [sumW]
  | t :: ts, h => by
    rw [okL, Bool.and_eq_true] at h
    have h1 := ok_len t h.1
    have h2 := okL_len ts h.2
    rw [sumW, nodesL, List.length_append]
    omega
end
/-! signs -/
def asc (l : List Nat) : Bool := l.all fun c => decide (c < 128)
theorem asc_app {a b : List Nat} : asc (a ++ b) = (asc a && asc b) := by simp [asc]
theorem al_asc {l : List Nat} (h : l.all isAl = true) : asc l = true := by
  unfold asc
  rw [List.all_eq_true] at h ⊢
  intro c hc
  have := h c hc
  unfold isAl isCap isSm at this
  rw [Bool.or_eq_true, decide_eq_true_iff, decide_eq_true_iff] at this
  exact decide_eq_true (by omega)
mutual
theorem ok_asc {s : List Nat} (hs : LetS s) : ∀ t : T, t.ok s = true → asc t.wr = true
  | .thing p, h => by
    rw [T.ok, Bool.and_eq_true] at h
    rw [T.wr]
    exact al_asc (pt_al hs h.1).1
  | .call n p, h => by
    rw [T.ok, Bool.and_eq_true, Bool.and_eq_true] at h
    rw [T.wr, asc_app, asc_app, asc_app, al_asc (pt_al hs h.2.1).1, al_asc (fn_al h.1).1]
    rfl
  | .deed n ps, h => by
    rw [T.ok, Bool.and_eq_true, Bool.and_eq_true] at h
    rw [T.wr, asc_app, asc_app, asc_app, al_asc (dn_al h.1.1).1, okL_asc hs ps h.2]
    rfl
theorem okL_asc {s : List Nat} (hs : LetS s) : ∀ ts : List T, okL s ts = true → asc (glue (wrL ts)) = true
  | [], _ => rfl
  | [t], h => by
    rw [okL, Bool.and_eq_true] at h
    exact ok_asc hs t h.1
  | t :: t2 :: ts, h => by
    rw [okL, Bool.and_eq_true] at h
    have h1 := ok_asc hs t h.1
    have h2 := okL_asc hs (t2 :: ts) h.2
    show asc (t.wr ++ [44, 32] ++ glue (wrL (t2 :: ts))) = true
    rw [asc_app, asc_app, h1, h2]
    rfl
end
end Tm

set_option Elab.async false
set_option linter.all false
set_option maxRecDepth 100000
set_option maxHeartbeats 4000000
/-! R01: the written form, its reading. -/
namespace K01
open PySem PySem.Spec PyProof.Rows L2 G Pm Tm
def tlG : List (List Nat) → List Nat
  | [] => []
  | y :: r => [44, 32] ++ y ++ tlG r
theorem glue_tl (x : List Nat) : ∀ r : List (List Nat), glue (x :: r) = x ++ tlG r
  | [] => by simp [glue, tlG]
  | y :: r => by
    have := glue_tl y r
    rw [glue, this, tlG]
    simp
theorem fold_tl : ∀ (r : List (List Nat)) (a : List Nat), (r.map mkS).foldl (fun acc p => acc ++ #[44, 32] ++ p.cps) a.toArray = (a ++ tlG r).toArray
  | [], a => by simp [tlG]
  | y :: r, a => by
    rw [List.map_cons, List.foldl_cons]
    have : (a.toArray ++ #[44, 32] ++ (mkS y).cps) = (a ++ [44, 32] ++ y).toArray := by simp [mkS]
    rw [this, fold_tl r, tlG]
    simp
theorem join_glue (l : List (List Nat)) : Txt.join (", " : Str) (l.map mkS) = mkS (glue l) := by
  cases l with
  | nil => rfl
  | cons x r =>
    rw [glue_tl]
    show (⟨(r.map mkS).foldl (fun acc p => acc ++ (", " : Str).cps ++ p.cps) x.toArray⟩ : Str) = _
    have e : (", " : Str).cps = #[44, 32] := by rfl
    rw [e, fold_tl]
    rfl
theorem starts3 (x y : List Nat) (a : Nat) (h : a ≤ x.length) : Txt.startswith3 (mkS x) (mkS y) (a : Int) = decide (y <+: x.drop a) := by
  unfold Txt.startswith3
  have hf : PySem.fromIndex (mkS x).length (a : Int) = a := by
    unfold PySem.fromIndex
    rw [if_neg (by omega)]
    omega
  rw [hf, mkS_len, mkS_len]
  unfold Builtin.Str.subAt
  rw [mkS_len]
  have e : ((mkS x).cps.extract a (a + y.length) == (mkS y).cps) = decide ((x.drop a).take y.length = y) := by
    unfold mkS
    rw [Bool.eq_iff_iff, beq_iff_eq, decide_eq_true_iff]
    simp
  rw [e]
  rw [Bool.eq_iff_iff, Bool.and_eq_true, decide_eq_true_iff, decide_eq_true_iff, decide_eq_true_iff]
  constructor
  · rintro ⟨h1, h2⟩
    exact List.prefix_iff_eq_take.mpr h2.symm
  · intro h
    have := h.length_le
    rw [List.length_drop] at this
    exact ⟨by omega, (List.prefix_iff_eq_take.mp h).symm⟩
section
variable {K : PySem.W.Frag} {W : WX} {δ : DEnv} {te tb : TE}
def relPT (ds : List D) (r : Res) : Prop := ∃ p : List Nat, ds = [sD p] ∧ r = .rt (sD (ptx p))
theorem pt_wp (ds : List D) (r : Res) (h : relPT ds r) : WP K W (ds.map Sl.va ++ List.replicate (1 - ds.length) Sl.no) (t_path_text K) (fun o => Fits o r) := by
  obtain ⟨p, rfl, rfl⟩ := h
  show WP K W [.va (sD p)] _ _
  unfold t_path_text
  apply q_if false (dt_test (d_eqL (z := []) (d_var rfl) rfl))
  · intro z
    have z' := of_decide_eq_true z
    exact q_ret false (d_lit (l := [120]) rfl) (by show sD _ = sD _; rw [z']; rfl)
  · intro z
    have z' := of_decide_eq_false z
    apply q_next
    apply q_last
    exact q_ret false (d_var rfl) (by show sD _ = sD _; unfold ptx; rw [if_neg z'])
def relRP (ds : List D) (r : Res) : Prop := ∃ p : List Nat, ds = [sD p] ∧ r = .rt (sD (rp p))
theorem rp_wp (ds : List D) (r : Res) (h : relRP ds r) : WP K W (ds.map Sl.va ++ List.replicate (1 - ds.length) Sl.no) (t_read_path K) (fun o => Fits o r) := by
  obtain ⟨p, rfl, rfl⟩ := h
  show WP K W [.va (sD p)] _ _
  unfold t_read_path
  apply q_if false (dt_test (d_eqL (z := [120]) (d_var rfl) rfl))
  · intro z
    have z' := of_decide_eq_true z
    exact q_ret false (d_lit (l := []) rfl) (by show sD _ = sD _; unfold rp; rw [if_pos z'])
  · intro z
    have z' := of_decide_eq_false z
    apply q_next
    apply q_last
    exact q_ret false (d_var rfl) (by show sD _ = sD _; unfold rp; rw [if_neg z'])
/-- four texts together -/
theorem d_four {a b : List Nat} {y z : Str} {ly lz : List Nat} {t1 t2 : TE} (h1 : DE K δ t1 (sD a)) (h2 : DE K δ t2 (sD b)) (hy : y.cps.toList = ly) (hz : z.cps.toList = lz) (hn : (a ++ ly ++ b ++ lz).length ≤ 1000000) :
    DE K δ (tJoin [tFmt t1, tC (.str y), tFmt t2, tC (.str z)]) (sD (a ++ ly ++ b ++ lz)) := by
  simp only [List.length_append] at hn
  have e : cat Str.empty [mkS a, y, mkS b, z] = mkS (a ++ ly ++ b ++ lz) := by
    have e1 : y = mkS ly := by rw [← hy, mkS_of]
    have e2 : z = mkS lz := by rw [← hz, mkS_of]
    rw [e1, e2]
    show (⟨(((#[] ++ a.toArray) ++ ly.toArray) ++ b.toArray) ++ lz.toArray⟩ : Str) = ⟨(a ++ ly ++ b ++ lz).toArray⟩
    simp
  refine de_is (d_joined (.cons (d_fmt h1 (small (sD_len (by omega)))) (.cons d_str (.cons (d_fmt h2 (small (sD_len (by omega)))) (.cons d_str .nil)))) ?_) ?_
  · rw [e]
    refine small ?_
    rw [mkS_len]
    simp only [List.length_append]
    omega
  · rw [e]; rfl
/-- ", ".join([f(part) for part in parts]) -/
theorem d_glue {f : Bool} {ps : List T} {wi : TI} {i : Nat} (hi : DI K δ wi (ps.map (T.df f))) (h : ∀ t ∈ ps, DE K (setsD (wipeD δ [i]) [(i, t.df f)]) te (sD t.wr)) (hn : (glue (wrL ps)).length ≤ 1000000) :
    DE K δ (tBM K "str" (rJoin K) (tC (.str ", ")) (tCons (tLc wi (gName i) tYes te [i]) tNil)) (sD (glue (wrL ps))) := by
  have hs := glue_le ps
  have hl := sumW_len ps
  have e1 : (ps.map fun t => sD t.wr) = (((wrL ps).map mkS).map D.str) := by
    rw [wrL_map, List.map_map, List.map_map]
    rfl
  refine de_is (d_join (z := ", ") (ys := (wrL ps).map mkS) d_str (d_acons (DL.de (dl_is (dl_mapLG (f := fun t => sD t.wr) hi h (by omega)) e1)) d_anil) ?_) ?_
  · have e2 : ∀ ts : List T, (((wrL ts).map mkS).map (·.length)).sum + 2 * ts.length = sumW ts := by
      intro ts
      induction ts with
      | nil => rfl
      | cons t ts ih =>
        rw [sumW, ← ih]
        simp only [wrL, List.map_cons, List.sum_cons, List.length_cons, mkS_len]
        omega
    have := e2 ps
    have h2 : ((wrL ps).map mkS).length = ps.length := by rw [List.length_map, wrL_map, List.length_map]
    have h3 : ((", " : Str)).length = 2 := by rfl
    rw [h2, h3]
    omega
  · show D.str _ = D.str _
    rw [join_glue]
def relWr (n : Nat) (ds : List D) (r : Res) : Prop := ∃ (f : Bool) (t : T), ds = [t.df f] ∧ t.dep ≤ n ∧ t.wr.length ≤ 1000000 ∧ r = .rt (sD t.wr)
theorem wr_wp (n : Nat) (ds : List D) (r : Res) (h : relWr (n + 1) ds r) : WP K W (ds.map Sl.va ++ List.replicate (3 - ds.length) Sl.no) (t_write_term K (spD K relPT) (spD K (relWr n))) (fun o => Fits o r) := by
  obtain ⟨f, t, rfl, hd, hn, rfl⟩ := h
  show WP K W [.va (t.df f), .no, .no] _ _
  unfold t_write_term
  have hv : DE K (fz false [.va (t.df f), .no, .no]) (tVar 0) (t.df f) := d_var rfl
  cases t with
  | thing p =>
    apply q_ifT false (dt_w0 hv thing_l rfl)
    exact q_ret false (d_call (d_acons (d_i1 1 hv (by rw [df_thing]; rfl)) d_anil) (show relPT _ _ from ⟨p, rfl, rfl⟩)) (by show sD _ = sD _; rw [T.wr])
  | call m p =>
    apply q_ifF false (dt_w0 hv thing_l rfl)
    apply q_next
    apply q_ifT false (dt_w0 hv call_l rfl)
    refine q_ret false (d_four (d_i1 1 hv (by rw [df_call]; rfl)) (d_call (d_acons (d_i1 2 hv (by rw [df_call]; rfl)) d_anil) (show relPT _ _ from ⟨p, rfl, rfl⟩)) (ly := [40]) (lz := [41]) rfl rfl ?_) (by show sD _ = sD _; rw [T.wr])
    rw [T.wr] at hn
    exact hn
  | deed m ps =>
    apply q_ifF false (dt_w0 hv thing_l rfl)
    apply q_next
    apply q_ifF false (dt_w0 hv call_l rfl)
    apply q_next
    have hw : (T.deed m ps).wr = m ++ [40] ++ glue (wrL ps) ++ [41] := by rw [T.wr]
    rw [hw] at hn
    have hn' := hn
    simp only [List.length_append] at hn'
    simp only [T.dep] at hd
    have hg : DE K (fz false [.va ((T.deed m ps).df f), .no, .no]) (tOp (rIx' K) (tVar 0) (tC (.int 2))) (mk f (dfL f ps)) := d_i1 2 hv (by rw [df_deed]; rfl)
    have hi := i_mk hg
    rw [dfL_map] at hi
    apply q_set false (d_glue (ps := ps) hi (fun t ht => ?_) (by omega)) (fun z => nomatch z)
    · apply q_last
      refine q_ret false (d_four (d_i1 (f := f) (t := T.deed m ps) 1 (d_var rfl) (by rw [df_deed]; rfl)) (d_var rfl) (ly := [40]) (lz := [41]) rfl rfl hn) (by show sD _ = sD _; rw [hw])
    · have := dep_mem ht
      have hs := sumW_mem ht
      have hs2 := glue_le ps
      exact d_call (d_acons (d_var rfl) d_anil) (show relWr n _ _ from ⟨f, t, rfl, by omega, by omega, rfl⟩)
theorem lwr_wp (n : Nat) (ds : List D) (r : Res) (h : relWr (n + 1) ds r) : WP K W (ds.map Sl.va ++ List.replicate (2 - ds.length) Sl.no) (t__law_term_text K (spD K relPT) (spD K (relWr n))) (fun o => Fits o r) := by
  obtain ⟨f, t, rfl, hd, hn, rfl⟩ := h
  show WP K W [.va (t.df f), .no] _ _
  unfold t__law_term_text
  have hv : DE K (fz false [.va (t.df f), .no]) (tVar 0) (t.df f) := d_var rfl
  cases t with
  | thing p =>
    apply q_ifT false (dt_w0 hv thing_l rfl)
    exact q_ret false (d_call (d_acons (d_i1 1 hv (by rw [df_thing]; rfl)) d_anil) (show relPT _ _ from ⟨p, rfl, rfl⟩)) (by show sD _ = sD _; rw [T.wr])
  | call m p =>
    apply q_ifF false (dt_w0 hv thing_l rfl)
    apply q_next
    apply q_ifT false (dt_w0 hv call_l rfl)
    have hw : (T.call m p).wr = m ++ [40] ++ ptx p ++ [41] := by rw [T.wr]
    rw [hw] at hn
    simp only [List.length_append, List.length_cons, List.length_nil] at hn
    refine q_ret false (d_cats (d_cats (d_cats (d_i1 1 hv (by rw [df_call]; rfl)) (d_lit (l := [40]) rfl) ?_) (d_call (d_acons (d_i1 2 hv (by rw [df_call]; rfl)) d_anil) (show relPT _ _ from ⟨p, rfl, rfl⟩)) ?_) (d_lit (l := [41]) rfl) ?_) (by show sD _ = sD _; rw [hw])
    all_goals (simp; omega)
  | deed m ps =>
    apply q_ifF false (dt_w0 hv thing_l rfl)
    apply q_next
    apply q_ifF false (dt_w0 hv call_l rfl)
    apply q_next
    have hw : (T.deed m ps).wr = m ++ [40] ++ glue (wrL ps) ++ [41] := by rw [T.wr]
    rw [hw] at hn
    simp only [List.length_append, List.length_cons, List.length_nil] at hn
    simp only [T.dep] at hd
    have hg : DE K (fz false [.va ((T.deed m ps).df f), .no]) (tOp (rIx' K) (tVar 0) (tC (.int 2))) (mk f (dfL f ps)) := d_i1 2 hv (by rw [df_deed]; rfl)
    have hi := i_mk hg
    rw [dfL_map] at hi
    apply q_last
    refine q_ret false (d_cats (d_cats (d_cats (d_i1 1 hv (by rw [df_deed]; rfl)) (d_lit (l := [40]) rfl) ?_) (d_glue (ps := ps) hi (fun t ht => ?_) (by omega)) ?_) (d_lit (l := [41]) rfl) ?_) (by show sD _ = sD _; rw [hw])
    · simp; omega
    · have := dep_mem ht
      have hs := sumW_mem ht
      have hs2 := glue_le ps
      exact d_call (d_acons (d_var rfl) d_anil) (show relWr n _ _ from ⟨f, t, rfl, by omega, by omega, rfl⟩)
    · simp; omega
    · simp; omega
/-! word_end -/
def relWE (ds : List D) (r : Res) : Prop := ∃ (z : List Nat) (a : Nat), ds = [sD z, .int (a : Int)] ∧ a ≤ z.length ∧ z.length ≤ 1000 ∧ asc z = true ∧ r = .rt (.int (a + ((z.drop a).takeWhile isAl).length : Int))
theorem alpha1 {c : Nat} (h : c < 128) : Txt.isalpha ⟨#[c]⟩ = isAl c := by
  unfold Txt.isalpha
  simp [isAlpha_ascii c h, isAl, isCap, isSm, Str.length]
theorem we_wp (ds : List D) (r : Res) (h : relWE ds r) : WP K W (ds.map Sl.va ++ List.replicate (2 - ds.length) Sl.no) (t_word_end K) (fun o => Fits o r) := by
  obtain ⟨z, a, rfl, ha, hz, hs, rfl⟩ := h
  show WP K W [.va (sD z), .va (.int (a : Int))] _ _
  unfold t_word_end
  refine q_whileS false (fun n S => ∃ b : Nat, S = [.va (sD z), .va (.int (b : Int))] ∧ b ≤ z.length ∧ n = z.length - b ∧ b + ((z.drop b).takeWhile isAl).length = a + ((z.drop a).takeWhile isAl).length) (z.length - a) _ (wk.refl _) ⟨a, rfl, ha, rfl, rfl⟩ ?_
  rintro n S ⟨b, rfl, hb, rfl, hab⟩
  have hlt : DT K (fz false [.va (sD z), .va (.int (b : Int))]) (tTest (tOp rLt' (tVar 1) (tCB (rLen' K) (tCons (tVar 0) tNil)))) (decide (b < z.length)) := dt_is (dt_test (d_op (d_var rfl) (d_len (d_var rfl) (by omega)) o_lti)) (by
    rw [Bool.eq_iff_iff, decide_eq_true_iff, decide_eq_true_iff]; omega)
  by_cases hl : b < z.length
  · have hc : z[b]? = some z[b] := List.getElem?_eq_getElem hl
    generalize z[b] = c at hc
    have hc128 : c < 128 := of_decide_eq_true (List.all_eq_true.mp hs c (List.mem_of_getElem? hc))
    have hdrop : z.drop b = c :: z.drop (b + 1) := by
      rw [List.drop_eq_getElem_cons hl]
      congr 1
      exact Option.some.inj ((List.getElem?_eq_getElem hl).symm.trans hc)
    refine ⟨isAl c, dt_is (dt_and hlt fun _ => dt_tru (d_isalpha (d_op (d_var rfl) (d_var rfl) (o_ixs (c := c) (small (sD_len (by omega))) ?_))) trivial) ?_, ?_, ?_⟩
    · rw [mkS_cps]
      unfold atI
      rw [ixN_of rfl hl]
      exact hc
    · rw [decide_eq_true hl, Bool.true_and]
      exact alpha1 hc128
    · intro hA
      refine ⟨z.length - (b + 1), by omega, ?_⟩
      apply q_last
      apply q_set false (d_op (d_var rfl) d_int o_addi) (fun z => nomatch z)
      apply q_nx
      refine ⟨[.va (sD z), .va (.int ((b + 1 : Nat) : Int))], wk.refl _, b + 1, rfl, hl, rfl, ?_⟩
      rw [← hab, hdrop, List.takeWhile_cons, if_pos hA, List.length_cons]
      omega
    · intro hA
      apply q_last
      refine q_ret false (d_var rfl) ?_
      show D.int _ = D.int _
      rw [hdrop, List.takeWhile_cons, if_neg (by rw [hA]; decide)] at hab
      simp at hab
      congr 1
      omega
  · refine ⟨false, dt_is (dt_and (b := false) (c := false) (dt_is hlt (decide_eq_false hl)) (fun z => nomatch z)) rfl, (fun z => nomatch z), ?_⟩
    intro _
    apply q_last
    refine q_ret false (d_var rfl) ?_
    show D.int _ = D.int _
    rw [List.drop_eq_nil_of_le (by omega)] at hab
    simp at hab
    congr 1
    omega
end
end K01

set_option Elab.async false
set_option linter.all false
set_option maxRecDepth 100000
set_option maxHeartbeats 4000000
/-! S01: deed_at, term_at, read_term, _law_draw_term, _law_listed. -/
namespace K01
open PySem PySem.Spec PyProof.Rows L2 G Pm Tm
section
variable {K : PySem.W.Frag} {W : WX} {δ : DEnv} {te tb : TE}
def resD (z : List Nat) : Option (T × List Nat) → D
  | none => .non
  | some (t, r) => .tup [t.df false, .int ((z.length : Int) - r.length)]
def TxOk (z : List Nat) : Prop := z.length ≤ 1000 ∧ asc z = true
def relTA (n : Nat) (ds : List D) (r : Res) : Prop := ∃ (z : List Nat) (a : Nat), n ≤ 12 ∧ ds = [sD z, .int (a : Int), .int (13 - (n : Int))] ∧ a ≤ z.length ∧ TxOk z ∧ r = .rt (resD z (pT n (z.drop a)))
def relDA : Nat → List D → Res → Prop
  | 0 => fun _ _ => False
  | n + 1 => fun ds r => ∃ (z m : List Nat) (a : Nat), n ≤ 11 ∧ ds = [sD z, sD m, .int (a : Int), .int (13 - ((n + 1 : Nat) : Int))] ∧ a ≤ z.length ∧ TxOk z ∧ r = .rt (resD z (pD (pT n) m (z.drop a)))
theorem pre1 {c : Nat} {w : List Nat} : decide ([c] <+: w) = true → ∃ q, w = c :: q := fun h => by
  obtain ⟨q, e⟩ := of_decide_eq_true h
  exact ⟨q, e.symm⟩
theorem pre2 {c d : Nat} {w : List Nat} : decide ([c, d] <+: w) = true → ∃ q, w = c :: d :: q := fun h => by
  obtain ⟨q, e⟩ := of_decide_eq_true h
  exact ⟨q, e.symm⟩
theorem d_st1 {z l : List Nat} {y : Str} {a : Nat} {ta : TE} (h : DE K δ te (sD z)) (hy : y.cps.toList = l) (h2 : DE K δ ta (.int (a : Int))) (ha : a ≤ z.length) :
    DT K δ (tTru' K (tBM K "str" rStarts3 te (tCons (tC (.str y)) (tCons ta tNil)))) (decide (l <+: z.drop a)) := by
  have e : y = mkS l := by rw [← hy, mkS_of]
  refine dt_is (dt_tru (d_starts3 (x := mkS z) (y := mkS l) (i := (a : Int)) h (d_acons (de_is d_str (by rw [e])) (d_acons h2 d_anil))) trivial) (starts3 z l a ha)
theorem suf_drop {r z : List Nat} {a : Nat} (h : r <:+ z.drop a) : r = z.drop (z.length - r.length) ∧ r.length ≤ z.length := by
  have h2 : r <:+ z := h.trans (List.drop_suffix a z)
  exact ⟨List.suffix_iff_eq_drop.mp h2, h2.length_le⟩
theorem da_wp (n : Nat) (ds : List D) (r : Res) (h : relDA (n + 1) ds r) : WP K W (ds.map Sl.va ++ List.replicate (7 - ds.length) Sl.no) (t_deed_at K (spD K (relTA n))) (fun o => Fits o r) := by
  obtain ⟨z, m, a, hn, rfl, ha, hz, rfl⟩ := h
  show WP K W [.va (sD z), .va (sD m), .va (.int (a : Int)), .va (.int (13 - ((n + 1 : Nat) : Int))), .no, .no, .no] _ _
  unfold t_deed_at
  apply q_setL false (dl_lst d_anil (by simp)) (fun z => nomatch z)
  apply q_if false (d_st1 (l := [41]) (a := a) (d_var rfl) rfl (d_var rfl) ha)
  · intro h1
    obtain ⟨q, hq⟩ := pre1 h1
    refine q_ret false (d_tup (d_acons (d_tup (d_acons (d_lit (l := sDeed) rfl) (d_acons (d_var rfl) (d_acons (d_tup d_anil (by simp)) d_anil))) (by simp)) (d_acons (d_op (d_var rfl) d_int o_addi) d_anil)) (by simp)) ?_
    rw [hq]
    show D.tup [_, D.int _] = D.tup [_, D.int _]
    have hl := congrArg List.length hq
    rw [List.length_drop, List.length_cons] at hl
    have : (a : Int) + 1 = (z.length : Int) - q.length := by omega
    rw [this]
    rfl
  intro h1
  have h1' := of_decide_eq_false h1
  have e0 : pD (pT n) m (z.drop a) = pL (pT n) m 4 [] (z.drop a) := by
    unfold pD
    split
    · rename_i q e
      exact absurd ⟨q, by rw [e]; rfl⟩ h1'
    · rfl
  rw [e0]
  apply q_next
  refine q_forP (it_rng1 (n := 4) (d_acons d_int d_anil) rfl (by decide)) (fun i S => ∃ (acc : List T) (b : Nat) (s5 s6 : Sl), acc.length ≤ i ∧ b ≤ z.length ∧ S = [.va (sD z), .va (sD m), .va (.int (b : Int)), .va (.int (13 - ((n + 1 : Nat) : Int))), .ow (.lst (acc.map (T.df false))), s5, s6] ∧ pL (pT n) m (4 - i) acc (z.drop b) = pL (pT n) m 4 [] (z.drop a)) _ (wk.refl _) ⟨[], a, .no, .no, Nat.le_refl _, ha, rfl, rfl⟩ ?_ ?_
  · rintro i d S hd ⟨acc, b, s5, s6, hacc, hb, rfl, hp⟩
    obtain ⟨hi, rfl⟩ := rngD_val hd
    obtain ⟨j, hj⟩ : ∃ j, 4 - i = j + 1 := ⟨4 - i - 1, by omega⟩
    have hj2 : 4 - (i + 1) = j := by omega
    rw [hj, pL] at hp
    refine ⟨_, g_name', ?_⟩
    apply q_set false (d_call (d := resD z (pT n (z.drop b))) (d_acons (d_var rfl) (d_acons (d_var rfl) (d_acons (d_op (d_var rfl) d_int o_addi) d_anil))) (show relTA n _ _ from ⟨z, b, by omega, by
      congr 4
      omega, hb, hz, rfl⟩)) (fun z => nomatch z)
    cases e : pT n (z.drop b) with
    | none =>
      rw [e] at hp
      apply q_ifT false (dt_test (d_op (d_var rfl) d_non (o_isN (x := resD z none) rfl)))
      refine q_ret false d_non ?_
      rw [← hp]
      rfl
    | some x =>
      obtain ⟨t, r⟩ := x
      rw [e] at hp
      dsimp only at hp
      obtain ⟨g1, g2, g3⟩ := pT_good n _ _ _ e
      obtain ⟨k1, k2⟩ := suf_drop g1
      have hb2 : (z.length : Int) - r.length = ((z.length - r.length : Nat) : Int) := by omega
      apply q_ifF false (dt_test (d_op (d_var rfl) d_non (o_isN (x := resD z (some (t, r))) rfl)))
      apply q_next
      apply q_app false rfl (d_op (d_var (d := .tup [t.df false, .int ((z.length : Int) - r.length)]) rfl) d_int (o_ixt (ixN_of (j := 0) rfl (by simp)) rfl)) (fun z => nomatch z)
      · rw [List.length_map]; omega
      apply q_set false (d_op (d_var (d := .tup [t.df false, .int ((z.length : Int) - r.length)]) rfl) d_int (o_ixt (ixN_of (j := 1) rfl (by simp)) rfl)) (fun z => nomatch z)
      rw [hb2]
      have hk : z.length - r.length ≤ z.length := by omega
      apply q_if false (d_st1 (l := [41]) (a := z.length - r.length) (d_var rfl) rfl (d_var rfl) hk)
      · intro h2
        rw [← k1] at h2
        obtain ⟨q, rfl⟩ := pre1 h2
        refine q_frz 4 rfl ?_
        refine q_ret false (d_tup (d_acons (d_tup (d_acons (d_lit (l := sDeed) rfl) (d_acons (d_var rfl) (d_acons (d_cb (d_acons (d_var rfl) d_anil) c_tupL) d_anil))) (by simp)) (d_acons (d_op (d_var rfl) d_int o_addi) d_anil)) (by simp)) ?_
        rw [← hp]
        show D.tup [D.tup [sD sDeed, sD m, D.tup (acc.map (T.df false) ++ [t.df false])], D.int _] = D.tup [(T.deed m (acc ++ [t])).df false, D.int _]
        rw [T.df, dfL_map]
        simp only [List.length_cons] at k2 ⊢
        have : (((z.length - (q.length + 1) : Nat) : Int) + 1) = (z.length : Int) - q.length := by omega
        rw [this]
        simp [mk]
      intro h2
      rw [← k1] at h2
      have h2' := of_decide_eq_false h2
      apply q_next
      apply q_if false (dt_not (d_st1 (l := [44, 32]) (a := z.length - r.length) (d_var rfl) rfl (d_var rfl) hk))
      · intro h3
        rw [← k1] at h3
        have h3' := of_decide_eq_false (bnt h3)
        refine q_ret false d_non ?_
        rw [← hp]
        split
        · rename_i q
          exact absurd ⟨q, rfl⟩ h2'
        · rename_i q
          exact absurd ⟨q, rfl⟩ h3'
        · rfl
      intro h3
      rw [← k1] at h3
      obtain ⟨q, rfl⟩ := pre2 (bnf h3)
      apply q_next
      apply q_last
      apply q_set false (d_op (d_var rfl) d_int o_addi) (fun z => nomatch z)
      apply q_nx
      simp only [List.length_cons] at k2 k1
      refine ⟨_, wk.refl _, acc ++ [t], z.length - q.length, .va (.int (i : Int)), .va (resD z (some (t, 44 :: 32 :: q))), by simp; omega, by omega, ?_, ?_⟩
      · show [Sl.va (sD z), .va (sD m), .va (.int _), _, .ow (.lst (acc.map (T.df false) ++ [t.df false])), _, _] = _
        have : (((z.length - (44 :: 32 :: q).length : Nat) : Int) + 2) = ((z.length - q.length : Nat) : Int) := by
          simp only [List.length_cons]
          omega
        rw [this, List.map_append]
        rfl
      · rw [hj2, ← hp]
        have : z.drop (z.length - q.length) = q := by
          have h5 : q <:+ z := ((List.suffix_cons _ _).trans (List.suffix_cons _ _)).trans (g1.trans (List.drop_suffix b z))
          exact (List.suffix_iff_eq_drop.mp h5).symm
        rw [this]
        rfl
  · rintro S ⟨acc, b, s5, s6, hacc, hb, rfl, hp⟩
    apply q_last
    refine q_ret false d_non ?_
    rw [← hp]
    rfl
theorem ta_wp (n : Nat) (ds : List D) (r : Res) (h : relTA n ds r) : WP K W (ds.map Sl.va ++ List.replicate (6 - ds.length) Sl.no) (t_term_at K (spD K (relDA n)) (spD K relFn) (spD K relRP) (spD K relWE)) (fun o => Fits o r) := by
  obtain ⟨z, a, hn, rfl, ha, hz, rfl⟩ := h
  show WP K W [.va (sD z), .va (.int (a : Int)), .va (.int (13 - (n : Int))), .no, .no, .no] _ _
  unfold t_term_at
  have hz1 := hz.1
  have hwl : ∀ b, ((z.drop b).takeWhile isAl).length + ((z.drop b).dropWhile isAl).length = z.length - b := fun b => by
    rw [← List.length_append, List.takeWhile_append_dropWhile, List.length_drop]
  have hwe : ∀ {δ' : DEnv} {ta tb : TE} {b : Nat}, b ≤ z.length → DE K δ' ta (sD z) → DE K δ' tb (.int (b : Int)) → DE K δ' (tCallR (spD K relWE) E0 (tCons ta (tCons tb tNil))) (.int ((b + ((z.drop b).takeWhile isAl).length : Nat) : Int)) := fun {δ' ta tb b} hb h1 h2 => d_call (d_acons h1 (d_acons h2 d_anil)) (show relWE _ _ from ⟨z, b, rfl, hb, hz1, hz.2, rfl⟩)
  apply q_set false (hwe ha (d_var rfl) (d_var rfl)) (fun z => nomatch z)
  have h0 : DT K (fz false [.va (sD z), .va (.int (a : Int)), .va (.int (13 - (n : Int))), .va (.int ((a + ((z.drop a).takeWhile isAl).length : Nat) : Int)), .no, .no]) (tOr (tTest (tOp (rEq' K) (tVar 3) (tVar 1))) (tTest (tOp rGt' (tVar 2) (tC (.int 12))))) (decide ((z.drop a).takeWhile isAl = [] ∨ n = 0)) := by
    refine dt_is (dt_or (dt_test (d_op (d_var rfl) (d_var rfl) o_eqi)) fun _ => dt_test (d_op (d_var rfl) d_int o_gti)) ?_
    rw [Bool.eq_iff_iff, Bool.or_eq_true, decide_eq_true_iff, decide_eq_true_iff, decide_eq_true_iff, ← List.length_eq_zero_iff]
    omega
  apply q_if false h0
  · intro h1
    refine q_ret false d_non ?_
    have : pT n (z.drop a) = none := by
      cases n with
      | zero => rfl
      | succ n =>
        rcases of_decide_eq_true h1 with e | e
        · rw [pT, if_pos e]
        · cases e
    rw [this]
    rfl
  intro h1
  have h1' := of_decide_eq_false h1
  obtain ⟨n, rfl⟩ : ∃ k, n = k + 1 := ⟨n - 1, by
    have : n ≠ 0 := fun e => h1' (.inr e)
    omega⟩
  have hm : (z.drop a).takeWhile isAl ≠ [] := fun e => h1' (.inl e)
  apply q_next
  have hwa := hwl a
  have he : a + ((z.drop a).takeWhile isAl).length ≤ z.length := by omega
  have hdw : z.drop (a + ((z.drop a).takeWhile isAl).length) = (z.drop a).dropWhile isAl := by
    rw [← List.drop_drop]
    have := List.takeWhile_append_dropWhile (p := isAl) (l := z.drop a)
    have h2 : (((z.drop a).takeWhile isAl) ++ ((z.drop a).dropWhile isAl)).drop ((z.drop a).takeWhile isAl).length = (z.drop a).dropWhile isAl := List.drop_left
    rw [this] at h2
    exact h2
  have htw : (z.drop a).take ((z.drop a).takeWhile isAl).length = (z.drop a).takeWhile isAl := by
    have := List.takeWhile_append_dropWhile (p := isAl) (l := z.drop a)
    have h2 : (((z.drop a).takeWhile isAl) ++ ((z.drop a).dropWhile isAl)).take ((z.drop a).takeWhile isAl).length = (z.drop a).takeWhile isAl := List.take_left
    rw [this] at h2
    exact h2
  have hcut : ∀ {δ' : DEnv} {t1 t2 t3 : TE}, DE K δ' t1 (sD z) → DE K δ' t2 (.int (a : Int)) → DE K δ' t3 (.int ((a + ((z.drop a).takeWhile isAl).length : Nat) : Int)) → DE K δ' (tSl (rSl' K) t1 (tPart t2) (tPart t3)) (sD ((z.drop a).takeWhile isAl)) := fun {δ' t1 t2 t3} k1 k2 k3 => de_is (d_cut k1 (d_part k2) (d_part k3) (by omega)) (by
    rw [cutD_nat, Nat.add_sub_cancel_left, htw])
  apply q_set false (hcut (d_var rfl) (d_var rfl) (d_var rfl)) (fun z => nomatch z)
  apply q_if false (dt_not (d_st1 (l := [40]) (a := a + ((z.drop a).takeWhile isAl).length) (d_var rfl) rfl (d_var rfl) he))
  · intro h2
    rw [hdw] at h2
    have h2' := of_decide_eq_false (bnt h2)
    refine q_ret false (d_tup (d_acons (d_tup (d_acons (d_lit (l := sThing) rfl) (d_acons (d_call (d_acons (d_var rfl) d_anil) (show relRP _ _ from ⟨_, rfl, rfl⟩)) d_anil)) (by simp)) (d_acons (d_var rfl) d_anil)) (by simp)) ?_
    have : pT (n + 1) (z.drop a) = some (.thing (rp ((z.drop a).takeWhile isAl)), (z.drop a).dropWhile isAl) := by
      rw [pT, if_neg hm]
      split
      · rename_i r0 e
        exact absurd ⟨r0, by rw [e]; rfl⟩ h2'
      · rfl
    rw [this]
    show D.tup [D.tup [sD sThing, sD (rp _)], D.int _] = D.tup [(T.thing (rp _)).df false, D.int _]
    have : ((a + ((z.drop a).takeWhile isAl).length : Nat) : Int) = (z.length : Int) - ((z.drop a).dropWhile isAl).length := by omega
    rw [this]
    rfl
  intro h2
  rw [hdw] at h2
  obtain ⟨r0, hr0⟩ := pre1 (bnf h2)
  rw [hr0] at hwa
  simp only [List.length_cons] at hwa
  rw [pT_par rfl hr0 hm]
  generalize hM : (z.drop a).takeWhile isAl = M at *
  have hd0 : z.drop (a + M.length + 1) = r0 := by
    rw [← List.drop_drop, hdw, hr0]
    rfl
  have hM2 : M.length ≤ 1000 := by omega
  apply q_next
  have hfn : DT K (fz false [.va (sD z), .va (.int (a : Int)), .va (.int (13 - ((n + 1 : Nat) : Int))), .va (.int ((a + M.length : Nat) : Int)), .va (sD M), .no]) (tNot (tTru' K (tCallR (spD K relFn) E0 (tCons (tVar 4) tNil)))) (!fnL M) := by
    refine dt_not (dt_is (dt_tru (d_call (d_acons (d_var rfl) d_anil) (show relFn _ _ from ⟨sD M, rfl, decide_eq_true (by rw [mkS_len]; omega), rfl⟩)) trivial) ?_)
    show fnB (sD M) = fnL M
    unfold fnB
    rw [strL_sD]
  apply q_if false hfn
  · intro h3
    have h3' := bnt h3
    rw [if_neg (by rw [h3']; decide)]
    refine q_ret false (d_call (d_acons (d_var rfl) (d_acons (d_var rfl) (d_acons (d_op (d_var rfl) d_int o_addi) (d_acons (d_var rfl) d_anil)))) (show relDA (n + 1) _ _ from ⟨z, M, a + M.length + 1, by omega, by
      congr 3, by omega, hz, rfl⟩)) ?_
    rw [hd0]
    rfl
  intro h3
  rw [if_pos (bnf h3)]
  apply q_next
  have hA1 : a + M.length + 1 ≤ z.length := by omega
  have hwl2 := hwl (a + M.length + 1)
  rw [hd0] at hwl2
  have hwe2 := fun {δ' : DEnv} {ta tb : TE} (h1 : DE K δ' ta (sD z)) (h2 : DE K δ' tb (.int ((a + M.length + 1 : Nat) : Int))) => hwe hA1 h1 h2
  rw [hd0] at hwe2
  apply q_set false (hwe2 (d_var rfl) (de_is (d_op (d_var rfl) d_int o_addi) (by congr 1))) (fun z => nomatch z)
  have hdw2 : z.drop (a + M.length + 1 + (r0.takeWhile isAl).length) = r0.dropWhile isAl := by
    rw [← List.drop_drop, hd0]
    have := List.takeWhile_append_dropWhile (p := isAl) (l := r0)
    have h2 : ((r0.takeWhile isAl) ++ (r0.dropWhile isAl)).drop (r0.takeWhile isAl).length = r0.dropWhile isAl := List.drop_left
    rw [this] at h2
    exact h2
  have htw2 : r0.take (r0.takeWhile isAl).length = r0.takeWhile isAl := by
    have := List.takeWhile_append_dropWhile (p := isAl) (l := r0)
    have h2 : ((r0.takeWhile isAl) ++ (r0.dropWhile isAl)).take (r0.takeWhile isAl).length = r0.takeWhile isAl := List.take_left
    rw [this] at h2
    exact h2
  apply q_if false (dt_not (d_st1 (l := [41]) (a := a + M.length + 1 + (r0.takeWhile isAl).length) (d_var rfl) rfl (d_var rfl) (by omega)))
  · intro h4
    rw [hdw2] at h4
    have h4' := of_decide_eq_false (bnt h4)
    refine q_ret false d_non ?_
    split
    · rename_i q e
      exact absurd ⟨q, by rw [e]; rfl⟩ h4'
    · rfl
  intro h4
  rw [hdw2] at h4
  obtain ⟨q, hq⟩ := pre1 (bnf h4)
  rw [hq] at hwl2
  simp only [List.length_cons] at hwl2
  apply q_next
  apply q_last
  have hcut2 : ∀ {δ' : DEnv} {t1 t2 t3 : TE}, DE K δ' t1 (sD z) → DE K δ' t2 (.int ((a + M.length + 1 : Nat) : Int)) → DE K δ' t3 (.int ((a + M.length + 1 + (r0.takeWhile isAl).length : Nat) : Int)) → DE K δ' (tSl (rSl' K) t1 (tPart t2) (tPart t3)) (sD (r0.takeWhile isAl)) := fun {δ' t1 t2 t3} k1 k2 k3 => de_is (d_cut k1 (d_part k2) (d_part k3) (by omega)) (by
    rw [cutD_nat, Nat.add_sub_cancel_left, hd0, htw2])
  refine q_ret false (d_tup (d_acons (d_tup (d_acons (d_lit (l := sCall) rfl) (d_acons (d_var rfl) (d_acons (d_call (d_acons (hcut2 (d_var rfl) (de_is (d_op (d_var rfl) d_int o_addi) (by congr 1)) (d_var rfl)) d_anil) (show relRP _ _ from ⟨_, rfl, rfl⟩)) d_anil))) (by simp)) (d_acons (d_op (d_var rfl) d_int o_addi) d_anil)) (by simp)) ?_
  rw [hq]
  show D.tup [D.tup [sD sCall, sD M, sD (rp _)], D.int _] = D.tup [(T.call M (rp _)).df false, D.int _]
  have : ((a + M.length + 1 + (r0.takeWhile isAl).length : Nat) : Int) + 1 = (z.length : Int) - q.length := by omega
  rw [this]
  rfl
/-! read_term -/
def readD (s z : List Nat) : Option T := if 400 < z.length then none else match pT 12 z with
  | some (t, []) => if tmB s (t.df false) = true ∧ t.wr = z then some t else none
  | _ => none
def ansD : Option T → D
  | none => .non
  | some t => t.df false
def relRd (ds : List D) (r : Res) : Prop := ∃ z s : List Nat, ds = [sD z, .str (mkS s)] ∧ TxOk z ∧ r = .rt (ansD (readD s z))
theorem rd_wp (ds : List D) (r : Res) (h : relRd ds r) : WP K W (ds.map Sl.va ++ List.replicate (3 - ds.length) Sl.no) (t_read_term K (spD K relTm) (spD K (relTA 12)) (spD K (relWr 13))) (fun o => Fits o r) := by
  obtain ⟨z, s, rfl, hz, rfl⟩ := h
  show WP K W [.va (sD z), .va (.str (mkS s)), .no] _ _
  unfold t_read_term
  have hz1 := hz.1
  apply q_if false (dt_test (d_op (d_len (d_var rfl) (by omega)) d_int o_gti))
  · intro h1
    have h1' : 400 < z.length := by
      have := of_decide_eq_true h1
      omega
    refine q_ret false d_non ?_
    show D.non = ansD (readD s z)
    unfold readD
    rw [if_pos h1']
    rfl
  intro h1
  have h1' : ¬ 400 < z.length := by
    have := of_decide_eq_false h1
    omega
  have e0 : readD s z = match pT 12 z with
    | some (t, []) => if tmB s (t.df false) = true ∧ t.wr = z then some t else none
    | _ => none := by unfold readD; rw [if_neg h1']
  rw [e0]
  apply q_next
  apply q_set false (d_call (d := resD z (pT 12 z)) (d_acons (d_var rfl) (d_acons d_int (d_acons d_int d_anil))) (show relTA 12 _ _ from ⟨z, 0, Nat.le_refl _, rfl, Nat.zero_le _, hz, rfl⟩)) (fun z => nomatch z)
  cases e : pT 12 z with
  | none =>
    apply q_ifT false (dt_is (dt_or (b := true) (c := true) (dt_test (d_op (d_var rfl) d_non (o_isN (x := resD z none) rfl))) fun z => nomatch z) rfl)
    exact q_ret false d_non rfl
  | some x =>
    obtain ⟨t, r⟩ := x
    obtain ⟨g1, g2, g3⟩ := pT_good 12 _ _ _ e
    have hsan := san_df false t (by omega)
    have hdep := depth_df false t
    have h2 : DT K (fz false [.va (sD z), .va (.str (mkS s)), .va (resD z (some (t, r)))]) (tTest (tOp rIs' (tVar 2) (tC .non))) false := dt_test (d_op (d_var rfl) d_non (o_isN (x := resD z (some (t, r))) rfl))
    have h3 : DT K (fz false [.va (sD z), .va (.str (mkS s)), .va (resD z (some (t, r)))]) (tTest (tOp (rNe' K) (tOp (rIx' K) (tVar 2) (tC (.int 1))) (tCB (rLen' K) (tCons (tVar 0) tNil)))) (!decide (r = [])) := by
      refine dt_is (dt_test (d_op (d_op (d_var (d := .tup [t.df false, .int ((z.length : Int) - r.length)]) rfl) d_int (o_ixt (ixN_of (j := 1) rfl (by simp)) rfl)) (d_len (d_var rfl) (by omega)) o_nei)) ?_
      congr 1
      rw [Bool.eq_iff_iff, decide_eq_true_iff, decide_eq_true_iff, ← List.length_eq_zero_iff]
      omega
    have hf0 : DE K (fz false [.va (sD z), .va (.str (mkS s)), .va (resD z (some (t, r)))]) (tOp (rIx' K) (tVar 2) (tC (.int 0))) (t.df false) := d_op (d_var (d := .tup [t.df false, .int ((z.length : Int) - r.length)]) rfl) d_int (o_ixt (ixN_of (j := 0) rfl (by simp)) rfl)
    have h4 : DT K (fz false [.va (sD z), .va (.str (mkS s)), .va (resD z (some (t, r)))]) (tNot (tTru' K (tCallR (spD K relTm) E0 (tCons (tOp (rIx' K) (tVar 2) (tC (.int 0))) (tCons (tVar 1) tNil))))) (!tmB s (t.df false)) :=
      dt_not (dt_tru (d_call (d_acons hf0 (d_acons (d_var rfl) d_anil)) (show relTm _ _ from ⟨t.df false, s, rfl, hsan, by omega, rfl⟩)) trivial)
    apply q_if false (dt_or h2 fun _ => dt_or h3 fun _ => h4)
    · intro h5
      refine q_ret false d_non ?_
      show D.non = ansD _
      cases r with
      | nil =>
        have : tmB s (t.df false) = false := by simpa using h5
        dsimp only
        rw [this, if_neg (fun z => by cases z.1)]
        rfl
      | cons c r => rfl
    · intro h5
      simp only [Bool.false_or, Bool.or_eq_false_iff, Bool.not_eq_false', decide_eq_true_iff] at h5
      obtain ⟨rfl, h6⟩ := h5
      apply q_next
      have hw : DE K (fz false [.va (sD z), .va (.str (mkS s)), .va (resD z (some (t, [])))]) (tCallR (spD K (relWr 13)) E0 (tCons (tOp (rIx' K) (tVar 2) (tC (.int 0))) tNil)) (sD t.wr) := d_call (d_acons hf0 d_anil) (show relWr 13 _ _ from ⟨false, t, rfl, by omega, by omega, rfl⟩)
      have h7 : DT K (fz false [.va (sD z), .va (.str (mkS s)), .va (resD z (some (t, [])))]) (tTest (tOp (rNe' K) (tCallR (spD K (relWr 13)) E0 (tCons (tOp (rIx' K) (tVar 2) (tC (.int 0))) tNil)) (tVar 0))) (!decide (t.wr = z)) := by
        refine dt_is (dt_test (d_op hw (d_var (d := .str (mkS z)) rfl) o_nes)) ?_
        congr 1
        rw [Bool.eq_iff_iff, decide_eq_true_iff, decide_eq_true_iff]
        exact ⟨mkS_inj, fun e => by rw [e]⟩
      apply q_if false h7
      · intro h8
        have h8' := of_decide_eq_false (bnt h8)
        refine q_ret false d_non ?_
        show D.non = ansD _
        dsimp only
        rw [if_neg (fun z => h8' z.2)]
        rfl
      · intro h8
        have h8' := of_decide_eq_true (bnf h8)
        apply q_next
        apply q_last
        refine q_ret false hf0 ?_
        show _ = ansD _
        dsimp only
        rw [if_pos ⟨h6, h8'⟩]
        rfl
/-! _law_listed -/
theorem df_true (t : T) : t.df true = .lst (items (t.df true)) := by cases t <;> (rw [T.df]; rfl)
def relLi (n : Nat) (ds : List D) (r : Res) : Prop := ∃ t : T, ds = [t.df false] ∧ t.dep ≤ n ∧ t.wr.length ≤ 1000000 ∧ r = .rl (items (t.df true))
theorem li_wp (n : Nat) (ds : List D) (r : Res) (h : relLi (n + 1) ds r) : WP K W (ds.map Sl.va ++ List.replicate (2 - ds.length) Sl.no) (t__law_listed K (spD K (relLi n))) (fun o => Fits o r) := by
  obtain ⟨t, rfl, hd, hn, rfl⟩ := h
  show WP K W [.va (t.df false), .no] _ _
  unfold t__law_listed
  have hv : DE K (fz false [.va (t.df false), .no]) (tVar 0) (t.df false) := d_var rfl
  cases t with
  | deed m ps =>
    apply q_ifT false (dt_w0 hv deed_l rfl)
    have hw : (T.deed m ps).wr = m ++ [40] ++ glue (wrL ps) ++ [41] := by rw [T.wr]
    rw [hw] at hn
    simp only [List.length_append, List.length_cons, List.length_nil] at hn
    simp only [T.dep] at hd
    have hg : DE K (fz false [.va ((T.deed m ps).df false), .no]) (tOp (rIx' K) (tVar 0) (tC (.int 2))) (mk false (dfL false ps)) := d_i1 2 hv (by rw [df_deed]; rfl)
    have hi := i_mk hg
    rw [dfL_map] at hi
    have hs2 := glue_le ps
    have hl := sumW_len ps
    refine q_retL false (dl_lst (d_acons (d_lit (l := sDeed) rfl) (d_acons (d_i1 1 hv (by rw [df_deed]; rfl)) (d_acons (dl_mapLG (f := T.df true) hi (fun t ht => ?_) (by omega)).de d_anil))) (by simp)) ?_
    · have := dep_mem ht
      have hs := sumW_mem ht
      rw [df_true]
      exact (dl_call (d_acons (d_var rfl) d_anil) (show relLi n _ _ from ⟨t, rfl, by omega, by omega, rfl⟩)).de
    · show [sD sDeed, sD m, D.lst (ps.map (T.df true))] = _
      rw [df_deed, dfL_map]
      rfl
  | thing p =>
    apply q_ifF false (dt_w0 hv deed_l rfl)
    apply q_next
    apply q_last
    refine q_retL false (dl_listA (d_acons (x := .tup [sD sThing, sD p]) (d_var rfl) d_anil) (.inr rfl) (by simp)) ?_
    show [_, _] = _
    rw [df_thing]
  | call m p =>
    apply q_ifF false (dt_w0 hv deed_l rfl)
    apply q_next
    apply q_last
    refine q_retL false (dl_listA (d_acons (x := .tup [sD sCall, sD m, sD p]) (d_var rfl) d_anil) (.inr rfl) (by simp)) ?_
    show [_, _, _] = _
    rw [df_call]
end
end K01

set_option Elab.async false
set_option linter.all false
set_option maxRecDepth 100000
set_option maxHeartbeats 4000000
/-! T01: _law_draw_term. -/
namespace K01
open PySem PySem.Spec PyProof.Rows L2 G Pm Tm
def rowI (row : List Int) (a : Int) : Int := row.getD (a % (row.length : Int)).toNat 0
def pathStep (s : List Nat) (pick : Int) (k : Nat) : Nat := s.getD (pick / (5 + (k : Int)) % (s.length : Int)).toNat 0
def drawP (s : List Nat) (pick : Int) : List Nat := (List.range (pick % 5).toNat).map (pathStep s pick)
def namesC : List (List Nat) := [[70], [71], [72, 105], [76, 111, 110, 103, 110, 97, 109, 101]]
def namesE : List (List Nat) := [[101], [104], [120], [108, 111, 110, 103, 110, 97, 109, 101]]
def nameOf (l : List (List Nat)) (draw : Int) : List Nat := l.getD (draw / 4 % 4).toNat []
def drawL (f : Int → Int → T × Int × Int) (room : Int) : Nat → List T × Int × Int → List T × Int × Int
  | 0, z => z
  | k + 1, z => drawL f room k (if z.2.2 < room then (z.1 ++ [(f z.2.1 (min (room - z.2.2) 7)).1], (f z.2.1 (min (room - z.2.2) 7)).2.1, z.2.2 + (f z.2.1 (min (room - z.2.2) 7)).2.2) else z)
def drawT (row : List Int) (s : List Nat) : Nat → Int → Int → T × Int × Int
  | 0, a, _ => (.thing [], a, 1)
  | n + 1, a, room =>
    if rowI row a % 4 = 0 ∨ (room < 2 ∧ rowI row a % 2 = 0) then (.thing (drawP s (rowI row (a + 1))), a + 2, 1)
    else if rowI row a % 4 = 1 ∨ room < 2 then (.call (nameOf namesC (rowI row a)) (drawP s (rowI row (a + 1))), a + 2, 1)
    else
      let z := drawL (drawT row s n) room (rowI row (a + 1) / 7 % 5).toNat ([], a + 2, 1)
      (.deed (nameOf namesE (rowI row a)) z.1, z.2.1, z.2.2)
/-- what is drawn -/
def DrawOk (s : List Nat) (room : Int) (x : T × Int × Int) : Prop := x.1.ok s = true ∧ ((x.1.nodes.length : Nat) : Int) = x.2.2 ∧ 1 ≤ x.2.2 ∧ x.2.2 ≤ room
theorem drawP_ok {s : List Nat} (hs : s ≠ []) (pick : Int) : ((drawP s pick).all (fun c => decide (c ∈ s)) && decide ((drawP s pick).length ≤ 4)) = true := by
  have hl : 0 < s.length := List.length_pos_iff.mpr hs
  rw [Bool.and_eq_true, decide_eq_true_iff, List.all_eq_true]
  unfold drawP
  refine ⟨fun c hc => ?_, ?_⟩
  · obtain ⟨k, hk, rfl⟩ := List.mem_map.mp hc
    unfold pathStep
    have h1 : (pick / (5 + (k : Int)) % (s.length : Int)).toNat < s.length := by
      have h2 := Int.emod_nonneg (pick / (5 + (k : Int))) (b := (s.length : Int)) (by omega)
      have h3 := Int.emod_lt_of_pos (pick / (5 + (k : Int))) (b := (s.length : Int)) (by omega)
      omega
    rw [List.getD_eq_getElem?_getD, List.getElem?_eq_getElem h1]
    exact decide_eq_true (List.getElem_mem h1)
  · rw [List.length_map, List.length_range]
    omega
theorem nameC_ok (draw : Int) : fnL (nameOf namesC draw) = true := by
  unfold nameOf
  have h : (draw / 4 % 4).toNat < 4 := by omega
  generalize (draw / 4 % 4).toNat = i at h
  match i, h with
  | 0, _ => rfl
  | 1, _ => rfl
  | 2, _ => rfl
  | 3, _ => rfl
theorem nameE_ok (draw : Int) : dnL (nameOf namesE draw) = true := by
  unfold nameOf
  have h : (draw / 4 % 4).toNat < 4 := by omega
  generalize (draw / 4 % 4).toNat = i at h
  match i, h with
  | 0, _ => rfl
  | 1, _ => rfl
  | 2, _ => rfl
  | 3, _ => rfl
theorem nodesL_app : ∀ a b : List T, nodesL (a ++ b) = nodesL a ++ nodesL b
  | [], b => rfl
  | x :: a, b => by rw [List.cons_append, nodesL, nodesL, nodesL_app a b, List.append_assoc]
theorem okL_app (s : List Nat) (a b : List T) : okL s (a ++ b) = (okL s a && okL s b) := by
  rw [okL_all, okL_all, okL_all, List.all_append]
def LOk (s : List Nat) (room : Int) (k : Nat) (z : List T × Int × Int) : Prop := okL s z.1 = true ∧ ((nodesL z.1).length : Int) + 1 = z.2.2 ∧ z.2.2 ≤ room ∧ z.1.length + k ≤ 4
theorem drawL_ok {s : List Nat} {room : Int} {f : Int → Int → T × Int × Int} (hf : ∀ a r, 1 ≤ r → r < room → DrawOk s r (f a r)) : ∀ (k : Nat) (z : List T × Int × Int), LOk s room k z → LOk s room 0 (drawL f room k z)
  | 0, z, h => h
  | k + 1, z, h => by
    rw [drawL]
    refine drawL_ok hf k _ ?_
    obtain ⟨h1, h2, h3, h4⟩ := h
    split
    · rename_i hlt
      have := hf z.2.1 (min (room - z.2.2) 7) (by omega) (by omega)
      obtain ⟨g1, g2, g3, g4⟩ := this
      refine ⟨?_, ?_, ?_, ?_⟩
      · show okL s (z.1 ++ [_]) = true
        rw [okL_app, h1, okL, g1]; rfl
      · show ((nodesL (z.1 ++ [_])).length : Int) + 1 = z.2.2 + _
        rw [nodesL_app, List.length_append]
        simp only [nodesL, List.append_nil]
        omega
      · show z.2.2 + _ ≤ room
        omega
      · show (z.1 ++ [_]).length + k ≤ 4
        simp
        omega
    · exact ⟨h1, h2, h3, by omega⟩
theorem draw_ok {s : List Nat} (hs : s ≠ []) (row : List Int) : ∀ (n : Nat) (a room : Int), 1 ≤ room → room ≤ n → DrawOk s room (drawT row s n a room)
  | 0, a, room, h1, h2 => by omega
  | n + 1, a, room, h1, h2 => by
    rw [drawT]
    split
    · exact ⟨by rw [T.ok]; exact drawP_ok hs _, by simp [T.nodes], by simp, by simpa using h1⟩
    · split
      · exact ⟨by rw [T.ok, nameC_ok, drawP_ok hs]; rfl, by simp [T.nodes], by simp, by simpa using h1⟩
      · have hz := drawL_ok (s := s) (room := room) (f := drawT row s n) (fun a r k1 k2 => draw_ok hs row n a r k1 (by omega)) (rowI row (a + 1) / 7 % 5).toNat ([], a + 2, 1) ⟨rfl, by simp [nodesL], by simpa using h1, by simp; omega⟩
        obtain ⟨g1, g2, g3, g4⟩ := hz
        refine ⟨?_, ?_, ?_, g3⟩
        · show T.ok s (.deed _ _) = true
          rw [T.ok, nameE_ok, g1, decide_eq_true (by omega)]
          rfl
        · show (((T.deed _ _).nodes.length : Nat) : Int) = _
          rw [← g2]
          simp [T.nodes]
        · show 1 ≤ _
          rw [← g2]
          omega
section
variable {K : PySem.W.Frag} {W : WX} {δ : DEnv} {te tb : TE}
def dres (x : T × Int × Int) : List D := [x.1.df false, .int x.2.1, .int x.2.2]
def relDr (n : Nat) (ds : List D) (r : Res) : Prop := ∃ (row : List Int) (a room : Int) (s : List Nat), ds = [.lst (row.map D.int), .int a, .int room, .str (mkS s)] ∧ row ≠ [] ∧ row.length ≤ 1000 ∧ s ≠ [] ∧ s.length ≤ 1000 ∧ 1 ≤ room ∧ room ≤ n ∧ r = .rl (dres (drawT row s n a room))
theorem d_rowI {row : List Int} {a : Int} {ti : TE} (hr : row ≠ []) (h1 : DE K δ te (.lst (row.map D.int))) (h2 : DE K δ ti (.int a)) :
    DE K δ (tCB rInt' (tCons (tOp (rIx' K) te (tOp rMod' (tCB rInt' (tCons ti tNil)) (tCB (rLen' K) (tCons te tNil)))) tNil)) (.int (rowI row a)) := by
  have hl : 0 < row.length := List.length_pos_iff.mpr hr
  have hm1 := Int.emod_nonneg a (b := (row.length : Int)) (by omega)
  have hm2 := Int.emod_lt_of_pos a (b := (row.length : Int)) (by omega)
  have hi : (a % (row.length : Int)).toNat < row.length := by omega
  refine d_cb (d_acons (d_op h1 (d_op (d_cb (d_acons h2 d_anil) c_inti) (d_cb (d_acons h1 d_anil) c_leni) (o_modi (by rw [List.length_map]; omega))) (o_ixl (j := (a % (row.length : Int)).toNat) (d := .int (rowI row a)) ?_ ?_)) d_anil) c_inti
  · rw [List.length_map]
    exact ixN_of (by omega) hi
  · rw [List.getElem?_map]
    unfold rowI
    rw [List.getD_eq_getElem?_getD, List.getElem?_eq_getElem hi]
    rfl
theorem drawP_take {s : List Nat} {pick : Int} (i : Nat) (h : i < (pick % 5).toNat) : (drawP s pick).take (i + 1) = (drawP s pick).take i ++ [pathStep s pick i] := by
  unfold drawP
  rw [List.take_add_one, List.getElem?_map, List.getElem?_range h]
  rfl
theorem names_get (l : List (List Nat)) (hl : l.length = 4) (draw : Int) : (l.map sD)[(draw / 4 % 4).toNat]? = some (sD (nameOf l draw)) := by
  unfold nameOf
  have hi : (draw / 4 % 4).toNat < l.length := by omega
  rw [List.getElem?_map, List.getD_eq_getElem?_getD, List.getElem?_eq_getElem hi]
  rfl
theorem d_name {l : List (List Nat)} (hl : l.length = 4) {draw : Int} {ta : TA} {td : TE} (h1 : DA K δ ta (l.map sD)) (h2 : DE K δ td (.int draw)) :
    DE K δ (tOp (rIx' K) (tLst ta) (tOp rMod' (tOp rDiv' (tCB rInt' (tCons td tNil)) (tC (.int 4))) (tC (.int 4)))) (sD (nameOf l draw)) := by
  refine d_op (dl_lst h1 (by rw [List.length_map]; omega)).de (d_op (d_op (d_cb (d_acons h2 d_anil) c_inti) d_int (o_divi (by decide))) d_int (o_modi (by decide))) (o_ixl (j := (draw / 4 % 4).toNat) ?_ (names_get l hl draw))
  rw [List.length_map, hl]
  exact ixN_of (by omega) (by omega)
theorem dr_wp (n : Nat) (ds : List D) (r : Res) (h : relDr (n + 1) ds r) : WP K W (ds.map Sl.va ++ List.replicate (12 - ds.length) Sl.no) (t__law_draw_term K (spD K (relDr n))) (fun o => Fits o r) := by
  obtain ⟨row, a, room, s, rfl, hr, hrl, hs, hsl, h1, h2, rfl⟩ := h
  show WP K W [.va (.lst (row.map D.int)), .va (.int a), .va (.int room), .va (.str (mkS s)), .no, .no, .no, .no, .no, .no, .no, .no] _ _
  unfold t__law_draw_term
  apply q_set false (d_rowI hr (d_var rfl) (d_var rfl)) (fun z => nomatch z)
  apply q_set false (d_rowI hr (d_var rfl) (d_op (d_var rfl) d_int o_addi)) (fun z => nomatch z)
  have hdr : drawT row s (n + 1) a room = if rowI row a % 4 = 0 ∨ (room < 2 ∧ rowI row a % 2 = 0) then (.thing (drawP s (rowI row (a + 1))), a + 2, 1)
    else if rowI row a % 4 = 1 ∨ room < 2 then (.call (nameOf namesC (rowI row a)) (drawP s (rowI row (a + 1))), a + 2, 1)
    else
      let z := drawL (drawT row s n) room (rowI row (a + 1) / 7 % 5).toNat ([], a + 2, 1)
      (.deed (nameOf namesE (rowI row a)) z.1, z.2.1, z.2.2) := by rw [drawT]
  rw [hdr]
  generalize rowI row a = draw at *
  generalize rowI row (a + 1) = pick at *
  have hsl0 : 0 < s.length := List.length_pos_iff.mpr hs
  apply q_set false (d_lit (l := []) rfl) (fun z => nomatch z)
  refine q_forS (it_rng1 (n := (pick % 5).toNat) (d_acons (d_op (d_cb (d_acons (d_var rfl) d_anil) c_inti) d_int (o_modi (by decide))) d_anil) rfl (by omega)) (fun i => [.va (.lst (row.map D.int)), .va (.int a), .va (.int room), .va (.str (mkS s)), .va (.int draw), .va (.int pick), .va (sD ((drawP s pick).take i)), .no, .no, .no, .no, .no]) (wk.refl _) ?_ ?_
  · intro i d hd
    obtain ⟨hi, rfl⟩ := rngD_val hd
    have hm1 := Int.emod_nonneg (pick / (5 + (i : Int))) (b := (s.length : Int)) (by omega)
    have hm2 := Int.emod_lt_of_pos (pick / (5 + (i : Int))) (b := (s.length : Int)) (by omega)
    have hidx : (pick / (5 + (i : Int)) % (s.length : Int)).toNat < s.length := by omega
    refine ⟨_, g_name', ?_⟩
    apply q_last
    apply q_set false (d_cats (m := [pathStep s pick i]) (d_var rfl) (d_op (d_var (d := .str (mkS s)) rfl) (d_op (d_op (d_cb (d_acons (d_var rfl) d_anil) c_inti) (d_op d_int (d_var rfl) o_addi) (o_divi (by omega))) (d_len (d_var rfl) (by omega)) (o_modi (by omega))) (o_ixs (c := pathStep s pick i) (small (sD_len (by omega))) ?_)) ?_) (fun z => nomatch z)
    · apply q_nx
      refine ⟨.inr rfl, .inr rfl, .inr rfl, .inr rfl, .inr rfl, .inr rfl, .inr ?_, .inl rfl, .inr rfl, .inr rfl, .inr rfl, .inr rfl, trivial⟩
      rw [drawP_take i hi]
    · rw [mkS_cps]
      unfold atI
      rw [ixN_of (j := (pick / (5 + (i : Int)) % (s.length : Int)).toNat) (by omega) hidx]
      show s[_]? = _
      unfold pathStep
      rw [List.getD_eq_getElem?_getD, List.getElem?_eq_getElem hidx]
      rfl
    · have := List.length_take_le i (drawP s pick)
      simp
      omega
  rw [rngD_len]
  have htk : (drawP s pick).take (pick % 5).toNat = drawP s pick := List.take_of_length_le (by unfold drawP; simp)
  rw [htk]
  generalize drawP s pick = path
  have hT : ∀ {b : Int} {m : Int}, 0 < m → DE K (fz false [.va (.lst (row.map D.int)), .va (.int a), .va (.int room), .va (.str (mkS s)), .va (.int draw), .va (.int pick), .va (sD path), .no, .no, .no, .no, .no]) (tOp (rEq' K) (tOp rMod' (tVar 4) (tC (.int m))) (tC (.int b))) (.bl (decide (draw % m = b))) := fun hm => d_op (d_op (d_var rfl) d_int (o_modi hm)) d_int o_eqi
  apply q_if false (b := decide (draw % 4 = 0 ∨ (room < 2 ∧ draw % 2 = 0))) (dt_is (dt_or (dt_test (hT (by decide))) fun _ => dt_and (dt_test (d_op (d_var rfl) d_int o_lti)) fun _ => dt_test (hT (by decide))) (by
    rw [Bool.eq_iff_iff]; simp))
  · intro c1
    rw [if_pos (of_decide_eq_true c1)]
    exact q_retL false (dl_lst (d_acons (d_tup (d_acons (d_lit (l := sThing) rfl) (d_acons (d_var rfl) d_anil)) (by simp)) (d_acons (d_op (d_var rfl) d_int o_addi) (d_acons d_int d_anil))) (by simp)) rfl
  intro c1
  rw [if_neg (of_decide_eq_false c1)]
  apply q_next
  apply q_if false (b := decide (draw % 4 = 1 ∨ room < 2)) (dt_is (dt_or (dt_test (hT (by decide))) fun _ => dt_test (d_op (d_var rfl) d_int o_lti)) (by
    rw [Bool.eq_iff_iff]; simp))
  · intro c2
    rw [if_pos (of_decide_eq_true c2)]
    exact q_retL false (dl_lst (d_acons (d_tup (d_acons (d_lit (l := sCall) rfl) (d_acons (d_name (l := namesC) rfl (d_acons (d_lit rfl) (d_acons (d_lit rfl) (d_acons (d_lit rfl) (d_acons (d_lit rfl) d_anil)))) (d_var rfl)) (d_acons (d_var rfl) d_anil))) (by simp)) (d_acons (d_op (d_var rfl) d_int o_addi) (d_acons d_int d_anil))) (by simp)) rfl
  intro c2
  have c2' := of_decide_eq_false c2
  rw [if_neg c2']
  have hroom : 2 ≤ room := by
    rcases Int.lt_or_le room 2 with h | h
    · exact absurd (.inr h) c2'
    · exact h
  apply q_next
  apply q_setL false (dl_lst d_anil (by simp)) (fun z => nomatch z)
  apply q_set false d_int (fun z => nomatch z)
  apply q_set false (d_op (d_var rfl) d_int o_addi) (fun z => nomatch z)
  refine q_forP (it_rng1 (n := (pick / 7 % 5).toNat) (d_acons (d_op (d_op (d_cb (d_acons (d_var rfl) d_anil) c_inti) d_int (o_divi (by decide))) d_int (o_modi (by decide))) d_anil) rfl (by omega)) (fun i S => ∃ (z : List T × Int × Int) (s7 s11 : Sl), S = [.va (.lst (row.map D.int)), .va (.int a), .va (.int room), .va (.str (mkS s)), .va (.int draw), .va (.int pick), .va (sD path), s7, .ow (.lst (z.1.map (T.df false))), .va (.int z.2.2), .va (.int z.2.1), s11] ∧ 1 ≤ z.2.2 ∧ z.1.length ≤ i ∧ drawL (drawT row s n) room ((pick / 7 % 5).toNat - i) z = drawL (drawT row s n) room (pick / 7 % 5).toNat ([], a + 2, 1)) _ (wk.refl _) ⟨([], a + 2, 1), _, _, rfl, by simp, Nat.le_refl _, rfl⟩ ?_ ?_
  · rintro i d S hd ⟨z, s7, s11, rfl, hz1, hzl, hz2⟩
    obtain ⟨hi, rfl⟩ := rngD_val hd
    obtain ⟨j, hj⟩ : ∃ j, (pick / 7 % 5).toNat - i = j + 1 := ⟨(pick / 7 % 5).toNat - i - 1, by omega⟩
    have hj2 : (pick / 7 % 5).toNat - (i + 1) = j := by omega
    rw [hj, drawL] at hz2
    refine ⟨_, g_name', ?_⟩
    apply q_last
    apply q_if false (dt_test (d_op (d_var rfl) (d_var rfl) o_lti))
    · intro hlt
      have hlt' := of_decide_eq_true hlt
      rw [if_pos hlt'] at hz2
      have hmin : (if (7 : Int) < room - z.2.2 then (7 : Int) else room - z.2.2) = min (room - z.2.2) 7 := by omega
      apply q_assoc
      apply q_set false (dl_call (es := dres (drawT row s n z.2.1 (min (room - z.2.2) 7))) (d_acons (d_var rfl) (d_acons (d_var rfl) (d_acons (de_is (d_cb (d_acons (d_op (d_var rfl) (d_var rfl) o_subi) (d_acons d_int d_anil)) c_min2) (by rw [hmin])) (d_acons (d_var rfl) d_anil)))) (show relDr n _ _ from ⟨row, z.2.1, min (room - z.2.2) 7, s, rfl, hr, hrl, hs, hsl, by omega, by omega, rfl⟩)).de (fun z => nomatch z)
      apply q_assoc
      apply q_app false rfl (d_op (d_var (d := .lst (dres (drawT row s n z.2.1 (min (room - z.2.2) 7)))) rfl) d_int (o_ixl (ixN_of (j := 0) rfl (by simp [dres])) rfl)) (fun z => nomatch z)
      · rw [List.length_map]; omega
      apply q_assoc
      apply q_set false (d_op (d_var (d := .lst (dres (drawT row s n z.2.1 (min (room - z.2.2) 7)))) rfl) d_int (o_ixl (ixN_of (j := 1) rfl (by simp [dres])) rfl)) (fun z => nomatch z)
      apply q_set false (d_op (d_var rfl) (d_op (d_var (d := .lst (dres (drawT row s n z.2.1 (min (room - z.2.2) 7)))) rfl) d_int (o_ixl (ixN_of (j := 2) rfl (by simp [dres])) rfl)) o_addi) (fun z => nomatch z)
      apply q_nx
      refine ⟨_, wk.refl _, (z.1 ++ [(drawT row s n z.2.1 (min (room - z.2.2) 7)).1], (drawT row s n z.2.1 (min (room - z.2.2) 7)).2.1, z.2.2 + (drawT row s n z.2.1 (min (room - z.2.2) 7)).2.2), .va (.int (i : Int)), .va (.lst (dres (drawT row s n z.2.1 (min (room - z.2.2) 7)))), ?_, ?_, by simp; omega, by rw [hj2]; exact hz2⟩
      · show [_, _, _, _, _, _, _, _, Sl.ow (.lst (z.1.map (T.df false) ++ [_])), _, _, _] = _
        rw [List.map_append]
        rfl
      · have := draw_ok hs row n z.2.1 (min (room - z.2.2) 7) (by omega) (by omega)
        obtain ⟨_, _, g3, _⟩ := this
        show 1 ≤ z.2.2 + _
        omega
    · intro hlt
      have hlt' := of_decide_eq_false hlt
      rw [if_neg hlt'] at hz2
      apply q_next
      apply q_nx
      exact ⟨_, wk.refl _, z, .va (.int (i : Int)), s11, rfl, hz1, by omega, by rw [hj2]; exact hz2⟩
  · rintro S ⟨z, s7, s11, rfl, hz1, hzl, hz2⟩
    rw [rngD_len, Nat.sub_self, drawL] at hz2
    rw [← hz2]
    apply q_last
    refine q_frz 8 rfl ?_
    refine q_retL false (dl_lst (d_acons (d_tup (d_acons (d_lit (l := sDeed) rfl) (d_acons (d_name (l := namesE) rfl (d_acons (d_lit rfl) (d_acons (d_lit rfl) (d_acons (d_lit rfl) (d_acons (d_lit rfl) d_anil)))) (d_var rfl)) (d_acons (d_cb (d_acons (d_var rfl) d_anil) c_tupL) d_anil))) (by simp)) (d_acons (d_var rfl) (d_acons (d_var rfl) d_anil))) (by simp)) ?_
    show [D.tup [sD sDeed, sD _, D.tup _], D.int _, D.int _] = [(T.deed _ z.1).df false, _, _]
    rw [T.df, dfL_map]
    rfl
end
end K01

set_option Elab.async false
set_option linter.all false
set_option maxRecDepth 100000
set_option maxHeartbeats 4000000
/-! U01: the law. -/
namespace K01
open PySem PySem.Spec PyProof.Rows L2 G Pm Tm
mutual
/-- plain data told the same -/
def pln : D → Bool
  | .non => true
  | .int _ => true
  | .str _ => true
  | .tup ds => plnL ds && decide (ds.length ≤ 10000000)
  | _ => false
def plnL : List D → Bool
  | [] => true
  | d :: ds => pln d && plnL ds
end
mutual
theorem pln_fin (b : Bool) : ∀ d : D, pln d = true → d.fin b = true
  | .non, _ => rfl
  | .int _, _ => rfl
  | .str _, _ => rfl
  | .tup ds, h => by
    rw [pln, Bool.and_eq_true] at h
    rw [D.fin, plnL_fin b ds h.1, h.2]
    rfl
  | .bl _, h => by simp [pln] at h
  | .lst _, h => by simp [pln] at h
  | .ins _ _ _, h => by simp [pln] at h
  | .kl _, h => by simp [pln] at h
  | .val _, h => by simp [pln] at h
  | .dct _ _, h => by simp [pln] at h
  | .ndc _ _ _, h => by simp [pln] at h
theorem plnL_fin (b : Bool) : ∀ ds : List D, plnL ds = true → D.finL b ds = true
  | [], _ => rfl
  | d :: ds, h => by
    rw [plnL, Bool.and_eq_true] at h
    rw [D.finL, pln_fin b d h.1, plnL_fin b ds h.2]
    rfl
end
mutual
theorem pln_same : ∀ d : D, pln d = true → sameD d d = true
  | .non, _ => by simp [sameD, D.isNon]
  | .int _, _ => by simp [sameD]
  | .str _, _ => by simp [sameD]
  | .tup ds, h => by
    rw [pln, Bool.and_eq_true] at h
    rw [sameD]
    exact plnL_same ds h.1
  | .bl _, h => by simp [pln] at h
  | .lst _, h => by simp [pln] at h
  | .ins _ _ _, h => by simp [pln] at h
  | .kl _, h => by simp [pln] at h
  | .val _, h => by simp [pln] at h
  | .dct _ _, h => by simp [pln] at h
  | .ndc _ _ _, h => by simp [pln] at h
theorem plnL_same : ∀ ds : List D, plnL ds = true → sameL ds ds = true
  | [], _ => rfl
  | d :: ds, h => by
    rw [plnL, Bool.and_eq_true] at h
    rw [sameL, pln_same d h.1, plnL_same ds h.2]
    rfl
end
theorem same_of {n : Nat} {d : D} (h : pln d = true) (hd : d.depth < n) : relSame n [d, d] (.rt (.bl true)) :=
  ⟨d, d, rfl, pln_fin _ d h, pln_fin _ d h, hd, by rw [pln_same d h]⟩
theorem plnL_all : ∀ ds : List D, (∀ d ∈ ds, pln d = true) → plnL ds = true
  | [], _ => rfl
  | d :: ds, h => by rw [plnL, h d List.mem_cons_self, plnL_all ds fun d hd => h d (List.mem_cons_of_mem _ hd)]; rfl
theorem depthL_all {n : Nat} : ∀ ds : List D, (∀ d ∈ ds, d.depth ≤ n) → D.depthL ds ≤ n
  | [], _ => Nat.zero_le _
  | d :: ds, h => by
    rw [D.depthL]
    have h1 := h d List.mem_cons_self
    have h2 := depthL_all (n := n) ds fun d hd => h d (List.mem_cons_of_mem _ hd)
    omega
theorem callD_pln {l : List T} (hl : l.length ≤ 1000) : pln (.tup (l.filterMap callD)) = true ∧ (D.tup (l.filterMap callD)).depth < 30 := by
  have hlen := List.length_filterMap_le callD l
  have hm : ∀ d ∈ l.filterMap callD, pln d = true ∧ d.depth ≤ 1 := fun d hd => by
    obtain ⟨t, _, ht⟩ := List.mem_filterMap.mp hd
    cases t <;> cases ht
    exact ⟨by simp [pln, plnL, sD], by simp [D.depth, D.depthL, sD]⟩
  refine ⟨by rw [pln, plnL_all _ fun d hd => (hm d hd).1, decide_eq_true (by omega)]; rfl, ?_⟩
  rw [D.depth]
  have := depthL_all _ fun d hd => (hm d hd).2
  omega
theorem thingD_pln {l : List T} (hl : l.length ≤ 1000) : pln (.tup (l.filterMap thingD)) = true ∧ (D.tup (l.filterMap thingD)).depth < 30 := by
  have hlen := List.length_filterMap_le thingD l
  have hm : ∀ d ∈ l.filterMap thingD, pln d = true ∧ d.depth ≤ 1 := fun d hd => by
    obtain ⟨t, _, ht⟩ := List.mem_filterMap.mp hd
    cases t <;> cases ht
    exact ⟨by simp [pln, plnL, sD], by simp [D.depth, D.depthL, sD]⟩
  refine ⟨by rw [pln, plnL_all _ fun d hd => (hm d hd).1, decide_eq_true (by omega)]; rfl, ?_⟩
  rw [D.depth]
  have := depthL_all _ fun d hd => (hm d hd).2
  omega
theorem deedD_pln {l : List T} (hl : l.length ≤ 1000) : pln (.tup (l.filterMap deedD)) = true ∧ (D.tup (l.filterMap deedD)).depth < 30 := by
  have hlen := List.length_filterMap_le deedD l
  have hm : ∀ d ∈ l.filterMap deedD, pln d = true ∧ d.depth ≤ 1 := fun d hd => by
    obtain ⟨t, _, ht⟩ := List.mem_filterMap.mp hd
    cases t <;> cases ht
    exact ⟨by simp [pln, plnL, sD], by simp [D.depth, D.depthL, sD]⟩
  refine ⟨by rw [pln, plnL_all _ fun d hd => (hm d hd).1, decide_eq_true (by omega)]; rfl, ?_⟩
  rw [D.depth]
  have := depthL_all _ fun d hd => (hm d hd).2
  omega
mutual
theorem df_pln : ∀ t : T, t.wr.length ≤ 1000000 → pln (t.df false) = true
  | .thing p, _ => by simp [T.df, mk, pln, plnL, sD]
  | .call n p, _ => by simp [T.df, mk, pln, plnL, sD]
  | .deed n ps, h => by
    rw [T.wr] at h
    simp only [List.length_append, List.length_cons, List.length_nil] at h
    have hg := glue_le ps
    have hl := sumW_len ps
    have h1 := dfL_pln ps (by omega)
    have h2 : (dfL false ps).length ≤ 10000000 := by rw [dfL_map, List.length_map]; omega
    simp [T.df, mk, pln, plnL, sD, h1, h2]
theorem dfL_pln : ∀ ts : List T, sumW ts ≤ 1000002 → plnL (dfL false ts) = true
  | [], _ => rfl
  | t :: ts, h => by
    rw [sumW] at h
    rw [dfL, plnL, df_pln t (by omega), dfL_pln ts (by omega)]
    rfl
end
def leafD : D := .tup [.str "thing", .str ""]
def badL (far : List Nat) : List D :=
  ([.tup [.str "thing", sD far], .tup [.str "call", .str "F", sD far], .tup [.str "thing", .str "z"], .tup [.str "call", .str "f", .str ""], .tup [.str "call", .str "Ninesigns", .str ""], .tup [.str "deed", .str "ninesigns", .tup []]]
  ++ [.tup [.str "deed", .str "H", .tup []], .tup [.str "deed", .str "", .tup []], .tup [.str "deed", .str "h", .tup [leafD, leafD, leafD, leafD, leafD]], .tup [.str "thing"], .tup [.str "call", .str "F"], .tup [.str "things", .str ""]])
  ++ [.non, .int 5, .str "x", .bl true, .tup [], .tup [.str "deed", .str "h", .non], .tup [.str "deed", .str "h", .tup [.non]], .tup [.str "call", .bl true, .str ""], .tup [.str "thing", .int 5]]
def fourD : D := .tup [.str "deed", .str "k", .tup [leafD, leafD, leafD]]
def fullD : D := .tup [.str "deed", .str "h", .tup [fourD, fourD, leafD, .tup [.str "deed", .str "e", .tup [leafD]]]]
def badOk (s : List Nat) (w : D) : Bool := !tmB s w && !tmB s (.tup [.str "deed", .str "h", .tup [leafD, w]]) && san w && decide (w.depth ≤ 5)
/-- what is told of the steps -/
structure Facts (s : List Nat) : Prop where
  ne : s ≠ []
  len : s.length ≤ 3
  le : LetS s
  bad : (badL (List.replicate 5 (s.getD 0 0))).all (badOk s) = true
  full : tmB s fullD = true
  over : tmB s (.tup [.str "deed", .str "f", .tup [fullD]]) = false
  r1 : (readD s [104, 40, 120, 44, 120, 41]).isNone = true
  r2 : (readD s [70, 40, 41]).isNone = true
  r3 : sameD (ansD (readD s [120])) leafD = true
  r4 : pln (ansD (readD s [120])) = true
theorem facts_ab : Facts [97, 98] := ⟨by decide, by decide, by unfold LetS; decide, by decide +kernel, by decide +kernel, by decide +kernel, by decide +kernel, by decide +kernel, by decide +kernel, by decide +kernel⟩
theorem facts_a : Facts [97] := ⟨by decide, by decide, by unfold LetS; decide, by decide +kernel, by decide +kernel, by decide +kernel, by decide +kernel, by decide +kernel, by decide +kernel, by decide +kernel⟩
theorem facts_abc : Facts [97, 98, 99] := ⟨by decide, by decide, by unfold LetS; decide, by decide +kernel, by decide +kernel, by decide +kernel, by decide +kernel, by decide +kernel, by decide +kernel, by decide +kernel⟩
theorem facts_ch : Facts [99, 104] := ⟨by decide, by decide, by unfold LetS; decide, by decide +kernel, by decide +kernel, by decide +kernel, by decide +kernel, by decide +kernel, by decide +kernel, by decide +kernel⟩
theorem read_wr {s : List Nat} {t : T} (hs : LetS s) (ho : t.ok s = true) (hn : t.nodes.length ≤ 12) : readD s t.wr = some t := by
  have hl := ok_len t ho
  have hd := dep_nodes t
  have hr := read_ok hs 12 t [] (by omega) ho ⟨(fun c hc => nomatch hc), (by simp)⟩
  rw [List.append_nil] at hr
  unfold readD
  rw [if_neg (by omega), hr]
  dsimp only
  rw [if_pos ⟨by rw [tm_ok hn]; exact ho, rfl⟩]
theorem readD_some {s z : List Nat} {t : T} (h : readD s z = some t) : tmB s (t.df false) = true ∧ t.wr = z ∧ t.dep ≤ 12 := by
  unfold readD at h
  by_cases h1 : 400 < z.length
  · rw [if_pos h1] at h; cases h
  · rw [if_neg h1] at h
    cases e : pT 12 z with
    | none => rw [e] at h; cases h
    | some x =>
      obtain ⟨t', r⟩ := x
      rw [e] at h
      have g := (pT_good 12 _ _ _ e).2.2
      cases r with
      | nil =>
        dsimp only at h
        by_cases h2 : tmB s (t'.df false) = true ∧ t'.wr = z
        · rw [if_pos h2] at h
          cases h
          exact ⟨h2.1, h2.2, g⟩
        · rw [if_neg h2] at h; cases h
      | cons c r => cases h
theorem ansD_val (o : Option T) : (ansD o).isVal = false := by
  cases o with
  | none => rfl
  | some t => cases t <;> rfl
theorem ansD_non (o : Option T) : (ansD o).isNon = o.isNone := by
  cases o with
  | none => rfl
  | some t => cases t <;> rfl
end K01

set_option Elab.async false
set_option linter.all false
set_option maxRecDepth 100000
set_option maxHeartbeats 4000000
/-! V01: the law's walk. -/
namespace K01
open PySem PySem.Spec PyProof.Rows L2 G Pm Tm
abbrev WN : WX := fun _ _ _ _ => False
def relLaw (ds : List D) (r : Res) : Prop := ∃ ns : List Int, ds = [.kl (ns.map D.int)] ∧ ns.length ≤ 63 ∧ r = .rt (.bl true)
section
variable {K : PySem.W.Frag} {δ : DEnv} {ta tb te : TE}
theorem o_mul5 {c : Nat} : DO K rMul' (.str ⟨#[c]⟩) (.int 5) (sD (List.replicate 5 c)) := do_of fun H R v u Q s rv ru q => by
  cases rv; cases ru
  refine ⟨⟨rfl, fun _ _ => ?_, fun _ _ => ?_⟩, ?_⟩
  · show ¬ ((1 : Int) > _)
    decide
  · show Builtin.Str.tooLong 5 = false
    decide
  · exact q _ fun _ => .str _
theorem d_eqSS {l m : List Nat} (h1 : DE K δ ta (sD l)) (h2 : DE K δ tb (sD m)) : DE K δ (tOp (rEq' K) ta tb) (.bl (decide (l = m))) := by
  refine de_is (d_op h1 h2 o_eqs) ?_
  show D.bl _ = D.bl _
  congr 1
  rw [Bool.eq_iff_iff, decide_eq_true_iff, decide_eq_true_iff]
  exact ⟨mkS_inj, fun e => by rw [e]⟩
theorem d_neSS {l m : List Nat} (h1 : DE K δ ta (sD l)) (h2 : DE K δ tb (sD m)) : DE K δ (tOp (rNe' K) ta tb) (.bl (!decide (l = m))) := by
  refine de_is (d_op h1 h2 o_nes) ?_
  show D.bl _ = D.bl _
  congr 2
  rw [Bool.eq_iff_iff, decide_eq_true_iff, decide_eq_true_iff]
  exact ⟨mkS_inj, fun e => by rw [e]⟩
/-- one of a row of numbers -/
theorem d_at {row : List Int} {i : Nat} {v : Int} (h : DE K δ te (.lst (row.map D.int))) (hv : row[i]? = some v) : DE K δ (tCB rInt' (tCons (tOp (rIx' K) te (tC (.int (i : Int)))) tNil)) (.int v) := by
  have hi : i < row.length := (List.getElem?_eq_some_iff.mp hv).1
  exact d_cb (d_acons (d_op h d_int (o_ixl (ixN_of (j := i) rfl (by rw [List.length_map]; exact hi)) (by rw [List.getElem?_map, hv]; rfl))) d_anil) c_inti
theorem pick (l : List D) (v : Int) (h : l ≠ []) : ∃ w, l[(v % (l.length : Int)).toNat]? = some w ∧ w ∈ l ∧ ixN l.length (v % (l.length : Int)) = some (v % (l.length : Int)).toNat := by
  have hl : 0 < l.length := List.length_pos_iff.mpr h
  have hm1 := Int.emod_nonneg v (b := (l.length : Int)) (by omega)
  have hm2 := Int.emod_lt_of_pos v (b := (l.length : Int)) (by omega)
  have hi : (v % (l.length : Int)).toNat < l.length := by omega
  exact ⟨_, List.getElem?_eq_getElem hi, List.getElem_mem hi, ixN_of (by omega) hi⟩
theorem law01_wp (ds : List D) (r : Res) (h : relLaw ds r) :
    WP K WN (ds.map Sl.va ++ List.replicate (19 - ds.length) Sl.no) (t_law K (spD K relCell) (spD K relDigits) (spD K (relDr 12)) (spD K (relLi 13)) (spD K (relSame 30)) (spD K (relLN 13)) (spD K (relWr 13)) (spD K relCalls) (spD K relDeeds) (spD K relBd) (spD K relTm) (spD K relTot) (spD K relRd) (spD K relThings) (spD K (relWr 13))) (fun o => Fits o r) := by
  obtain ⟨ns, rfl, hns, rfl⟩ := h
  show WP K WN [.va (.kl (ns.map D.int)), .no, .no, .no, .no, .no, .no, .no, .no, .no, .no, .no, .no, .no, .no, .no, .no, .no, .no] _ _
  unfold t_law
  have cell : ∀ {ρ : SEnv} (j : Nat), j ≤ 1000 → ρ[0]? = some (.va (.kl (ns.map D.int))) → DE K (fz false ρ) (tCallR (spD K relCell) E0 (tCons (tVar 0) (tCons (tC (.int (j : Int))) tNil))) (.int (cellI ns j)) := fun {ρ} j hj e =>
    d_call (d_acons (d_var (by unfold fz; rw [List.getElem?_map, e]; rfl)) (d_acons d_int d_anil)) (show relCell _ _ from ⟨ns, j, rfl, hj, rfl⟩)
  -- the steps
  obtain ⟨s, hsl, F⟩ : ∃ s : List Nat, [D.str "ab", D.str "a", D.str "abc", D.str "ch"][(cellI ns 0 % 4).toNat]? = some (sD s) ∧ Facts s := by
    have h4 : (cellI ns 0 % 4).toNat < 4 := by omega
    generalize (cellI ns 0 % 4).toNat = m at h4
    match m, h4 with
    | 0, _ => exact ⟨_, rfl, facts_ab⟩
    | 1, _ => exact ⟨_, rfl, facts_a⟩
    | 2, _ => exact ⟨_, rfl, facts_abc⟩
    | 3, _ => exact ⟨_, rfl, facts_ch⟩
  apply q_set false (d := sD s) (d_op (DL.de (dl_lst (d_acons d_str (d_acons d_str (d_acons d_str (d_acons d_str d_anil)))) (by decide))) (d_op (d_cb (d_acons (cell 0 (by decide) rfl) d_anil) c_inti) d_int (o_modi (by decide))) (o_ixl (ixN_of (j := (cellI ns 0 % 4).toNat) (by omega) (by simp; omega)) hsl)) (fun z => nomatch z)
  -- the row
  have h997 : (List.replicate 60 (D.int 997)) = (List.replicate 60 (997 : Int)).map D.int := by rw [List.map_replicate]
  refine q_set false (d := .lst ((digitsI (cellI ns 1) (List.replicate 60 997)).map D.int)) (dl_call (d_acons (cell 1 (by decide) rfl) (d_acons (DL.de (dl_rep (d_acons d_int d_anil) (c := 60) (by decide) (by decide) (fun _ => d_int))) d_anil)) (show relDigits _ _ from ⟨_, List.replicate 60 997, by rw [h997], by decide, fun s hs => by rw [(List.mem_replicate.mp hs).2]; decide, rfl⟩)).de (fun z => nomatch z) ?_
  have hrl : (digitsI (cellI ns 1) (List.replicate 60 997)).length = 60 := by rw [digits_len, List.length_replicate]
  generalize digitsI (cellI ns 1) (List.replicate 60 997) = row at *
  have hrow : ∀ i, i < 60 → ∃ v, row[i]? = some v := fun i hi => ⟨_, List.getElem?_eq_getElem (by omega)⟩
  obtain ⟨v50, e50⟩ := hrow 50 (by decide)
  obtain ⟨v51, e51⟩ := hrow 51 (by decide)
  obtain ⟨v52, e52⟩ := hrow 52 (by decide)
  obtain ⟨v53, e53⟩ := hrow 53 (by decide)
  have hrne : row ≠ [] := fun z => by rw [z] at hrl; cases hrl
  have hslen := F.len
  -- the term
  have hroom : 1 ≤ 1 + v50 % 12 ∧ 1 + v50 % 12 ≤ 12 := by omega
  have hdraw := draw_ok F.ne row 12 0 (1 + v50 % 12) hroom.1 hroom.2
  apply q_set false (d := (drawT row s 12 0 (1 + v50 % 12)).1.df false) (d_op (dl_call (es := dres (drawT row s 12 0 (1 + v50 % 12))) (d_acons (d_var rfl) (d_acons d_int (d_acons (d_op d_int (d_op (d_at (i := 50) (d_var rfl) e50) d_int (o_modi (by decide))) o_addi) (d_acons (d_var rfl) d_anil)))) (show relDr 12 _ _ from ⟨row, 0, 1 + v50 % 12, s, rfl, hrne, by omega, F.ne, by omega, hroom.1, hroom.2, rfl⟩)).de d_int (o_ixl (ixN_of (j := 0) rfl (by simp [dres])) rfl)) (fun z => nomatch z)
  obtain ⟨t, hok, hnod⟩ : ∃ t : T, t.ok s = true ∧ t.nodes.length ≤ 12 ∧ t = (drawT row s 12 0 (1 + v50 % 12)).1 := ⟨_, hdraw.1, by have := hdraw.2.1; have := hdraw.2.2.2; omega, rfl⟩
  obtain ⟨hn12, et⟩ := hnod
  rw [← et]
  clear et hdraw
  have hdep := dep_nodes t
  have hwl := ok_len t hok
  have hsan : ∀ f, san (t.df f) = true := fun f => san_df f t (by omega)
  have hdp : ∀ f, (t.df f).depth < 60 := fun f => by have := depth_df f t; omega
  have hdp30 : (t.df false).depth < 30 := by have := depth_df false t; omega
  have hnp := nodes_pos t
  -- the nodes
  apply q_set false (d_call (d := .lst (t.nodes.map (T.df false))) (d_acons (d_var rfl) d_anil) (show relLN 13 _ _ from ⟨false, t, rfl, by omega, by omega, rfl⟩)) (fun z => nomatch z)
  have hli : ∀ {δ : DEnv} {te : TE}, DE K δ te (t.df false) → DE K δ (tCallR (spD K (relLi 13)) E0 (tCons te tNil)) (t.df true) := fun h => by
    rw [df_true]
    exact (dl_call (d_acons h d_anil) (show relLi 13 _ _ from ⟨t, rfl, by omega, by omega, rfl⟩)).de
  have htm : ∀ f, tmB s (t.df f) = true := fun f => by rw [tm_ok hn12]; exact hok
  have htm' : ∀ {δ : DEnv} {te tb : TE} {d : D} {b : Bool}, DE K δ te d → DE K δ tb (sD s) → san d = true → d.depth < 60 → tmB s d = b → DE K δ (tCallR (spD K relTm) E0 (tCons te (tCons tb tNil))) (.bl b) := fun h hb h1 h2 e => d_call (d_acons h (d_acons hb d_anil)) (show relTm _ _ from ⟨_, s, rfl, h1, h2, by rw [e]⟩)
  apply q_ifF false (dt_is (dt_or (b := false) (c := false) (dt_is (dt_test (d_op (htm' (d_var rfl) (d_var rfl) (hsan false) (hdp false) (htm false)) d_bl o_isNB)) rfl) fun _ => dt_is (dt_test (d_op (htm' (hli (d_var rfl)) (d_var rfl) (hsan true) (hdp true) (htm true)) d_bl o_isNB)) rfl) rfl)
  apply q_next
  -- is_body
  have hbd : ∀ {δ : DEnv} {te tb : TE}, DE K δ te (t.df false) → DE K δ tb (sD s) → DE K δ (tCallR (spD K relBd) E0 (tCons te (tCons tb tNil))) (.bl (!decide (t.w0 = sThing))) := fun h hb => d_call (d_acons h (d_acons hb d_anil)) (show relBd _ _ from ⟨_, s, rfl, hsan false, hdp false, by
    unfold bdB
    rw [htm false, (df_row false t).2, strL_sD]
    simp⟩)
  have hb0 : DT K (fz false [.va (.kl (ns.map D.int)), .va (sD s), .va (.lst (row.map D.int)), .va (t.df false), .va (.lst (t.nodes.map (T.df false))), .no, .no, .no, .no, .no, .no, .no, .no, .no, .no, .no, .no, .no, .no])
      (tOr (tAnd (tTest (tOp rIsNot' (tCallR (spD K relBd) E0 (tCons (tVar 3) (tCons (tVar 1) tNil))) (tC (.bl true)))) (tTest (tOp (rNe' K) (tOp (rIx' K) (tVar 3) (tC (.int 0))) (tC (.str "thing"))))) (tAnd (tTest (tOp rIsNot' (tCallR (spD K relBd) E0 (tCons (tVar 3) (tCons (tVar 1) tNil))) (tC (.bl false)))) (tTest (tOp (rEq' K) (tOp (rIx' K) (tVar 3) (tC (.int 0))) (tC (.str "thing")))))) false := by
    refine dt_is (dt_or (dt_and (dt_test (d_op (hbd (d_var rfl) (d_var rfl)) d_bl o_isNB)) fun _ => dt_test (d_neL (d_w0 (d_var rfl)) thing_l)) fun _ => dt_and (dt_test (d_op (hbd (d_var rfl) (d_var rfl)) d_bl o_isNB)) fun _ => dt_test (d_eqL (d_w0 (d_var rfl)) thing_l)) ?_
    cases decide (t.w0 = sThing) <;> rfl
  apply q_ifF false hb0
  apply q_next
  -- node_total
  have htot : ∀ {δ : DEnv} {te : TE} (f : Bool), DE K δ te (t.df f) → DE K δ (tCallR (spD K relTot) E0 (tCons te tNil)) (.int (t.nodes.length : Int)) := fun f h => d_call (d_acons h d_anil) (show relTot _ _ from ⟨f, t, rfl, by omega, by omega, rfl⟩)
  have hlenN : ∀ {δ : DEnv} {te : TE}, DE K δ te (.lst (t.nodes.map (T.df false))) → DE K δ (tCB (rLen' K) (tCons te tNil)) (.int (t.nodes.length : Int)) := fun h => de_is (d_cb (d_acons h d_anil) c_leni) (by rw [List.length_map])
  apply q_ifF false (dt_is (dt_or (b := false) (c := false) (dt_is (dt_test (d_op (htot false (d_var rfl)) (hlenN (d_var rfl)) o_nei)) (by simp)) fun _ => dt_is (dt_test (d_op (htot true (hli (d_var rfl))) (hlenN (d_var rfl)) o_nei)) (by simp)) rfl)
  apply q_next
  -- calls, things, deeds
  have hN : t.nodes.length ≤ 1000 := by omega
  apply q_ifF false (dt_is (dt_not (dt_tru (d_call (d_acons (d_call (d_acons (d_var rfl) d_anil) (show relCalls _ _ from ⟨false, t, rfl, by omega, by omega, rfl⟩)) (d_acons (d_cb (d_acons (dl_calls (i := 18) (it_lst (d_var rfl)) (by omega) (by simp [fz])).de d_anil) c_tupL) d_anil)) (same_of (callD_pln hN).1 (callD_pln hN).2)) trivial)) rfl)
  apply q_next
  apply q_ifF false (dt_is (dt_not (dt_tru (d_call (d_acons (d_call (d_acons (d_var rfl) d_anil) (show relThings _ _ from ⟨false, t, rfl, by omega, by omega, rfl⟩)) (d_acons (d_cb (d_acons (dl_things (i := 18) (it_lst (d_var rfl)) (by omega) (by simp [fz])).de d_anil) c_tupL) d_anil)) (same_of (thingD_pln hN).1 (thingD_pln hN).2)) trivial)) rfl)
  apply q_next
  apply q_ifF false (dt_is (dt_not (dt_tru (d_call (d_acons (d_call (d_acons (d_var rfl) d_anil) (show relDeeds _ _ from ⟨false, t, rfl, by omega, by omega, rfl⟩)) (d_acons (d_cb (d_acons (dl_deeds (i := 18) (it_lst (d_var rfl)) (by omega) (by simp [fz])).de d_anil) c_tupL) d_anil)) (same_of (deedD_pln hN).1 (deedD_pln hN).2)) trivial)) rfl)
  apply q_next
  -- the text
  have hrw := read_wr F.le hok hn12
  have hasc := ok_asc F.le t hok
  have hWr : ∀ {δ : DEnv} {te : TE}, DE K δ te (t.df false) → DE K δ (tCallR (spD K (relWr 13)) E0 (tCons te tNil)) (sD t.wr) := fun h => d_call (d_acons h d_anil) (show relWr 13 _ _ from ⟨false, t, rfl, by omega, by omega, rfl⟩)
  have hpl := df_pln t (by omega)
  apply q_set false (hWr (d_var rfl)) (fun z => nomatch z)
  have hRd : ∀ {δ : DEnv} {te tb : TE} {z : List Nat}, DE K δ te (sD z) → DE K δ tb (sD s) → TxOk z → DE K δ (tCallR (spD K relRd) E0 (tCons te (tCons tb tNil))) (ansD (readD s z)) := fun h hb hz => d_call (d_acons h (d_acons hb d_anil)) (show relRd _ _ from ⟨_, s, rfl, hz, rfl⟩)
  have hTx : TxOk t.wr := ⟨by omega, hasc⟩
  apply q_ifF false (dt_is (dt_or (b := false) (c := false) (dt_is (dt_test (d_neSS (hWr (d_var rfl)) (d_var rfl))) (by simp)) fun _ => dt_is (dt_not (dt_tru (d_call (d_acons (de_is (hRd (d_var rfl) (d_var rfl) hTx) (by rw [hrw]; rfl)) (d_acons (d_var rfl) d_anil)) (same_of hpl hdp30)) trivial)) rfl) rfl)
  apply q_next
  generalize hw : t.wr = w at *
  -- leaf, far, bad
  apply q_set false (d := leafD) (d_tup (d_acons d_str (d_acons d_str d_anil)) (by simp)) (fun z => nomatch z)
  have hs0 : s[0]? = some (s.getD 0 0) := by
    have := F.ne
    cases s with
    | nil => exact absurd rfl this
    | cons c r => rfl
  apply q_set false (d := sD (List.replicate 5 (s.getD 0 0))) (d_op (d_op (d_var (d := .str (mkS s)) rfl) d_int (o_ixs (c := s.getD 0 0) (small (sD_len (by omega))) (by
    rw [mkS_cps]
    unfold atI
    rw [ixN_of (n := s.length) (m := 0) (j := 0) rfl (List.length_pos_iff.mpr F.ne)]
    exact hs0))) d_int o_mul5) (fun z => nomatch z)
  have hbad := F.bad
  generalize List.replicate 5 (s.getD 0 0) = far at *
  have D2 : ∀ {δ : DEnv} {t1 t2 : TE} {a b : D}, DE K δ t1 a → DE K δ t2 b → DE K δ (tTup (tCons t1 (tCons t2 tNil))) (.tup [a, b]) := fun h1 h2 => d_tup (d_acons h1 (d_acons h2 d_anil)) (by simp)
  have D3 : ∀ {δ : DEnv} {t1 t2 t3 : TE} {a b c : D}, DE K δ t1 a → DE K δ t2 b → DE K δ t3 c → DE K δ (tTup (tCons t1 (tCons t2 (tCons t3 tNil)))) (.tup [a, b, c]) := fun h1 h2 h3 => d_tup (d_acons h1 (d_acons h2 (d_acons h3 d_anil))) (by simp)
  have D0 : ∀ {δ : DEnv}, DE K δ (tTup tNil) (.tup []) := d_tup d_anil (by simp)
  have D1 : ∀ {δ : DEnv} {t1 : TE} {a : D}, DE K δ t1 a → DE K δ (tTup (tCons t1 tNil)) (.tup [a]) := fun h1 => d_tup (d_acons h1 d_anil) (by simp)
  apply q_set false (dl_lst (d_acons (D2 d_str (d_var rfl)) (d_acons (D3 d_str d_str (d_var rfl)) (d_acons (D2 d_str d_str) (d_acons (D3 d_str d_str d_str) (d_acons (D3 d_str d_str d_str) (d_acons (D3 d_str d_str D0) d_anil)))))) (by simp)).de (fun z => nomatch z)
  apply q_set false (dl_catD (d_var rfl) (dl_lst (d_acons (D3 d_str d_str D0) (d_acons (D3 d_str d_str D0) (d_acons (D3 d_str d_str (d_tup (d_acons (d_var (d := leafD) rfl) (d_acons (d_var (d := leafD) rfl) (d_acons (d_var (d := leafD) rfl) (d_acons (d_var (d := leafD) rfl) (d_acons (d_var (d := leafD) rfl) d_anil))))) (by simp))) (d_acons (D1 d_str) (d_acons (D2 d_str d_str) (d_acons (D2 d_str d_str) d_anil)))))) (by simp)).de (by simp)).de (fun z => nomatch z)
  apply q_set false (d := .lst (badL far)) (dl_catD (d_var rfl) (dl_lst (d_acons d_non (d_acons d_int (d_acons d_str (d_acons d_bl (d_acons D0 (d_acons (D3 d_str d_str d_non) (d_acons (D3 d_str d_str (D1 d_non)) (d_acons (D3 d_str d_bl d_str) (d_acons (D2 d_str d_int) d_anil))))))))) (by simp)).de (by simp)).de (fun z => nomatch z)
  obtain ⟨wr, hwr, hwm, hwi⟩ := pick (badL far) v51 (by simp [badL])
  have hwok := List.all_eq_true.mp hbad wr hwm
  unfold badOk at hwok
  simp only [Bool.and_eq_true, Bool.not_eq_true', decide_eq_true_iff] at hwok
  obtain ⟨⟨⟨w1, w2⟩, w3⟩, w4⟩ := hwok
  have hblen : (badL far).length = 21 := rfl
  apply q_set false (d := wr) (d_op (d_var rfl) (d_op (d_at (i := 51) (d_var rfl) e51) (d_cb (d_acons (d_var (d := .lst (badL far)) rfl) d_anil) c_leni) (o_modi (by rw [hblen]; decide))) (o_ixl hwi hwr)) (fun z => nomatch z)
  have w5 : san (.tup [.str "deed", .str "h", .tup [leafD, wr]]) = true := by simp [san, sanL, w3, leafD]; decide
  have w6 : (D.tup [.str "deed", .str "h", .tup [leafD, wr]]).depth < 60 := by simp [D.depth, D.depthL, leafD]; omega
  have w7 : bdB s wr = false := by unfold bdB; rw [w1]; rfl
  apply q_ifF false (dt_is (dt_or (b := false) (c := false) (dt_is (dt_test (d_op (htm' (d_var rfl) (d_var rfl) w3 (by omega) w1) d_bl o_isNB)) rfl) fun _ => dt_is (dt_or (b := false) (c := false) (dt_is (dt_test (d_op (htm' (D3 d_str d_str (D2 (d_var rfl) (d_var rfl))) (d_var rfl) w5 w6 w2) d_bl o_isNB)) rfl) fun _ => dt_is (dt_test (d_op (d_call (d_acons (d_var rfl) (d_acons (d_var rfl) d_anil)) (show relBd _ _ from ⟨wr, s, rfl, w3, by omega, by rw [w7]⟩)) d_bl o_isNB)) rfl) rfl) rfl)
  apply q_next
  apply q_set false (d := fourD) (D3 d_str d_str (D3 (d_var rfl) (d_var rfl) (d_var rfl))) (fun z => nomatch z)
  apply q_set false (d := fullD) (D3 d_str d_str (d_tup (d_acons (d_var rfl) (d_acons (d_var rfl) (d_acons (d_var rfl) (d_acons (D3 d_str d_str (D1 (d_var rfl))) d_anil)))) (by simp))) (fun z => nomatch z)
  apply q_ifF false (dt_is (dt_or (b := false) (c := false) (dt_is (dt_test (d_op (htm' (d_var rfl) (d_var rfl) (by decide +kernel) (by decide +kernel) F.full) d_bl o_isNB)) rfl) fun _ => dt_is (dt_test (d_op (htm' (D3 d_str d_str (D1 (d_var rfl))) (d_var rfl) (by decide +kernel) (by decide +kernel) F.over) d_bl o_isNB)) rfl) rfl)
  apply q_next
  -- the others
  have hwpos : 0 < w.length := by
    rcases Nat.eq_zero_or_pos w.length with e | e
    · have e' := List.length_eq_zero_iff.mp e
      rw [e'] at hrw
      have : readD s [] = none := by simp [readD, pT]
      rw [this] at hrw
      cases hrw
    · exact e
  obtain ⟨at', ha⟩ : ∃ a : Nat, v52 % (w.length : Int) = (a : Int) := ⟨(v52 % (w.length : Int)).toNat, by have := Int.emod_nonneg v52 (b := (w.length : Int)) (by omega); omega⟩
  apply q_set false (d := .int (at' : Int)) (de_is (d_op (d_at (i := 52) (d_var rfl) e52) (d_len (d_var rfl) (by omega)) (o_modi (by omega))) (by rw [ha])) (fun z => nomatch z)
  obtain ⟨c, hc, hc128⟩ : ∃ c, ([97, 98, 32, 120, 40, 41, 44, 70, 71, 72, 49] : List Nat)[(v53 % 11).toNat]? = some c ∧ c < 128 := by
    have h11 : (v53 % 11).toNat < 11 := by omega
    generalize (v53 % 11).toNat = m at h11
    have : ∀ m, m < 11 → ∃ c, ([97, 98, 32, 120, 40, 41, 44, 70, 71, 72, 49] : List Nat)[m]? = some c ∧ c < 128 := by decide
    exact this m h11
  apply q_set false (d := sD [c]) (d_op (d_lit (l := [97, 98, 32, 120, 40, 41, 44, 70, 71, 72, 49]) rfl) (d_op (d_at (i := 53) (d_var rfl) e53) d_int (o_modi (by decide))) (o_ixs (c := c) (by decide) (by
    rw [mkS_cps]
    unfold atI
    rw [ixN_of (j := (v53 % 11).toNat) (by omega) (by simp; omega)]
    exact hc))) (fun z => nomatch z)
  have hat : at' < w.length := by
    have := Int.emod_lt_of_pos v52 (b := (w.length : Int)) (by omega)
    omega
  have hwl2 : w.length ≤ 250 := by omega
  -- the texts
  have cTo : ∀ {δ : DEnv} {t1 t2 : TE}, DE K δ t1 (sD w) → DE K δ t2 (.int (at' : Int)) → DE K δ (tSl (rSl' K) t1 tNoPart (tPart t2)) (sD (w.take at')) := fun h1 h2 => de_is (d_cut h1 d_noPart (d_part h2) (by omega)) (by rw [cutD_to])
  have cFr : ∀ {δ : DEnv} {t1 t2 : TE}, DE K δ t1 (sD w) → DE K δ t2 (.int (at' : Int)) → DE K δ (tSl (rSl' K) t1 (tPart t2) tNoPart) (sD (w.drop at')) := fun h1 h2 => de_is (d_cut h1 (d_part h2) d_noPart (by omega)) (by rw [cutD_from])
  have cF1 : ∀ {δ : DEnv} {t1 t2 : TE}, DE K δ t1 (sD w) → DE K δ t2 (.int (at' : Int)) → DE K δ (tSl (rSl' K) t1 (tPart (tOp (rAdd' K) t2 (tC (.int 1)))) tNoPart) (sD (w.drop (at' + 1))) := fun h1 h2 => de_is (d_cut h1 (d_part (de_is (d_op h2 d_int o_addi) (by rw [show (at' : Int) + 1 = ((at' + 1 : Nat) : Int) from rfl]))) d_noPart (by omega)) (by rw [cutD_from])
  have l1 : (w.take at').length ≤ 250 := by simp; omega
  have l2 : (w.drop at').length ≤ 250 := by simp; omega
  have l3 : (w.drop (at' + 1)).length ≤ 250 := by simp; omega
  have a0 : asc w = true := hasc
  have a1 : asc (w.take at') = true := List.all_eq_true.mpr fun c hc => List.all_eq_true.mp a0 c (List.mem_of_mem_take hc)
  have a2 : asc (w.drop at') = true := List.all_eq_true.mpr fun c hc => List.all_eq_true.mp a0 c (List.mem_of_mem_drop hc)
  have a3 : asc (w.drop (at' + 1)) = true := List.all_eq_true.mpr fun c hc => List.all_eq_true.mp a0 c (List.mem_of_mem_drop hc)
  have ac : asc [c] = true := by simp [asc, hc128]
  have hO : ∀ o ∈ [w.take at' ++ w.drop (at' + 1), w.take at' ++ [c] ++ w.drop at', w.take at' ++ [c] ++ w.drop (at' + 1), w ++ [32], [32] ++ w, ([] : List Nat)], TxOk o := by
    intro o ho
    simp only [List.mem_cons, List.not_mem_nil, or_false] at ho
    rcases ho with rfl | rfl | rfl | rfl | rfl | rfl
    · exact ⟨by rw [List.length_append]; omega, by rw [asc_app, a1, a3]; rfl⟩
    · exact ⟨by rw [List.length_append, List.length_append, List.length_singleton]; omega, by rw [asc_app, asc_app, a1, ac, a2]; rfl⟩
    · exact ⟨by rw [List.length_append, List.length_append, List.length_singleton]; omega, by rw [asc_app, asc_app, a1, ac, a3]; rfl⟩
    · exact ⟨by rw [List.length_append, List.length_singleton]; omega, by rw [asc_app, a0]; rfl⟩
    · exact ⟨by rw [List.length_append, List.length_singleton]; omega, by rw [asc_app, a0]; rfl⟩
    · exact ⟨by simp, rfl⟩
  apply q_set false (d := .lst (PD [w.take at' ++ w.drop (at' + 1), w.take at' ++ [c] ++ w.drop at', w.take at' ++ [c] ++ w.drop (at' + 1), w ++ [32], [32] ++ w, ([] : List Nat)])) (dl_lst (d_acons (d_cats (cTo (d_var rfl) (d_var rfl)) (cF1 (d_var rfl) (d_var rfl)) (by omega)) (d_acons (d_cats (d_cats (cTo (d_var rfl) (d_var rfl)) (d_var rfl) (by rw [List.length_singleton]; omega)) (cFr (d_var rfl) (d_var rfl)) (by rw [List.length_append, List.length_singleton]; omega)) (d_acons (d_cats (d_cats (cTo (d_var rfl) (d_var rfl)) (d_var rfl) (by rw [List.length_singleton]; omega)) (cF1 (d_var rfl) (d_var rfl)) (by rw [List.length_append, List.length_singleton]; omega)) (d_acons (d_cats (d_var rfl) (d_lit (l := [32]) rfl) (by rw [List.length_singleton]; omega)) (d_acons (d_cats (d_lit (l := [32]) rfl) (d_var rfl) (by rw [List.length_singleton]; omega)) (d_acons (d_lit (l := []) rfl) d_anil)))))) (by simp)).de (fun z => nomatch z)
  generalize [w.take at' ++ w.drop (at' + 1), w.take at' ++ [c] ++ w.drop at', w.take at' ++ [c] ++ w.drop (at' + 1), w ++ [32], [32] ++ w, ([] : List Nat)] = os at hO
  refine q_forP (it_lst (ds := PD os) (d_var rfl)) (fun i S => ∃ s15 s16, S = [.va (.kl (ns.map D.int)), .va (sD s), .va (.lst (row.map D.int)), .va (t.df false), .va (.lst (t.nodes.map (T.df false))), .va (sD w), .va leafD, .va (sD far), .va (.lst (badL far)), .va wr, .va fourD, .va fullD, .va (.int (at' : Int)), .va (sD [c]), .va (.lst (PD os)), s15, s16, .no, .no]) _ (wk.refl _) ⟨.no, .no, rfl⟩ ?_ ?_
  · rintro i d S hd ⟨s15, s16, rfl⟩
    rw [List.getElem?_map] at hd
    cases ho : os[i]? with
    | none => rw [ho] at hd; cases hd
    | some o =>
      rw [ho] at hd
      cases hd
      have hoT := hO o (List.mem_of_getElem? ho)
      refine ⟨_, g_name', ?_⟩
      apply q_set false (hRd (z := o) (d_var rfl) (d_var rfl) hoT) (fun z => nomatch z)
      apply q_last
      cases hr : readD s o with
      | none =>
        apply q_ifF false (dt_is (dt_test (d_op (d_var rfl) d_non (o_isNN (ansD_val none)))) rfl)
        apply q_ifF false (dt_is (dt_test (d_eqSS (l := o) (m := w) (d_var rfl) (d_var rfl))) (decide_eq_false fun e => by
          rw [e, hrw] at hr
          cases hr))
        apply q_next
        apply q_nx
        exact ⟨_, wk.refl _, .va (sD o), .va (ansD none), rfl⟩
      | some t' =>
        obtain ⟨k1, k2, k3⟩ := readD_some hr
        have k4 : t'.wr.length ≤ 1000 := by rw [k2]; exact hoT.1
        have k5 := depth_df false t'
        apply q_ifT false (dt_is (dt_test (d_op (d_var rfl) d_non (o_isNN (ansD_val (some t'))))) (by rw [ansD_non]; rfl))
        apply q_ifF false (dt_is (dt_or (b := false) (c := false) (dt_is (dt_test (d_op (htm' (d := t'.df false) (d_var rfl) (d_var rfl) (san_df false t' (by omega)) (by omega) k1) d_bl o_isNB)) rfl) fun _ => dt_is (dt_test (d_neSS (l := t'.wr) (m := o) (d_call (d_acons (d_var rfl) d_anil) (show relWr 13 _ _ from ⟨false, t', rfl, by omega, by omega, rfl⟩)) (d_var rfl))) (by rw [k2]; simp)) rfl)
        apply q_next
        apply q_nx
        exact ⟨_, wk.refl _, .va (sD o), .va (ansD (some t')), rfl⟩
  · rintro S ⟨s15, s16, rfl⟩
    apply q_last
    have n1 : readD s [104, 40, 120, 44, 120, 41] = none := Option.isNone_iff_eq_none.mp F.r1
    have n2 : readD s [70, 40, 41] = none := Option.isNone_iff_eq_none.mp F.r2
    refine q_ret false (d_andB (b := true) (c := true) (de_is (d_op (hRd (z := [104, 40, 120, 44, 120, 41]) (d_lit rfl) (d_var rfl) ⟨by simp, rfl⟩) d_non (o_isN (ansD_val _))) (by rw [n1]; rfl)) fun _ => de_is (d_andB (b := true) (c := true) (de_is (d_op (hRd (z := [70, 40, 41]) (d_lit rfl) (d_var rfl) ⟨by simp, rfl⟩) d_non (o_isN (ansD_val _))) (by rw [n2]; rfl)) fun _ => d_call (d_acons (hRd (z := [120]) (d_lit rfl) (d_var rfl) ⟨by simp, rfl⟩) (d_acons (d_var rfl) d_anil)) (show relSame 30 _ _ from ⟨_, _, rfl, pln_fin _ _ F.r4, rfl, by decide +kernel, by rw [F.r3]⟩)) rfl) rfl
end
end K01

set_option Elab.async false
set_option linter.all false
set_option maxRecDepth 100000
set_option maxHeartbeats 4000000
namespace K01
open PySem PySem.Spec PyProof.Rows L2 G
def top (i : Nat) : Stmt := PySem.Challenge.pw_looporpile_k01_terms.main.body.getD i (.Pass ⟨0, 0, 0, 0⟩)
abbrev s_is_row : Stmt := top 1
theorem sc_is_row : FnScope n_is_row ["value"] (defScope s_is_row) := ⟨rfl, rfl, rfl, by decide +kernel, rfl, by decide +kernel, by decide +kernel⟩
abbrev s_is_path : Stmt := top 3
theorem sc_is_path : FnScope n_is_path ["value", "steps"] (defScope s_is_path) := ⟨rfl, rfl, rfl, by decide +kernel, rfl, by decide +kernel, by decide +kernel⟩
abbrev s_is_function_name : Stmt := top 8
theorem sc_is_function_name : FnScope n_is_function_name ["value"] (defScope s_is_function_name) := ⟨rfl, rfl, rfl, by decide +kernel, rfl, by decide +kernel, by decide +kernel⟩
abbrev s_is_deed_name : Stmt := top 9
theorem sc_is_deed_name : FnScope n_is_deed_name ["value"] (defScope s_is_deed_name) := ⟨rfl, rfl, rfl, by decide +kernel, rfl, by decide +kernel, by decide +kernel⟩
abbrev s_node_bound : Stmt := top 10
theorem sc_node_bound : FnScope n_node_bound ["value", "room"] (defScope s_node_bound) := ⟨rfl, rfl, rfl, by decide +kernel, rfl, by decide +kernel, by decide +kernel⟩
abbrev s_is_shaped : Stmt := top 11
theorem sc_is_shaped : FnScope n_is_shaped ["value", "steps"] (defScope s_is_shaped) := ⟨rfl, rfl, rfl, by decide +kernel, rfl, by decide +kernel, by decide +kernel⟩
abbrev s_is_term : Stmt := top 12
theorem sc_is_term : FnScope n_is_term ["value", "steps"] (defScope s_is_term) := ⟨rfl, rfl, rfl, by decide +kernel, rfl, by decide +kernel, by decide +kernel⟩
abbrev s_is_body : Stmt := top 13
theorem sc_is_body : FnScope n_is_body ["value", "steps"] (defScope s_is_body) := ⟨rfl, rfl, rfl, by decide +kernel, rfl, by decide +kernel, by decide +kernel⟩
abbrev s_nodes_of : Stmt := top 14
theorem sc_nodes_of : FnScope n_nodes_of ["term"] (defScope s_nodes_of) := ⟨rfl, rfl, rfl, by decide +kernel, rfl, by decide +kernel, by decide +kernel⟩
abbrev s_node_total : Stmt := top 15
theorem sc_node_total : FnScope n_node_total ["term"] (defScope s_node_total) := ⟨rfl, rfl, rfl, by decide +kernel, rfl, by decide +kernel, by decide +kernel⟩
abbrev s_calls_of : Stmt := top 16
theorem sc_calls_of : FnScope n_calls_of ["term"] (defScope s_calls_of) := ⟨rfl, rfl, rfl, by decide +kernel, rfl, by decide +kernel, by decide +kernel⟩
abbrev s_things_of : Stmt := top 17
theorem sc_things_of : FnScope n_things_of ["term"] (defScope s_things_of) := ⟨rfl, rfl, rfl, by decide +kernel, rfl, by decide +kernel, by decide +kernel⟩
abbrev s_deeds_of : Stmt := top 18
theorem sc_deeds_of : FnScope n_deeds_of ["term"] (defScope s_deeds_of) := ⟨rfl, rfl, rfl, by decide +kernel, rfl, by decide +kernel, by decide +kernel⟩
abbrev s_path_text : Stmt := top 20
theorem sc_path_text : FnScope n_path_text ["path"] (defScope s_path_text) := ⟨rfl, rfl, rfl, by decide +kernel, rfl, by decide +kernel, by decide +kernel⟩
abbrev s_write_term : Stmt := top 21
theorem sc_write_term : FnScope n_write_term ["term"] (defScope s_write_term) := ⟨rfl, rfl, rfl, by decide +kernel, rfl, by decide +kernel, by decide +kernel⟩
abbrev s_read_path : Stmt := top 23
theorem sc_read_path : FnScope n_read_path ["text"] (defScope s_read_path) := ⟨rfl, rfl, rfl, by decide +kernel, rfl, by decide +kernel, by decide +kernel⟩
abbrev s_word_end : Stmt := top 24
theorem sc_word_end : FnScope n_word_end ["text", "at"] (defScope s_word_end) := ⟨rfl, rfl, rfl, by decide +kernel, rfl, by decide +kernel, by decide +kernel⟩
abbrev s_deed_at : Stmt := top 25
theorem sc_deed_at : FnScope n_deed_at ["text", "name", "at", "depth"] (defScope s_deed_at) := ⟨rfl, rfl, rfl, by decide +kernel, rfl, by decide +kernel, by decide +kernel⟩
abbrev s_term_at : Stmt := top 26
theorem sc_term_at : FnScope n_term_at ["text", "at", "depth"] (defScope s_term_at) := ⟨rfl, rfl, rfl, by decide +kernel, rfl, by decide +kernel, by decide +kernel⟩
abbrev s_read_term : Stmt := top 27
theorem sc_read_term : FnScope n_read_term ["text", "steps"] (defScope s_read_term) := ⟨rfl, rfl, rfl, by decide +kernel, rfl, by decide +kernel, by decide +kernel⟩
abbrev s__law_whole : Stmt := top 29
theorem sc__law_whole : FnScope n__law_whole ["value"] (defScope s__law_whole) := ⟨rfl, rfl, rfl, by decide +kernel, rfl, by decide +kernel, by decide +kernel⟩
abbrev s__law_cell : Stmt := top 30
theorem sc__law_cell : FnScope n__law_cell ["script", "k"] (defScope s__law_cell) := ⟨rfl, rfl, rfl, by decide +kernel, rfl, by decide +kernel, by decide +kernel⟩
abbrev s__law_digits : Stmt := top 31
theorem sc__law_digits : FnScope n__law_digits ["cell", "sizes"] (defScope s__law_digits) := ⟨rfl, rfl, rfl, by decide +kernel, rfl, by decide +kernel, by decide +kernel⟩
abbrev s__law_same : Stmt := top 32
theorem sc__law_same : FnScope n__law_same ["value", "due"] (defScope s__law_same) := ⟨rfl, rfl, rfl, by decide +kernel, rfl, by decide +kernel, by decide +kernel⟩
abbrev s__law_path_text : Stmt := top 33
theorem sc__law_path_text : FnScope n__law_path_text ["path"] (defScope s__law_path_text) := ⟨rfl, rfl, rfl, by decide +kernel, rfl, by decide +kernel, by decide +kernel⟩
abbrev s__law_term_text : Stmt := top 34
theorem sc__law_term_text : FnScope n__law_term_text ["term"] (defScope s__law_term_text) := ⟨rfl, rfl, rfl, by decide +kernel, rfl, by decide +kernel, by decide +kernel⟩
abbrev s__law_draw_term : Stmt := top 35
theorem sc__law_draw_term : FnScope n__law_draw_term ["row", "at", "room", "steps"] (defScope s__law_draw_term) := ⟨rfl, rfl, rfl, by decide +kernel, rfl, by decide +kernel, by decide +kernel⟩
abbrev s__law_term_nodes : Stmt := top 36
theorem sc__law_term_nodes : FnScope n__law_term_nodes ["term"] (defScope s__law_term_nodes) := ⟨rfl, rfl, rfl, by decide +kernel, rfl, by decide +kernel, by decide +kernel⟩
abbrev s__law_listed : Stmt := top 37
theorem sc__law_listed : FnScope n__law_listed ["term"] (defScope s__law_listed) := ⟨rfl, rfl, rfl, by decide +kernel, rfl, by decide +kernel, by decide +kernel⟩
abbrev s_law : Stmt := top 38
theorem sc_law : FnScope n_law ["script"] (defScope s_law) := ⟨rfl, rfl, rfl, by decide +kernel, rfl, by decide +kernel, by decide +kernel⟩
structure ModF (K : PySem.W.Frag) (mg : Str → Option Value) : Prop where
  g__law_cell : mg "_law_cell" = some (.ref (He.ga K "_law_cell"))
  g__law_digits : mg "_law_digits" = some (.ref (He.ga K "_law_digits"))
  g__law_draw_term : mg "_law_draw_term" = some (.ref (He.ga K "_law_draw_term"))
  g__law_listed : mg "_law_listed" = some (.ref (He.ga K "_law_listed"))
  g__law_path_text : mg "_law_path_text" = some (.ref (He.ga K "_law_path_text"))
  g__law_same : mg "_law_same" = some (.ref (He.ga K "_law_same"))
  g__law_term_nodes : mg "_law_term_nodes" = some (.ref (He.ga K "_law_term_nodes"))
  g__law_term_text : mg "_law_term_text" = some (.ref (He.ga K "_law_term_text"))
  g__law_whole : mg "_law_whole" = some (.ref (He.ga K "_law_whole"))
  g_calls_of : mg "calls_of" = some (.ref (He.ga K "calls_of"))
  g_deed_at : mg "deed_at" = some (.ref (He.ga K "deed_at"))
  g_deeds_of : mg "deeds_of" = some (.ref (He.ga K "deeds_of"))
  g_is_body : mg "is_body" = some (.ref (He.ga K "is_body"))
  g_is_deed_name : mg "is_deed_name" = some (.ref (He.ga K "is_deed_name"))
  g_is_function_name : mg "is_function_name" = some (.ref (He.ga K "is_function_name"))
  g_is_path : mg "is_path" = some (.ref (He.ga K "is_path"))
  g_is_row : mg "is_row" = some (.ref (He.ga K "is_row"))
  g_is_shaped : mg "is_shaped" = some (.ref (He.ga K "is_shaped"))
  g_is_term : mg "is_term" = some (.ref (He.ga K "is_term"))
  g_law : mg "law" = some (.ref (He.ga K "law"))
  g_node_bound : mg "node_bound" = some (.ref (He.ga K "node_bound"))
  g_node_total : mg "node_total" = some (.ref (He.ga K "node_total"))
  g_nodes_of : mg "nodes_of" = some (.ref (He.ga K "nodes_of"))
  g_path_text : mg "path_text" = some (.ref (He.ga K "path_text"))
  g_read_path : mg "read_path" = some (.ref (He.ga K "read_path"))
  g_read_term : mg "read_term" = some (.ref (He.ga K "read_term"))
  g_term_at : mg "term_at" = some (.ref (He.ga K "term_at"))
  g_things_of : mg "things_of" = some (.ref (He.ga K "things_of"))
  g_word_end : mg "word_end" = some (.ref (He.ga K "word_end"))
  g_write_term : mg "write_term" = some (.ref (He.ga K "write_term"))
  c_CAPITALS : ∃ t, mg "CAPITALS" = some (.str "ABCDEFGHIJKLMNOPQRSTUVWXYZ" t)
  c_MOST_NODES : ∃ t, mg "MOST_NODES" = some (.int (12) t)
  c_SMALL : ∃ t, mg "SMALL" = some (.str "abcdefghijklmnopqrstuvwxyz" t)
  k__law_cell : PySem.W.keepIn K (.ref (He.ga K "_law_cell")) = true
  k__law_digits : PySem.W.keepIn K (.ref (He.ga K "_law_digits")) = true
  k__law_draw_term : PySem.W.keepIn K (.ref (He.ga K "_law_draw_term")) = true
  k__law_listed : PySem.W.keepIn K (.ref (He.ga K "_law_listed")) = true
  k__law_path_text : PySem.W.keepIn K (.ref (He.ga K "_law_path_text")) = true
  k__law_same : PySem.W.keepIn K (.ref (He.ga K "_law_same")) = true
  k__law_term_nodes : PySem.W.keepIn K (.ref (He.ga K "_law_term_nodes")) = true
  k__law_term_text : PySem.W.keepIn K (.ref (He.ga K "_law_term_text")) = true
  k__law_whole : PySem.W.keepIn K (.ref (He.ga K "_law_whole")) = true
  k_calls_of : PySem.W.keepIn K (.ref (He.ga K "calls_of")) = true
  k_deed_at : PySem.W.keepIn K (.ref (He.ga K "deed_at")) = true
  k_deeds_of : PySem.W.keepIn K (.ref (He.ga K "deeds_of")) = true
  k_is_body : PySem.W.keepIn K (.ref (He.ga K "is_body")) = true
  k_is_deed_name : PySem.W.keepIn K (.ref (He.ga K "is_deed_name")) = true
  k_is_function_name : PySem.W.keepIn K (.ref (He.ga K "is_function_name")) = true
  k_is_path : PySem.W.keepIn K (.ref (He.ga K "is_path")) = true
  k_is_row : PySem.W.keepIn K (.ref (He.ga K "is_row")) = true
  k_is_shaped : PySem.W.keepIn K (.ref (He.ga K "is_shaped")) = true
  k_is_term : PySem.W.keepIn K (.ref (He.ga K "is_term")) = true
  k_law : PySem.W.keepIn K (.ref (He.ga K "law")) = true
  k_node_bound : PySem.W.keepIn K (.ref (He.ga K "node_bound")) = true
  k_node_total : PySem.W.keepIn K (.ref (He.ga K "node_total")) = true
  k_nodes_of : PySem.W.keepIn K (.ref (He.ga K "nodes_of")) = true
  k_path_text : PySem.W.keepIn K (.ref (He.ga K "path_text")) = true
  k_read_path : PySem.W.keepIn K (.ref (He.ga K "read_path")) = true
  k_read_term : PySem.W.keepIn K (.ref (He.ga K "read_term")) = true
  k_term_at : PySem.W.keepIn K (.ref (He.ga K "term_at")) = true
  k_things_of : PySem.W.keepIn K (.ref (He.ga K "things_of")) = true
  k_word_end : PySem.W.keepIn K (.ref (He.ga K "word_end")) = true
  k_write_term : PySem.W.keepIn K (.ref (He.ga K "write_term")) = true
  f_all : mg "all" = none
  f_bool : mg "bool" = none
  f_int : mg "int" = none
  f_isinstance : mg "isinstance" = none
  f_len : mg "len" = none
  f_list : mg "list" = none
  f_min : mg "min" = none
  f_range : mg "range" = none
  f_str : mg "str" = none
  f_tuple : mg "tuple" = none
  d_is_row : ∃ fd, FunD K "is_row" "is_row" (defArgs s_is_row) (defBody s_is_row) (defScope s_is_row) [] [] (He.ga K "is_row") fd
  d_is_path : ∃ fd, FunD K "is_path" "is_path" (defArgs s_is_path) (defBody s_is_path) (defScope s_is_path) [] [] (He.ga K "is_path") fd
  d_is_function_name : ∃ fd, FunD K "is_function_name" "is_function_name" (defArgs s_is_function_name) (defBody s_is_function_name) (defScope s_is_function_name) [] [] (He.ga K "is_function_name") fd
  d_is_deed_name : ∃ fd, FunD K "is_deed_name" "is_deed_name" (defArgs s_is_deed_name) (defBody s_is_deed_name) (defScope s_is_deed_name) [] [] (He.ga K "is_deed_name") fd
  d_node_bound : ∃ fd, FunD K "node_bound" "node_bound" (defArgs s_node_bound) (defBody s_node_bound) (defScope s_node_bound) [] [] (He.ga K "node_bound") fd
  d_is_shaped : ∃ fd, FunD K "is_shaped" "is_shaped" (defArgs s_is_shaped) (defBody s_is_shaped) (defScope s_is_shaped) [] [] (He.ga K "is_shaped") fd
  d_is_term : ∃ fd, FunD K "is_term" "is_term" (defArgs s_is_term) (defBody s_is_term) (defScope s_is_term) [] [] (He.ga K "is_term") fd
  d_is_body : ∃ fd, FunD K "is_body" "is_body" (defArgs s_is_body) (defBody s_is_body) (defScope s_is_body) [] [] (He.ga K "is_body") fd
  d_nodes_of : ∃ fd, FunD K "nodes_of" "nodes_of" (defArgs s_nodes_of) (defBody s_nodes_of) (defScope s_nodes_of) [] [] (He.ga K "nodes_of") fd
  d_node_total : ∃ fd, FunD K "node_total" "node_total" (defArgs s_node_total) (defBody s_node_total) (defScope s_node_total) [] [] (He.ga K "node_total") fd
  d_calls_of : ∃ fd, FunD K "calls_of" "calls_of" (defArgs s_calls_of) (defBody s_calls_of) (defScope s_calls_of) [] [] (He.ga K "calls_of") fd
  d_things_of : ∃ fd, FunD K "things_of" "things_of" (defArgs s_things_of) (defBody s_things_of) (defScope s_things_of) [] [] (He.ga K "things_of") fd
  d_deeds_of : ∃ fd, FunD K "deeds_of" "deeds_of" (defArgs s_deeds_of) (defBody s_deeds_of) (defScope s_deeds_of) [] [] (He.ga K "deeds_of") fd
  d_path_text : ∃ fd, FunD K "path_text" "path_text" (defArgs s_path_text) (defBody s_path_text) (defScope s_path_text) [] [] (He.ga K "path_text") fd
  d_write_term : ∃ fd, FunD K "write_term" "write_term" (defArgs s_write_term) (defBody s_write_term) (defScope s_write_term) [] [] (He.ga K "write_term") fd
  d_read_path : ∃ fd, FunD K "read_path" "read_path" (defArgs s_read_path) (defBody s_read_path) (defScope s_read_path) [] [] (He.ga K "read_path") fd
  d_word_end : ∃ fd, FunD K "word_end" "word_end" (defArgs s_word_end) (defBody s_word_end) (defScope s_word_end) [] [] (He.ga K "word_end") fd
  d_deed_at : ∃ fd, FunD K "deed_at" "deed_at" (defArgs s_deed_at) (defBody s_deed_at) (defScope s_deed_at) [] [] (He.ga K "deed_at") fd
  d_term_at : ∃ fd, FunD K "term_at" "term_at" (defArgs s_term_at) (defBody s_term_at) (defScope s_term_at) [] [] (He.ga K "term_at") fd
  d_read_term : ∃ fd, FunD K "read_term" "read_term" (defArgs s_read_term) (defBody s_read_term) (defScope s_read_term) [] [] (He.ga K "read_term") fd
  d__law_whole : ∃ fd, FunD K "_law_whole" "_law_whole" (defArgs s__law_whole) (defBody s__law_whole) (defScope s__law_whole) [] [] (He.ga K "_law_whole") fd
  d__law_cell : ∃ fd, FunD K "_law_cell" "_law_cell" (defArgs s__law_cell) (defBody s__law_cell) (defScope s__law_cell) [] [] (He.ga K "_law_cell") fd
  d__law_digits : ∃ fd, FunD K "_law_digits" "_law_digits" (defArgs s__law_digits) (defBody s__law_digits) (defScope s__law_digits) [] [] (He.ga K "_law_digits") fd
  d__law_same : ∃ fd, FunD K "_law_same" "_law_same" (defArgs s__law_same) (defBody s__law_same) (defScope s__law_same) [] [] (He.ga K "_law_same") fd
  d__law_path_text : ∃ fd, FunD K "_law_path_text" "_law_path_text" (defArgs s__law_path_text) (defBody s__law_path_text) (defScope s__law_path_text) [] [] (He.ga K "_law_path_text") fd
  d__law_term_text : ∃ fd, FunD K "_law_term_text" "_law_term_text" (defArgs s__law_term_text) (defBody s__law_term_text) (defScope s__law_term_text) [] [] (He.ga K "_law_term_text") fd
  d__law_draw_term : ∃ fd, FunD K "_law_draw_term" "_law_draw_term" (defArgs s__law_draw_term) (defBody s__law_draw_term) (defScope s__law_draw_term) [] [] (He.ga K "_law_draw_term") fd
  d__law_term_nodes : ∃ fd, FunD K "_law_term_nodes" "_law_term_nodes" (defArgs s__law_term_nodes) (defBody s__law_term_nodes) (defScope s__law_term_nodes) [] [] (He.ga K "_law_term_nodes") fd
  d__law_listed : ∃ fd, FunD K "_law_listed" "_law_listed" (defArgs s__law_listed) (defBody s__law_listed) (defScope s__law_listed) [] [] (He.ga K "_law_listed") fd
  d_law : ∃ fd, FunD K "law" "law" (defArgs s_law) (defBody s_law) (defScope s_law) [] [] (He.ga K "law") fd
section
variable {P : Program} {w : World} {K : PySem.W.Frag} {mg : Str → Option Value} {base : Heap}
theorem ok_is_row {k : Nat} {sp : Sp} (Z : ModF K mg) (len : ∀ vs H Q E, sp vs H Q E → vs.length = 1) (pure : ∀ vs H Q E, sp vs H Q E → t_is_row K { nx := fun _ H' => Q .non H', rt := Q } (L2.start n_is_row vs) H) : FnR P w K mg base CX0 (k + 1) (He.ga K "is_row") sp := by
  obtain ⟨fd, F⟩ := Z.d_is_row
  have b : Binds K fd ["value"] [] := F.bindsN fun _ _ _ _ _ _ us hl => match us, hl with | [_], _ => rfl
  refine (FnOk.raw (F.ok (CX := CX0) sc_is_row len fun cdv A outer s H vs Q E hr h => ⟨t_is_row K, PSs.nox ?_, pure vs H Q E h⟩) b .nil).imp fun vs H Q E h => (List.append_nil vs).symm ▸ h
  have hu := hr.units
  have hu2 := units65 hr
  have hr0 := hr.mono (j := k) (by omega)
  exact (pss_one (ps_ret (pe_callB c_isi (by rfl) Z.f_isinstance (by decide +kernel) (pa_cons (pv 0) (pa_cons (pe_tup (pa_cons (pe_bltn (by rfl) Z.f_list (by decide +kernel) rfl) (pa_cons (pe_bltn (by rfl) Z.f_tuple (by decide +kernel) rfl) pa_nil))) pa_nil)))))
theorem ok_is_path {k : Nat} {sp : Sp} (Z : ModF K mg) (len : ∀ vs H Q E, sp vs H Q E → vs.length = 2) (pure : ∀ vs H Q E, sp vs H Q E → t_is_path K { nx := fun _ H' => Q .non H', rt := Q } (L2.start n_is_path vs) H) : FnR P w K mg base CX0 (k + 1) (He.ga K "is_path") sp := by
  obtain ⟨fd, F⟩ := Z.d_is_path
  have b : Binds K fd ["value", "steps"] [] := F.bindsN fun _ _ _ _ _ _ us hl => match us, hl with | [_, _], _ => rfl
  refine (FnOk.raw (F.ok (CX := CX0) sc_is_path len fun cdv A outer s H vs Q E hr h => ⟨t_is_path K, PSs.nox ?_, pure vs H Q E h⟩) b .nil).imp fun vs H Q E h => (List.append_nil vs).symm ▸ h
  have hu := hr.units
  have hu2 := units65 hr
  have hr0 := hr.mono (j := k) (by omega)
  exact (pss_cons (ps_if (pt_not (pt_truth (pe_callB c_isi (by rfl) Z.f_isinstance (by decide +kernel) (pa_cons (pv 0) (pa_cons (pe_bltn (by rfl) Z.f_str (by decide +kernel) rfl) pa_nil))) (by intro _; rfl)))
  (pss_one (ps_ret pe_bl))
  pss_nil)
  (pss_one (ps_ret (pe_callB (cr_all rfl) (by rfl) Z.f_all (by decide +kernel) (pa_cons (pe_lc (own := [("letter", 2)]) rfl sc_is_path.nd (pi_any (pv 0)) (blkOk_by (N := n_is_path) (sc := defScope s_is_path) (own := [("letter", 2)]) (by decide +kernel)) (fun _ _ _ _ _ => (pg_name (i := 2) sc_is_path.nd rfl (by first | exact .inl rfl | exact .inr rfl))) (fun _ _ _ _ _ => pts_nil) (fun _ _ _ _ _ => (pe_cmpR (o_in hu2) (pv 2) (pv 1) (by rfl)))) pa_nil)))))
theorem ok_is_function_name {k : Nat} {sp : Sp} (Z : ModF K mg) (len : ∀ vs H Q E, sp vs H Q E → vs.length = 1) (pure : ∀ vs H Q E, sp vs H Q E → t_is_function_name K { nx := fun _ H' => Q .non H', rt := Q } (L2.start n_is_function_name vs) H) : FnR P w K mg base CX0 (k + 1) (He.ga K "is_function_name") sp := by
  obtain ⟨fd, F⟩ := Z.d_is_function_name
  have b : Binds K fd ["value"] [] := F.bindsN fun _ _ _ _ _ _ us hl => match us, hl with | [_], _ => rfl
  refine (FnOk.raw (F.ok (CX := CX0) sc_is_function_name len fun cdv A outer s H vs Q E hr h => ⟨t_is_function_name K, PSs.nox ?_, pure vs H Q E h⟩) b .nil).imp fun vs H Q E h => (List.append_nil vs).symm ▸ h
  have hu := hr.units
  have hu2 := units65 hr
  have hr0 := hr.mono (j := k) (by omega)
  exact (pss_cons (ps_if (PW.pt (pw_or (pt_not (pt_truth (pe_callB c_isi (by rfl) Z.f_isinstance (by decide +kernel) (pa_cons (pv 0) (pa_cons (pe_bltn (by rfl) Z.f_str (by decide +kernel) rfl) pa_nil))) (by intro _; rfl))) (pw_or (pt_not (pt_chain o_le o_le pe_int (pe_callB c_len (by rfl) Z.f_len (by decide +kernel) (pa_cons (pv 0) pa_nil)) pe_int)) (pw_or1 (pt_cmpR (o_notin hu2) (pe_ix (o_ix hu) (pv 0) pe_int (fun _ _ => rfl)) (pe_glob (by rfl) Z.c_CAPITALS.choose_spec ⟨_, rfl⟩) (by rfl))))))
  (pss_one (ps_ret pe_bl))
  pss_nil)
  (pss_one (ps_ret (pe_callB (cr_all rfl) (by rfl) Z.f_all (by decide +kernel) (pa_cons (pe_lc (own := [("letter", 1)]) rfl sc_is_function_name.nd (pi_any (pe_slice s_any (pv 0) (po_some pe_int) po_none)) (blkOk_by (N := n_is_function_name) (sc := defScope s_is_function_name) (own := [("letter", 1)]) (by decide +kernel)) (fun _ _ _ _ _ => (pg_name (i := 1) sc_is_function_name.nd rfl (by first | exact .inl rfl | exact .inr rfl))) (fun _ _ _ _ _ => pts_nil) (fun _ _ _ _ _ => (pe_cmpR (o_in hu2) (pv 1) (pe_glob (by rfl) Z.c_SMALL.choose_spec ⟨_, rfl⟩) (by rfl)))) pa_nil)))))
theorem ok_is_deed_name {k : Nat} {sp : Sp} (Z : ModF K mg) (len : ∀ vs H Q E, sp vs H Q E → vs.length = 1) (pure : ∀ vs H Q E, sp vs H Q E → t_is_deed_name K { nx := fun _ H' => Q .non H', rt := Q } (L2.start n_is_deed_name vs) H) : FnR P w K mg base CX0 (k + 1) (He.ga K "is_deed_name") sp := by
  obtain ⟨fd, F⟩ := Z.d_is_deed_name
  have b : Binds K fd ["value"] [] := F.bindsN fun _ _ _ _ _ _ us hl => match us, hl with | [_], _ => rfl
  refine (FnOk.raw (F.ok (CX := CX0) sc_is_deed_name len fun cdv A outer s H vs Q E hr h => ⟨t_is_deed_name K, PSs.nox ?_, pure vs H Q E h⟩) b .nil).imp fun vs H Q E h => (List.append_nil vs).symm ▸ h
  have hu := hr.units
  have hu2 := units65 hr
  have hr0 := hr.mono (j := k) (by omega)
  exact (pss_cons (ps_if (PW.pt (pw_or (pt_not (pt_truth (pe_callB c_isi (by rfl) Z.f_isinstance (by decide +kernel) (pa_cons (pv 0) (pa_cons (pe_bltn (by rfl) Z.f_str (by decide +kernel) rfl) pa_nil))) (by intro _; rfl))) (pw_or1 (pt_not (pt_chain o_le o_le pe_int (pe_callB c_len (by rfl) Z.f_len (by decide +kernel) (pa_cons (pv 0) pa_nil)) pe_int)))))
  (pss_one (ps_ret pe_bl))
  pss_nil)
  (pss_one (ps_ret (pe_callB (cr_all rfl) (by rfl) Z.f_all (by decide +kernel) (pa_cons (pe_lc (own := [("letter", 1)]) rfl sc_is_deed_name.nd (pi_any (pv 0)) (blkOk_by (N := n_is_deed_name) (sc := defScope s_is_deed_name) (own := [("letter", 1)]) (by decide +kernel)) (fun _ _ _ _ _ => (pg_name (i := 1) sc_is_deed_name.nd rfl (by first | exact .inl rfl | exact .inr rfl))) (fun _ _ _ _ _ => pts_nil) (fun _ _ _ _ _ => (pe_cmpR (o_in hu2) (pv 1) (pe_glob (by rfl) Z.c_SMALL.choose_spec ⟨_, rfl⟩) (by rfl)))) pa_nil)))))
theorem ok_node_bound {k : Nat} {sp sp_is_row sp_node_bound : Sp} (Z : ModF K mg) (c_is_row : FnR P w K mg base CX0 k (He.ga K "is_row") sp_is_row) (c_node_bound : FnR P w K mg base CX0 k (He.ga K "node_bound") sp_node_bound) (len : ∀ vs H Q E, sp vs H Q E → vs.length = 2) (pure : ∀ vs H Q E, sp vs H Q E → t_node_bound K sp_is_row sp_node_bound { nx := fun _ H' => Q .non H', rt := Q } (L2.start n_node_bound vs) H) : FnR P w K mg base CX0 (k + 1) (He.ga K "node_bound") sp := by
  obtain ⟨fd, F⟩ := Z.d_node_bound
  have b : Binds K fd ["value", "room"] [] := F.bindsN fun _ _ _ _ _ _ us hl => match us, hl with | [_, _], _ => rfl
  refine (FnOk.raw (F.ok (CX := CX0) sc_node_bound len fun cdv A outer s H vs Q E hr h => ⟨t_node_bound K sp_is_row sp_node_bound, PSs.nox ?_, pure vs H Q E h⟩) b .nil).imp fun vs H Q E h => (List.append_nil vs).symm ▸ h
  have hu := hr.units
  have hu2 := units65 hr
  have hr0 := hr.mono (j := k) (by omega)
  exact (pss_cons (ps_if (PW.pt (pw_or (pt_cmpR o_le (pv 1) pe_int (nomark _)) (pw_or (pt_not (pt_truth (pe_callR c_is_row hr0 (by rfl) Z.g_is_row Z.k_is_row pass0 (pa_cons (pv 0) pa_nil)) (by intro _; rfl))) (pw_or (pt_cmpR (o_ne hu) (pe_callB c_len (by rfl) Z.f_len (by decide +kernel) (pa_cons (pv 0) pa_nil)) pe_int (nomark _)) (pw_or1 (pt_not (pt_truth (pe_callR c_is_row hr0 (by rfl) Z.g_is_row Z.k_is_row pass0 (pa_cons (pe_ix (o_ix hu) (pv 0) pe_int (fun _ _ => rfl)) pa_nil)) (by intro _; rfl))))))))
  (pss_one (ps_ret pe_int))
  pss_nil)
  (pss_cons (ps_set (i := 2) sc_node_bound.nd rfl (by first | exact .inl rfl | exact .inr rfl) pe_int)
  (pss_cons (ps_for PassesOwn.never rfl (pi_any (pe_ix (o_ix hu) (pv 0) pe_int (fun _ _ => rfl))) (pg_name (i := 3) sc_node_bound.nd rfl (by first | exact .inl rfl | exact .inr rfl))
  (pss_cons (ps_set (i := 2) sc_node_bound.nd rfl (by first | exact .inl rfl | exact .inr rfl) (pe_op o_add (pv 2) (pe_callR c_node_bound hr0 (by rfl) Z.g_node_bound Z.k_node_bound pass0 (pa_cons (pv 3) (pa_cons (pe_op o_sub (pv 1) (pv 2)) pa_nil)))))
  (pss_one (ps_if (pt_cmpR o_gt (pv 2) (pv 1) (nomark _))
  (pss_one ps_break)
  pss_nil))))
  (pss_one (ps_ret (pv 2))))))
theorem ok_is_shaped {k : Nat} {sp sp_is_deed_name sp_is_function_name sp_is_path sp_is_row sp_is_shaped : Sp} (Z : ModF K mg) (c_is_deed_name : FnR P w K mg base CX0 k (He.ga K "is_deed_name") sp_is_deed_name) (c_is_function_name : FnR P w K mg base CX0 k (He.ga K "is_function_name") sp_is_function_name) (c_is_path : FnR P w K mg base CX0 k (He.ga K "is_path") sp_is_path) (c_is_row : FnR P w K mg base CX0 k (He.ga K "is_row") sp_is_row) (c_is_shaped : FnR P w K mg base CX0 k (He.ga K "is_shaped") sp_is_shaped) (len : ∀ vs H Q E, sp vs H Q E → vs.length = 2) (pure : ∀ vs H Q E, sp vs H Q E → t_is_shaped K sp_is_deed_name sp_is_function_name sp_is_path sp_is_row sp_is_shaped { nx := fun _ H' => Q .non H', rt := Q } (L2.start n_is_shaped vs) H) : FnR P w K mg base CX0 (k + 1) (He.ga K "is_shaped") sp := by
  obtain ⟨fd, F⟩ := Z.d_is_shaped
  have b : Binds K fd ["value", "steps"] [] := F.bindsN fun _ _ _ _ _ _ us hl => match us, hl with | [_, _], _ => rfl
  refine (FnOk.raw (F.ok (CX := CX0) sc_is_shaped len fun cdv A outer s H vs Q E hr h => ⟨t_is_shaped K sp_is_deed_name sp_is_function_name sp_is_path sp_is_row sp_is_shaped, PSs.nox ?_, pure vs H Q E h⟩) b .nil).imp fun vs H Q E h => (List.append_nil vs).symm ▸ h
  have hu := hr.units
  have hu2 := units65 hr
  have hr0 := hr.mono (j := k) (by omega)
  exact (pss_cons (ps_if (PW.pt (pw_or (pt_not (pt_truth (pe_callR c_is_row hr0 (by rfl) Z.g_is_row Z.k_is_row pass0 (pa_cons (pv 0) pa_nil)) (by intro _; rfl))) (pw_or (pt_not (pt_chain o_le o_le pe_int (pe_callB c_len (by rfl) Z.f_len (by decide +kernel) (pa_cons (pv 0) pa_nil)) pe_int)) (pw_or1 (pt_not (pt_truth (pe_callB c_isi (by rfl) Z.f_isinstance (by decide +kernel) (pa_cons (pe_ix (o_ix hu) (pv 0) pe_int (fun _ _ => rfl)) (pa_cons (pe_bltn (by rfl) Z.f_str (by decide +kernel) rfl) pa_nil))) (by intro _; rfl)))))))
  (pss_one (ps_ret pe_bl))
  pss_nil)
  (pss_cons (ps_if (pt_cmpR (o_eq hu) (pe_ix (o_ix hu) (pv 0) pe_int (fun _ _ => rfl)) pe_str (nomark _))
  (pss_one (ps_ret (pe_andT (pe_cmpR (o_eq hu) (pe_callB c_len (by rfl) Z.f_len (by decide +kernel) (pa_cons (pv 0) pa_nil)) pe_int (nomark _)) (pe_andT (pe_callR c_is_path hr0 (by rfl) Z.g_is_path Z.k_is_path pass0 (pa_cons (pe_ix (o_ix hu) (pv 0) pe_int (fun _ _ => rfl)) (pa_cons (pv 1) pa_nil))) (pe_one (pe_cmpR o_le (pe_callB c_len (by rfl) Z.f_len (by decide +kernel) (pa_cons (pe_ix (o_ix hu) (pv 0) pe_int (fun _ _ => rfl)) pa_nil)) pe_int (nomark _)))))))
  pss_nil)
  (pss_cons (ps_if (pt_cmpR (o_ne hu) (pe_callB c_len (by rfl) Z.f_len (by decide +kernel) (pa_cons (pv 0) pa_nil)) pe_int (nomark _))
  (pss_one (ps_ret pe_bl))
  pss_nil)
  (pss_cons (ps_if (pt_cmpR (o_eq hu) (pe_ix (o_ix hu) (pv 0) pe_int (fun _ _ => rfl)) pe_str (nomark _))
  (pss_one (ps_ret (pe_andT (pe_callR c_is_function_name hr0 (by rfl) Z.g_is_function_name Z.k_is_function_name pass0 (pa_cons (pe_ix (o_ix hu) (pv 0) pe_int (fun _ _ => rfl)) pa_nil)) (pe_andT (pe_callR c_is_path hr0 (by rfl) Z.g_is_path Z.k_is_path pass0 (pa_cons (pe_ix (o_ix hu) (pv 0) pe_int (fun _ _ => rfl)) (pa_cons (pv 1) pa_nil))) (pe_one (pe_cmpR o_le (pe_callB c_len (by rfl) Z.f_len (by decide +kernel) (pa_cons (pe_ix (o_ix hu) (pv 0) pe_int (fun _ _ => rfl)) pa_nil)) pe_int (nomark _)))))))
  pss_nil)
  (pss_cons (ps_if (PW.pt (pw_or (pt_cmpR (o_ne hu) (pe_ix (o_ix hu) (pv 0) pe_int (fun _ _ => rfl)) pe_str (nomark _)) (pw_or (pt_not (pt_truth (pe_callR c_is_deed_name hr0 (by rfl) Z.g_is_deed_name Z.k_is_deed_name pass0 (pa_cons (pe_ix (o_ix hu) (pv 0) pe_int (fun _ _ => rfl)) pa_nil)) (by intro _; rfl))) (pw_or (pt_not (pt_truth (pe_callR c_is_row hr0 (by rfl) Z.g_is_row Z.k_is_row pass0 (pa_cons (pe_ix (o_ix hu) (pv 0) pe_int (fun _ _ => rfl)) pa_nil)) (by intro _; rfl))) (pw_or1 (pt_cmpR o_gt (pe_callB c_len (by rfl) Z.f_len (by decide +kernel) (pa_cons (pe_ix (o_ix hu) (pv 0) pe_int (fun _ _ => rfl)) pa_nil)) pe_int (nomark _)))))))
  (pss_one (ps_ret pe_bl))
  pss_nil)
  (pss_one (ps_ret (pe_callB (cr_all rfl) (by rfl) Z.f_all (by decide +kernel) (pa_cons (pe_lc (own := [("part", 2)]) rfl sc_is_shaped.nd (pi_any (pe_ix (o_ix hu) (pv 0) pe_int (fun _ _ => rfl))) (blkOk_by (N := n_is_shaped) (sc := defScope s_is_shaped) (own := [("part", 2)]) (by decide +kernel)) (fun _ _ _ _ _ => (pg_name (i := 2) sc_is_shaped.nd rfl (by first | exact .inl rfl | exact .inr rfl))) (fun _ _ _ _ _ => pts_nil) (fun _ _ _ _ _ => (pe_callR c_is_shaped hr0 (by rfl) Z.g_is_shaped Z.k_is_shaped pass0 (pa_cons (pv 2) (pa_cons (pv 1) pa_nil))))) pa_nil)))))))))
theorem ok_is_term {k : Nat} {sp sp_is_shaped sp_node_bound : Sp} (Z : ModF K mg) (c_is_shaped : FnR P w K mg base CX0 k (He.ga K "is_shaped") sp_is_shaped) (c_node_bound : FnR P w K mg base CX0 k (He.ga K "node_bound") sp_node_bound) (len : ∀ vs H Q E, sp vs H Q E → vs.length = 2) (pure : ∀ vs H Q E, sp vs H Q E → t_is_term K sp_is_shaped sp_node_bound { nx := fun _ H' => Q .non H', rt := Q } (L2.start n_is_term vs) H) : FnR P w K mg base CX0 (k + 1) (He.ga K "is_term") sp := by
  obtain ⟨fd, F⟩ := Z.d_is_term
  have b : Binds K fd ["value", "steps"] [] := F.bindsN fun _ _ _ _ _ _ us hl => match us, hl with | [_, _], _ => rfl
  refine (FnOk.raw (F.ok (CX := CX0) sc_is_term len fun cdv A outer s H vs Q E hr h => ⟨t_is_term K sp_is_shaped sp_node_bound, PSs.nox ?_, pure vs H Q E h⟩) b .nil).imp fun vs H Q E h => (List.append_nil vs).symm ▸ h
  have hu := hr.units
  have hu2 := units65 hr
  have hr0 := hr.mono (j := k) (by omega)
  exact (pss_one (ps_ret (pe_andT (pe_cmpR o_le (pe_callR c_node_bound hr0 (by rfl) Z.g_node_bound Z.k_node_bound pass0 (pa_cons (pv 0) (pa_cons (pe_glob (by rfl) Z.c_MOST_NODES.choose_spec ⟨_, rfl⟩) pa_nil))) (pe_glob (by rfl) Z.c_MOST_NODES.choose_spec ⟨_, rfl⟩) (nomark _)) (pe_one (pe_callR c_is_shaped hr0 (by rfl) Z.g_is_shaped Z.k_is_shaped pass0 (pa_cons (pv 0) (pa_cons (pv 1) pa_nil)))))))
theorem ok_is_body {k : Nat} {sp sp_is_term : Sp} (Z : ModF K mg) (c_is_term : FnR P w K mg base CX0 k (He.ga K "is_term") sp_is_term) (len : ∀ vs H Q E, sp vs H Q E → vs.length = 2) (pure : ∀ vs H Q E, sp vs H Q E → t_is_body K sp_is_term { nx := fun _ H' => Q .non H', rt := Q } (L2.start n_is_body vs) H) : FnR P w K mg base CX0 (k + 1) (He.ga K "is_body") sp := by
  obtain ⟨fd, F⟩ := Z.d_is_body
  have b : Binds K fd ["value", "steps"] [] := F.bindsN fun _ _ _ _ _ _ us hl => match us, hl with | [_, _], _ => rfl
  refine (FnOk.raw (F.ok (CX := CX0) sc_is_body len fun cdv A outer s H vs Q E hr h => ⟨t_is_body K sp_is_term, PSs.nox ?_, pure vs H Q E h⟩) b .nil).imp fun vs H Q E h => (List.append_nil vs).symm ▸ h
  have hu := hr.units
  have hu2 := units65 hr
  have hr0 := hr.mono (j := k) (by omega)
  exact (pss_one (ps_ret (pe_andT (pe_callR c_is_term hr0 (by rfl) Z.g_is_term Z.k_is_term pass0 (pa_cons (pv 0) (pa_cons (pv 1) pa_nil))) (pe_one (pe_cmpR (o_ne hu) (pe_ix (o_ix hu) (pv 0) pe_int (fun _ _ => rfl)) pe_str (nomark _))))))
theorem ok_nodes_of {k : Nat} {sp sp_nodes_of : Sp} (Z : ModF K mg) (c_nodes_of : FnR P w K mg base CX0 k (He.ga K "nodes_of") sp_nodes_of) (len : ∀ vs H Q E, sp vs H Q E → vs.length = 1) (pure : ∀ vs H Q E, sp vs H Q E → t_nodes_of K sp_nodes_of { nx := fun _ H' => Q .non H', rt := Q } (L2.start n_nodes_of vs) H) : FnR P w K mg base CX0 (k + 1) (He.ga K "nodes_of") sp := by
  obtain ⟨fd, F⟩ := Z.d_nodes_of
  have b : Binds K fd ["term"] [] := F.bindsN fun _ _ _ _ _ _ us hl => match us, hl with | [_], _ => rfl
  refine (FnOk.raw (F.ok (CX := CX0) sc_nodes_of len fun cdv A outer s H vs Q E hr h => ⟨t_nodes_of K sp_nodes_of, PSs.nox ?_, pure vs H Q E h⟩) b .nil).imp fun vs H Q E h => (List.append_nil vs).symm ▸ h
  have hu := hr.units
  have hu2 := units65 hr
  have hr0 := hr.mono (j := k) (by omega)
  exact (pss_cons (ps_set (i := 1) sc_nodes_of.nd rfl (by first | exact .inl rfl | exact .inr rfl) (pe_lst (pa_cons (pv 0) pa_nil)))
  (pss_cons (ps_if (pt_cmpR (o_eq hu) (pe_ix (o_ix hu) (pv 0) pe_int (fun _ _ => rfl)) pe_str (nomark _))
  (pss_one (ps_for PassesOwn.never rfl (pi_any (pe_ix (o_ix hu) (pv 0) pe_int (fun _ _ => rfl))) (pg_name (i := 2) sc_nodes_of.nd rfl (by first | exact .inl rfl | exact .inr rfl))
  (pss_one (ps_expr (pe_bm PySem.F.plainAttrs_list PySem.F.slot_list_extend PySem.F.type_list_extend m_extend (pv 1) (pa_cons (pe_callR c_nodes_of hr0 (by rfl) Z.g_nodes_of Z.k_nodes_of pass0 (pa_cons (pv 2) pa_nil)) pa_nil))))))
  pss_nil)
  (pss_one (ps_ret (pv 1)))))
theorem ok_node_total {k : Nat} {sp sp_nodes_of : Sp} (Z : ModF K mg) (c_nodes_of : FnR P w K mg base CX0 k (He.ga K "nodes_of") sp_nodes_of) (len : ∀ vs H Q E, sp vs H Q E → vs.length = 1) (pure : ∀ vs H Q E, sp vs H Q E → t_node_total K sp_nodes_of { nx := fun _ H' => Q .non H', rt := Q } (L2.start n_node_total vs) H) : FnR P w K mg base CX0 (k + 1) (He.ga K "node_total") sp := by
  obtain ⟨fd, F⟩ := Z.d_node_total
  have b : Binds K fd ["term"] [] := F.bindsN fun _ _ _ _ _ _ us hl => match us, hl with | [_], _ => rfl
  refine (FnOk.raw (F.ok (CX := CX0) sc_node_total len fun cdv A outer s H vs Q E hr h => ⟨t_node_total K sp_nodes_of, PSs.nox ?_, pure vs H Q E h⟩) b .nil).imp fun vs H Q E h => (List.append_nil vs).symm ▸ h
  have hu := hr.units
  have hu2 := units65 hr
  have hr0 := hr.mono (j := k) (by omega)
  exact (pss_one (ps_ret (pe_callB c_len (by rfl) Z.f_len (by decide +kernel) (pa_cons (pe_callR c_nodes_of hr0 (by rfl) Z.g_nodes_of Z.k_nodes_of pass0 (pa_cons (pv 0) pa_nil)) pa_nil))))
theorem ok_calls_of {k : Nat} {sp sp_nodes_of : Sp} (Z : ModF K mg) (c_nodes_of : FnR P w K mg base CX0 k (He.ga K "nodes_of") sp_nodes_of) (len : ∀ vs H Q E, sp vs H Q E → vs.length = 1) (pure : ∀ vs H Q E, sp vs H Q E → t_calls_of K sp_nodes_of { nx := fun _ H' => Q .non H', rt := Q } (L2.start n_calls_of vs) H) : FnR P w K mg base CX0 (k + 1) (He.ga K "calls_of") sp := by
  obtain ⟨fd, F⟩ := Z.d_calls_of
  have b : Binds K fd ["term"] [] := F.bindsN fun _ _ _ _ _ _ us hl => match us, hl with | [_], _ => rfl
  refine (FnOk.raw (F.ok (CX := CX0) sc_calls_of len fun cdv A outer s H vs Q E hr h => ⟨t_calls_of K sp_nodes_of, PSs.nox ?_, pure vs H Q E h⟩) b .nil).imp fun vs H Q E h => (List.append_nil vs).symm ▸ h
  have hu := hr.units
  have hu2 := units65 hr
  have hr0 := hr.mono (j := k) (by omega)
  exact (pss_one (ps_ret (pe_callTy c_tuple (by rfl) Z.f_tuple (by decide +kernel) (pa_cons (pe_lc (own := [("node", 1)]) rfl sc_calls_of.nd (pi_any (pe_callR c_nodes_of hr0 (by rfl) Z.g_nodes_of Z.k_nodes_of pass0 (pa_cons (pv 0) pa_nil))) (blkOk_by (N := n_calls_of) (sc := defScope s_calls_of) (own := [("node", 1)]) (by decide +kernel)) (fun _ _ _ _ _ => (pg_name (i := 1) sc_calls_of.nd rfl (by first | exact .inl rfl | exact .inr rfl))) (fun _ _ _ _ _ => (pts_one (pt_cmpR (o_eq hu) (pe_ix (o_ix hu) (pv 1) pe_int (fun _ _ => rfl)) pe_str (nomark _)))) (fun _ _ _ _ _ => (pe_tup (pa_cons (pe_ix (o_ix hu) (pv 1) pe_int (fun _ _ => rfl)) (pa_cons (pe_ix (o_ix hu) (pv 1) pe_int (fun _ _ => rfl)) pa_nil))))) pa_nil))))
theorem ok_things_of {k : Nat} {sp sp_nodes_of : Sp} (Z : ModF K mg) (c_nodes_of : FnR P w K mg base CX0 k (He.ga K "nodes_of") sp_nodes_of) (len : ∀ vs H Q E, sp vs H Q E → vs.length = 1) (pure : ∀ vs H Q E, sp vs H Q E → t_things_of K sp_nodes_of { nx := fun _ H' => Q .non H', rt := Q } (L2.start n_things_of vs) H) : FnR P w K mg base CX0 (k + 1) (He.ga K "things_of") sp := by
  obtain ⟨fd, F⟩ := Z.d_things_of
  have b : Binds K fd ["term"] [] := F.bindsN fun _ _ _ _ _ _ us hl => match us, hl with | [_], _ => rfl
  refine (FnOk.raw (F.ok (CX := CX0) sc_things_of len fun cdv A outer s H vs Q E hr h => ⟨t_things_of K sp_nodes_of, PSs.nox ?_, pure vs H Q E h⟩) b .nil).imp fun vs H Q E h => (List.append_nil vs).symm ▸ h
  have hu := hr.units
  have hu2 := units65 hr
  have hr0 := hr.mono (j := k) (by omega)
  exact (pss_one (ps_ret (pe_callTy c_tuple (by rfl) Z.f_tuple (by decide +kernel) (pa_cons (pe_lc (own := [("node", 1)]) rfl sc_things_of.nd (pi_any (pe_callR c_nodes_of hr0 (by rfl) Z.g_nodes_of Z.k_nodes_of pass0 (pa_cons (pv 0) pa_nil))) (blkOk_by (N := n_things_of) (sc := defScope s_things_of) (own := [("node", 1)]) (by decide +kernel)) (fun _ _ _ _ _ => (pg_name (i := 1) sc_things_of.nd rfl (by first | exact .inl rfl | exact .inr rfl))) (fun _ _ _ _ _ => (pts_one (pt_cmpR (o_eq hu) (pe_ix (o_ix hu) (pv 1) pe_int (fun _ _ => rfl)) pe_str (nomark _)))) (fun _ _ _ _ _ => (pe_ix (o_ix hu) (pv 1) pe_int (fun _ _ => rfl)))) pa_nil))))
theorem ok_deeds_of {k : Nat} {sp sp_nodes_of : Sp} (Z : ModF K mg) (c_nodes_of : FnR P w K mg base CX0 k (He.ga K "nodes_of") sp_nodes_of) (len : ∀ vs H Q E, sp vs H Q E → vs.length = 1) (pure : ∀ vs H Q E, sp vs H Q E → t_deeds_of K sp_nodes_of { nx := fun _ H' => Q .non H', rt := Q } (L2.start n_deeds_of vs) H) : FnR P w K mg base CX0 (k + 1) (He.ga K "deeds_of") sp := by
  obtain ⟨fd, F⟩ := Z.d_deeds_of
  have b : Binds K fd ["term"] [] := F.bindsN fun _ _ _ _ _ _ us hl => match us, hl with | [_], _ => rfl
  refine (FnOk.raw (F.ok (CX := CX0) sc_deeds_of len fun cdv A outer s H vs Q E hr h => ⟨t_deeds_of K sp_nodes_of, PSs.nox ?_, pure vs H Q E h⟩) b .nil).imp fun vs H Q E h => (List.append_nil vs).symm ▸ h
  have hu := hr.units
  have hu2 := units65 hr
  have hr0 := hr.mono (j := k) (by omega)
  exact (pss_one (ps_ret (pe_callTy c_tuple (by rfl) Z.f_tuple (by decide +kernel) (pa_cons (pe_lc (own := [("node", 1)]) rfl sc_deeds_of.nd (pi_any (pe_callR c_nodes_of hr0 (by rfl) Z.g_nodes_of Z.k_nodes_of pass0 (pa_cons (pv 0) pa_nil))) (blkOk_by (N := n_deeds_of) (sc := defScope s_deeds_of) (own := [("node", 1)]) (by decide +kernel)) (fun _ _ _ _ _ => (pg_name (i := 1) sc_deeds_of.nd rfl (by first | exact .inl rfl | exact .inr rfl))) (fun _ _ _ _ _ => (pts_one (pt_cmpR (o_eq hu) (pe_ix (o_ix hu) (pv 1) pe_int (fun _ _ => rfl)) pe_str (nomark _)))) (fun _ _ _ _ _ => (pe_tup (pa_cons (pe_ix (o_ix hu) (pv 1) pe_int (fun _ _ => rfl)) (pa_cons (pe_callB c_len (by rfl) Z.f_len (by decide +kernel) (pa_cons (pe_ix (o_ix hu) (pv 1) pe_int (fun _ _ => rfl)) pa_nil)) pa_nil))))) pa_nil))))
theorem ok_path_text {k : Nat} {sp : Sp} (Z : ModF K mg) (len : ∀ vs H Q E, sp vs H Q E → vs.length = 1) (pure : ∀ vs H Q E, sp vs H Q E → t_path_text K { nx := fun _ H' => Q .non H', rt := Q } (L2.start n_path_text vs) H) : FnR P w K mg base CX0 (k + 1) (He.ga K "path_text") sp := by
  obtain ⟨fd, F⟩ := Z.d_path_text
  have b : Binds K fd ["path"] [] := F.bindsN fun _ _ _ _ _ _ us hl => match us, hl with | [_], _ => rfl
  refine (FnOk.raw (F.ok (CX := CX0) sc_path_text len fun cdv A outer s H vs Q E hr h => ⟨t_path_text K, PSs.nox ?_, pure vs H Q E h⟩) b .nil).imp fun vs H Q E h => (List.append_nil vs).symm ▸ h
  have hu := hr.units
  have hu2 := units65 hr
  have hr0 := hr.mono (j := k) (by omega)
  exact (pss_cons (ps_if (pt_cmpR (o_eq hu) (pv 0) pe_str (nomark _))
  (pss_one (ps_ret pe_str))
  pss_nil)
  (pss_one (ps_ret (pv 0))))
theorem ok_write_term {k : Nat} {sp sp_path_text sp_write_term : Sp} (Z : ModF K mg) (c_path_text : FnR P w K mg base CX0 k (He.ga K "path_text") sp_path_text) (c_write_term : FnR P w K mg base CX0 k (He.ga K "write_term") sp_write_term) (len : ∀ vs H Q E, sp vs H Q E → vs.length = 1) (pure : ∀ vs H Q E, sp vs H Q E → t_write_term K sp_path_text sp_write_term { nx := fun _ H' => Q .non H', rt := Q } (L2.start n_write_term vs) H) : FnR P w K mg base CX0 (k + 1) (He.ga K "write_term") sp := by
  obtain ⟨fd, F⟩ := Z.d_write_term
  have b : Binds K fd ["term"] [] := F.bindsN fun _ _ _ _ _ _ us hl => match us, hl with | [_], _ => rfl
  refine (FnOk.raw (F.ok (CX := CX0) sc_write_term len fun cdv A outer s H vs Q E hr h => ⟨t_write_term K sp_path_text sp_write_term, PSs.nox ?_, pure vs H Q E h⟩) b .nil).imp fun vs H Q E h => (List.append_nil vs).symm ▸ h
  have hu := hr.units
  have hu2 := units65 hr
  have hr0 := hr.mono (j := k) (by omega)
  exact (pss_cons (ps_if (pt_cmpR (o_eq hu) (pe_ix (o_ix hu) (pv 0) pe_int (fun _ _ => rfl)) pe_str (nomark _))
  (pss_one (ps_ret (pe_callR c_path_text hr0 (by rfl) Z.g_path_text Z.k_path_text pass0 (pa_cons (pe_ix (o_ix hu) (pv 0) pe_int (fun _ _ => rfl)) pa_nil))))
  pss_nil)
  (pss_cons (ps_if (pt_cmpR (o_eq hu) (pe_ix (o_ix hu) (pv 0) pe_int (fun _ _ => rfl)) pe_str (nomark _))
  (pss_one (ps_ret (pe_joined (.cons (pe_fmt (pe_ix (o_ix hu) (pv 0) pe_int (fun _ _ => rfl))) (.cons pe_str (.cons (pe_fmt (pe_callR c_path_text hr0 (by rfl) Z.g_path_text Z.k_path_text pass0 (pa_cons (pe_ix (o_ix hu) (pv 0) pe_int (fun _ _ => rfl)) pa_nil))) (.cons pe_str .nil)))))))
  pss_nil)
  (pss_cons (ps_set (i := 1) sc_write_term.nd rfl (by first | exact .inl rfl | exact .inr rfl) (pe_bm PySem.F.plainAttrs_str PySem.F.slot_str_join PySem.F.type_str_join mt_join pe_str (pa_cons (pe_lc (own := [("part", 2)]) rfl sc_write_term.nd (pi_any (pe_ix (o_ix hu) (pv 0) pe_int (fun _ _ => rfl))) (blkOk_by (N := n_write_term) (sc := defScope s_write_term) (own := [("part", 2)]) (by decide +kernel)) (fun _ _ _ _ _ => (pg_name (i := 2) sc_write_term.nd rfl (by first | exact .inl rfl | exact .inr rfl))) (fun _ _ _ _ _ => pts_nil) (fun _ _ _ _ _ => (pe_callR c_write_term hr0 (by rfl) Z.g_write_term Z.k_write_term pass0 (pa_cons (pv 2) pa_nil)))) pa_nil)))
  (pss_one (ps_ret (pe_joined (.cons (pe_fmt (pe_ix (o_ix hu) (pv 0) pe_int (fun _ _ => rfl))) (.cons pe_str (.cons (pe_fmt (pv 1)) (.cons pe_str .nil))))))))))
theorem ok_read_path {k : Nat} {sp : Sp} (Z : ModF K mg) (len : ∀ vs H Q E, sp vs H Q E → vs.length = 1) (pure : ∀ vs H Q E, sp vs H Q E → t_read_path K { nx := fun _ H' => Q .non H', rt := Q } (L2.start n_read_path vs) H) : FnR P w K mg base CX0 (k + 1) (He.ga K "read_path") sp := by
  obtain ⟨fd, F⟩ := Z.d_read_path
  have b : Binds K fd ["text"] [] := F.bindsN fun _ _ _ _ _ _ us hl => match us, hl with | [_], _ => rfl
  refine (FnOk.raw (F.ok (CX := CX0) sc_read_path len fun cdv A outer s H vs Q E hr h => ⟨t_read_path K, PSs.nox ?_, pure vs H Q E h⟩) b .nil).imp fun vs H Q E h => (List.append_nil vs).symm ▸ h
  have hu := hr.units
  have hu2 := units65 hr
  have hr0 := hr.mono (j := k) (by omega)
  exact (pss_cons (ps_if (pt_cmpR (o_eq hu) (pv 0) pe_str (nomark _))
  (pss_one (ps_ret pe_str))
  pss_nil)
  (pss_one (ps_ret (pv 0))))
theorem ok_word_end {k : Nat} {sp : Sp} (Z : ModF K mg) (len : ∀ vs H Q E, sp vs H Q E → vs.length = 2) (pure : ∀ vs H Q E, sp vs H Q E → t_word_end K { nx := fun _ H' => Q .non H', rt := Q } (L2.start n_word_end vs) H) : FnR P w K mg base CX0 (k + 1) (He.ga K "word_end") sp := by
  obtain ⟨fd, F⟩ := Z.d_word_end
  have b : Binds K fd ["text", "at"] [] := F.bindsN fun _ _ _ _ _ _ us hl => match us, hl with | [_, _], _ => rfl
  refine (FnOk.raw (F.ok (CX := CX0) sc_word_end len fun cdv A outer s H vs Q E hr h => ⟨t_word_end K, PSs.nox ?_, pure vs H Q E h⟩) b .nil).imp fun vs H Q E h => (List.append_nil vs).symm ▸ h
  have hu := hr.units
  have hu2 := units65 hr
  have hr0 := hr.mono (j := k) (by omega)
  exact (pss_cons (ps_while PassesOwn.never (PW.pt (pw_and (pt_cmpR o_lt (pv 1) (pe_callB c_len (by rfl) Z.f_len (by decide +kernel) (pa_cons (pv 0) pa_nil)) (nomark _)) (pw_and1 (pt_truth (pe_bm0 PySem.F.plainAttrs_str PySem.F.slot_str_isalpha PySem.F.type_str_isalpha mt_isalpha (pe_ix (o_ix hu) (pv 0) (pv 1) (fun _ _ => rfl))) (by intro _; rfl)))))
  (pss_one (ps_set (i := 1) sc_word_end.nd rfl (by first | exact .inl rfl | exact .inr rfl) (pe_op o_add (pv 1) pe_int))))
  (pss_one (ps_ret (pv 1))))
theorem ok_deed_at {k : Nat} {sp sp_term_at : Sp} (Z : ModF K mg) (c_term_at : FnR P w K mg base CX0 k (He.ga K "term_at") sp_term_at) (len : ∀ vs H Q E, sp vs H Q E → vs.length = 4) (pure : ∀ vs H Q E, sp vs H Q E → t_deed_at K sp_term_at { nx := fun _ H' => Q .non H', rt := Q } (L2.start n_deed_at vs) H) : FnR P w K mg base CX0 (k + 1) (He.ga K "deed_at") sp := by
  obtain ⟨fd, F⟩ := Z.d_deed_at
  have b : Binds K fd ["text", "name", "at", "depth"] [] := F.bindsN fun _ _ _ _ _ _ us hl => match us, hl with | [_, _, _, _], _ => rfl
  refine (FnOk.raw (F.ok (CX := CX0) sc_deed_at len fun cdv A outer s H vs Q E hr h => ⟨t_deed_at K sp_term_at, PSs.nox ?_, pure vs H Q E h⟩) b .nil).imp fun vs H Q E h => (List.append_nil vs).symm ▸ h
  have hu := hr.units
  have hu2 := units65 hr
  have hr0 := hr.mono (j := k) (by omega)
  exact (pss_cons (ps_set (i := 4) sc_deed_at.nd rfl (by first | exact .inl rfl | exact .inr rfl) (pe_lst pa_nil))
  (pss_cons (ps_if (pt_truth (pe_bm PySem.F.plainAttrs_str PySem.F.slot_str_startswith PySem.F.type_str_startswith mt_startswith3 (pv 0) (pa_cons pe_str (pa_cons (pv 2) pa_nil))) (by intro _; rfl))
  (pss_one (ps_ret (pe_tup (pa_cons (pe_tup (pa_cons pe_str (pa_cons (pv 1) (pa_cons (pe_tup pa_nil) pa_nil)))) (pa_cons (pe_op o_add (pv 2) pe_int) pa_nil)))))
  pss_nil)
  (pss_cons (ps_for PassesOwn.never rfl (pi_range1 (by rfl) Z.f_range (pa_cons pe_int pa_nil)) (pg_name (i := 5) sc_deed_at.nd rfl (by first | exact .inl rfl | exact .inr rfl))
  (pss_cons (ps_set (i := 6) sc_deed_at.nd rfl (by first | exact .inl rfl | exact .inr rfl) (pe_callR c_term_at hr0 (by rfl) Z.g_term_at Z.k_term_at pass0 (pa_cons (pv 0) (pa_cons (pv 2) (pa_cons (pe_op o_add (pv 3) pe_int) pa_nil)))))
  (pss_cons (ps_if (pt_cmpR o_is (pv 6) pe_non (nomark _))
  (pss_one (ps_ret pe_non))
  pss_nil)
  (pss_cons (ps_expr (pe_bm PySem.F.plainAttrs_list PySem.F.slot_list_append PySem.F.type_list_append mt_append (pv 4) (pa_cons (pe_ix (o_ix hu) (pv 6) pe_int (fun _ _ => rfl)) pa_nil)))
  (pss_cons (ps_set (i := 2) sc_deed_at.nd rfl (by first | exact .inl rfl | exact .inr rfl) (pe_ix (o_ix hu) (pv 6) pe_int (fun _ _ => rfl)))
  (pss_cons (ps_if (pt_truth (pe_bm PySem.F.plainAttrs_str PySem.F.slot_str_startswith PySem.F.type_str_startswith mt_startswith3 (pv 0) (pa_cons pe_str (pa_cons (pv 2) pa_nil))) (by intro _; rfl))
  (pss_one (ps_ret (pe_tup (pa_cons (pe_tup (pa_cons pe_str (pa_cons (pv 1) (pa_cons (pe_callTy c_tuple (by rfl) Z.f_tuple (by decide +kernel) (pa_cons (pv 4) pa_nil)) pa_nil)))) (pa_cons (pe_op o_add (pv 2) pe_int) pa_nil)))))
  pss_nil)
  (pss_cons (ps_if (pt_not (pt_truth (pe_bm PySem.F.plainAttrs_str PySem.F.slot_str_startswith PySem.F.type_str_startswith mt_startswith3 (pv 0) (pa_cons pe_str (pa_cons (pv 2) pa_nil))) (by intro _; rfl)))
  (pss_one (ps_ret pe_non))
  pss_nil)
  (pss_one (ps_set (i := 2) sc_deed_at.nd rfl (by first | exact .inl rfl | exact .inr rfl) (pe_op o_add (pv 2) pe_int))))))))))
  (pss_one (ps_ret pe_non)))))
theorem ok_term_at {k : Nat} {sp sp_deed_at sp_is_function_name sp_read_path sp_word_end : Sp} (Z : ModF K mg) (c_deed_at : FnR P w K mg base CX0 k (He.ga K "deed_at") sp_deed_at) (c_is_function_name : FnR P w K mg base CX0 k (He.ga K "is_function_name") sp_is_function_name) (c_read_path : FnR P w K mg base CX0 k (He.ga K "read_path") sp_read_path) (c_word_end : FnR P w K mg base CX0 k (He.ga K "word_end") sp_word_end) (len : ∀ vs H Q E, sp vs H Q E → vs.length = 3) (pure : ∀ vs H Q E, sp vs H Q E → t_term_at K sp_deed_at sp_is_function_name sp_read_path sp_word_end { nx := fun _ H' => Q .non H', rt := Q } (L2.start n_term_at vs) H) : FnR P w K mg base CX0 (k + 1) (He.ga K "term_at") sp := by
  obtain ⟨fd, F⟩ := Z.d_term_at
  have b : Binds K fd ["text", "at", "depth"] [] := F.bindsN fun _ _ _ _ _ _ us hl => match us, hl with | [_, _, _], _ => rfl
  refine (FnOk.raw (F.ok (CX := CX0) sc_term_at len fun cdv A outer s H vs Q E hr h => ⟨t_term_at K sp_deed_at sp_is_function_name sp_read_path sp_word_end, PSs.nox ?_, pure vs H Q E h⟩) b .nil).imp fun vs H Q E h => (List.append_nil vs).symm ▸ h
  have hu := hr.units
  have hu2 := units65 hr
  have hr0 := hr.mono (j := k) (by omega)
  exact (pss_cons (ps_set (i := 3) sc_term_at.nd rfl (by first | exact .inl rfl | exact .inr rfl) (pe_callR c_word_end hr0 (by rfl) Z.g_word_end Z.k_word_end pass0 (pa_cons (pv 0) (pa_cons (pv 1) pa_nil))))
  (pss_cons (ps_if (PW.pt (pw_or (pt_cmpR (o_eq hu) (pv 3) (pv 1) (nomark _)) (pw_or1 (pt_cmpR o_gt (pv 2) pe_int (nomark _)))))
  (pss_one (ps_ret pe_non))
  pss_nil)
  (pss_cons (ps_set (i := 4) sc_term_at.nd rfl (by first | exact .inl rfl | exact .inr rfl) (pe_slice s_any (pv 0) (po_some (pv 1)) (po_some (pv 3))))
  (pss_cons (ps_if (pt_not (pt_truth (pe_bm PySem.F.plainAttrs_str PySem.F.slot_str_startswith PySem.F.type_str_startswith mt_startswith3 (pv 0) (pa_cons pe_str (pa_cons (pv 3) pa_nil))) (by intro _; rfl)))
  (pss_one (ps_ret (pe_tup (pa_cons (pe_tup (pa_cons pe_str (pa_cons (pe_callR c_read_path hr0 (by rfl) Z.g_read_path Z.k_read_path pass0 (pa_cons (pv 4) pa_nil)) pa_nil))) (pa_cons (pv 3) pa_nil)))))
  pss_nil)
  (pss_cons (ps_if (pt_not (pt_truth (pe_callR c_is_function_name hr0 (by rfl) Z.g_is_function_name Z.k_is_function_name pass0 (pa_cons (pv 4) pa_nil)) (by intro _; rfl)))
  (pss_one (ps_ret (pe_callR c_deed_at hr0 (by rfl) Z.g_deed_at Z.k_deed_at pass0 (pa_cons (pv 0) (pa_cons (pv 4) (pa_cons (pe_op o_add (pv 3) pe_int) (pa_cons (pv 2) pa_nil)))))))
  pss_nil)
  (pss_cons (ps_set (i := 5) sc_term_at.nd rfl (by first | exact .inl rfl | exact .inr rfl) (pe_callR c_word_end hr0 (by rfl) Z.g_word_end Z.k_word_end pass0 (pa_cons (pv 0) (pa_cons (pe_op o_add (pv 3) pe_int) pa_nil))))
  (pss_cons (ps_if (pt_not (pt_truth (pe_bm PySem.F.plainAttrs_str PySem.F.slot_str_startswith PySem.F.type_str_startswith mt_startswith3 (pv 0) (pa_cons pe_str (pa_cons (pv 5) pa_nil))) (by intro _; rfl)))
  (pss_one (ps_ret pe_non))
  pss_nil)
  (pss_one (ps_ret (pe_tup (pa_cons (pe_tup (pa_cons pe_str (pa_cons (pv 4) (pa_cons (pe_callR c_read_path hr0 (by rfl) Z.g_read_path Z.k_read_path pass0 (pa_cons (pe_slice s_any (pv 0) (po_some (pe_op o_add (pv 3) pe_int)) (po_some (pv 5))) pa_nil)) pa_nil)))) (pa_cons (pe_op o_add (pv 5) pe_int) pa_nil))))))))))))
theorem ok_read_term {k : Nat} {sp sp_is_term sp_term_at sp_write_term : Sp} (Z : ModF K mg) (c_is_term : FnR P w K mg base CX0 k (He.ga K "is_term") sp_is_term) (c_term_at : FnR P w K mg base CX0 k (He.ga K "term_at") sp_term_at) (c_write_term : FnR P w K mg base CX0 k (He.ga K "write_term") sp_write_term) (len : ∀ vs H Q E, sp vs H Q E → vs.length = 2) (pure : ∀ vs H Q E, sp vs H Q E → t_read_term K sp_is_term sp_term_at sp_write_term { nx := fun _ H' => Q .non H', rt := Q } (L2.start n_read_term vs) H) : FnR P w K mg base CX0 (k + 1) (He.ga K "read_term") sp := by
  obtain ⟨fd, F⟩ := Z.d_read_term
  have b : Binds K fd ["text", "steps"] [] := F.bindsN fun _ _ _ _ _ _ us hl => match us, hl with | [_, _], _ => rfl
  refine (FnOk.raw (F.ok (CX := CX0) sc_read_term len fun cdv A outer s H vs Q E hr h => ⟨t_read_term K sp_is_term sp_term_at sp_write_term, PSs.nox ?_, pure vs H Q E h⟩) b .nil).imp fun vs H Q E h => (List.append_nil vs).symm ▸ h
  have hu := hr.units
  have hu2 := units65 hr
  have hr0 := hr.mono (j := k) (by omega)
  exact (pss_cons (ps_if (pt_cmpR o_gt (pe_callB c_len (by rfl) Z.f_len (by decide +kernel) (pa_cons (pv 0) pa_nil)) pe_int (nomark _))
  (pss_one (ps_ret pe_non))
  pss_nil)
  (pss_cons (ps_set (i := 2) sc_read_term.nd rfl (by first | exact .inl rfl | exact .inr rfl) (pe_callR c_term_at hr0 (by rfl) Z.g_term_at Z.k_term_at pass0 (pa_cons (pv 0) (pa_cons pe_int (pa_cons pe_int pa_nil)))))
  (pss_cons (ps_if (PW.pt (pw_or (pt_cmpR o_is (pv 2) pe_non (nomark _)) (pw_or (pt_cmpR (o_ne hu) (pe_ix (o_ix hu) (pv 2) pe_int (fun _ _ => rfl)) (pe_callB c_len (by rfl) Z.f_len (by decide +kernel) (pa_cons (pv 0) pa_nil)) (nomark _)) (pw_or1 (pt_not (pt_truth (pe_callR c_is_term hr0 (by rfl) Z.g_is_term Z.k_is_term pass0 (pa_cons (pe_ix (o_ix hu) (pv 2) pe_int (fun _ _ => rfl)) (pa_cons (pv 1) pa_nil))) (by intro _; rfl)))))))
  (pss_one (ps_ret pe_non))
  pss_nil)
  (pss_cons (ps_if (pt_cmpR (o_ne hu) (pe_callR c_write_term hr0 (by rfl) Z.g_write_term Z.k_write_term pass0 (pa_cons (pe_ix (o_ix hu) (pv 2) pe_int (fun _ _ => rfl)) pa_nil)) (pv 0) (nomark _))
  (pss_one (ps_ret pe_non))
  pss_nil)
  (pss_one (ps_ret (pe_ix (o_ix hu) (pv 2) pe_int (fun _ _ => rfl))))))))
theorem ok__law_whole {k : Nat} {sp : Sp} (Z : ModF K mg) (len : ∀ vs H Q E, sp vs H Q E → vs.length = 1) (pure : ∀ vs H Q E, sp vs H Q E → t__law_whole K { nx := fun _ H' => Q .non H', rt := Q } (L2.start n__law_whole vs) H) : FnR P w K mg base CX0 (k + 1) (He.ga K "_law_whole") sp := by
  obtain ⟨fd, F⟩ := Z.d__law_whole
  have b : Binds K fd ["value"] [] := F.bindsN fun _ _ _ _ _ _ us hl => match us, hl with | [_], _ => rfl
  refine (FnOk.raw (F.ok (CX := CX0) sc__law_whole len fun cdv A outer s H vs Q E hr h => ⟨t__law_whole K, PSs.nox ?_, pure vs H Q E h⟩) b .nil).imp fun vs H Q E h => (List.append_nil vs).symm ▸ h
  have hu := hr.units
  have hu2 := units65 hr
  have hr0 := hr.mono (j := k) (by omega)
  exact (pss_one (ps_ret (pe_andT (pe_callB c_isi (by rfl) Z.f_isinstance (by decide +kernel) (pa_cons (pv 0) (pa_cons (pe_bltn (by rfl) Z.f_int (by decide +kernel) rfl) pa_nil))) (pe_one (pe_notT (pe_callB c_isi (by rfl) Z.f_isinstance (by decide +kernel) (pa_cons (pv 0) (pa_cons (pe_bltn (by rfl) Z.f_bool (by decide +kernel) rfl) pa_nil))))))))
theorem ok__law_cell {k : Nat} {sp : Sp} (Z : ModF K mg) (len : ∀ vs H Q E, sp vs H Q E → vs.length = 2) (pure : ∀ vs H Q E, sp vs H Q E → t__law_cell K { nx := fun _ H' => Q .non H', rt := Q } (L2.start n__law_cell vs) H) : FnR P w K mg base CX0 (k + 1) (He.ga K "_law_cell") sp := by
  obtain ⟨fd, F⟩ := Z.d__law_cell
  have b : Binds K fd ["script", "k"] [] := F.bindsN fun _ _ _ _ _ _ us hl => match us, hl with | [_, _], _ => rfl
  refine (FnOk.raw (F.ok (CX := CX0) sc__law_cell len fun cdv A outer s H vs Q E hr h => ⟨t__law_cell K, PSs.nox ?_, pure vs H Q E h⟩) b .nil).imp fun vs H Q E h => (List.append_nil vs).symm ▸ h
  have hu := hr.units
  have hu2 := units65 hr
  have hr0 := hr.mono (j := k) (by omega)
  exact (pss_cons (ps_if (pt_cmpR o_lt (pv 1) (pe_callB c_len (by rfl) Z.f_len (by decide +kernel) (pa_cons (pv 0) pa_nil)) (nomark _))
  (pss_one (ps_ret (pe_ix (o_ix hu) (pv 0) (pv 1) (fun _ _ => rfl))))
  pss_nil)
  (pss_cons (ps_set (i := 2) sc__law_cell.nd rfl (by first | exact .inl rfl | exact .inr rfl) pe_int)
  (pss_cons (ps_for PassesOwn.never rfl (pi_any (pv 0)) (pg_name (i := 3) sc__law_cell.nd rfl (by first | exact .inl rfl | exact .inr rfl))
  (pss_one (ps_set (i := 2) sc__law_cell.nd rfl (by first | exact .inl rfl | exact .inr rfl) (pe_op o_mod (pe_callTy c_int (by rfl) Z.f_int (by decide +kernel) (pa_cons (pe_op o_add (pe_op o_mul (pv 2) pe_int) (pe_op o_mod (pe_callTy c_int (by rfl) Z.f_int (by decide +kernel) (pa_cons (pv 3) pa_nil)) pe_int)) pa_nil)) pe_int))))
  (pss_one (ps_ret (pe_op o_mod (pe_callTy c_int (by rfl) Z.f_int (by decide +kernel) (pa_cons (pe_op o_mul (pe_op o_mul (pe_op o_add (pv 2) pe_int) (pe_op o_add (pv 1) pe_int)) pe_int) pa_nil)) pe_int))))))
theorem ok__law_digits {k : Nat} {sp : Sp} (Z : ModF K mg) (len : ∀ vs H Q E, sp vs H Q E → vs.length = 2) (pure : ∀ vs H Q E, sp vs H Q E → t__law_digits K { nx := fun _ H' => Q .non H', rt := Q } (L2.start n__law_digits vs) H) : FnR P w K mg base CX0 (k + 1) (He.ga K "_law_digits") sp := by
  obtain ⟨fd, F⟩ := Z.d__law_digits
  have b : Binds K fd ["cell", "sizes"] [] := F.bindsN fun _ _ _ _ _ _ us hl => match us, hl with | [_, _], _ => rfl
  refine (FnOk.raw (F.ok (CX := CX0) sc__law_digits len fun cdv A outer s H vs Q E hr h => ⟨t__law_digits K, PSs.nox ?_, pure vs H Q E h⟩) b .nil).imp fun vs H Q E h => (List.append_nil vs).symm ▸ h
  have hu := hr.units
  have hu2 := units65 hr
  have hr0 := hr.mono (j := k) (by omega)
  exact (pss_cons (ps_set (i := 2) sc__law_digits.nd rfl (by first | exact .inl rfl | exact .inr rfl) (pe_lst pa_nil))
  (pss_cons (ps_set (i := 3) sc__law_digits.nd rfl (by first | exact .inl rfl | exact .inr rfl) (pe_callTy c_int (by rfl) Z.f_int (by decide +kernel) (pa_cons (pv 0) pa_nil)))
  (pss_cons (ps_if (pt_cmpR o_ge (pv 3) (pe_op o_pow pe_int pe_int) (nomark _))
  (pss_cons (ps_set (i := 3) sc__law_digits.nd rfl (by first | exact .inl rfl | exact .inr rfl) (pe_op o_sub (pv 3) (pe_op o_pow pe_int pe_int)))
  (pss_cons (ps_for PassesOwn.never rfl (pi_any (pv 1)) (pg_name (i := 4) sc__law_digits.nd rfl (by first | exact .inl rfl | exact .inr rfl))
  (pss_cons (ps_expr (pe_bm PySem.F.plainAttrs_list PySem.F.slot_list_append PySem.F.type_list_append mt_append (pv 2) (pa_cons (pe_op o_mod (pe_callTy c_int (by rfl) Z.f_int (by decide +kernel) (pa_cons (pv 3) pa_nil)) (pv 4)) pa_nil)))
  (pss_one (ps_set (i := 3) sc__law_digits.nd rfl (by first | exact .inl rfl | exact .inr rfl) (pe_op o_div (pe_callTy c_int (by rfl) Z.f_int (by decide +kernel) (pa_cons (pv 3) pa_nil)) (pv 4))))))
  (pss_one (ps_ret (pv 2)))))
  pss_nil)
  (pss_cons (ps_set (i := 5) sc__law_digits.nd rfl (by first | exact .inl rfl | exact .inr rfl) (pe_op o_mod (pe_callTy c_int (by rfl) Z.f_int (by decide +kernel) (pa_cons (pv 3) pa_nil)) pe_int))
  (pss_cons (ps_for PassesOwn.never rfl (pi_range1 (by rfl) Z.f_range (pa_cons (pe_callB c_len (by rfl) Z.f_len (by decide +kernel) (pa_cons (pv 1) pa_nil)) pa_nil)) (pg_name (i := 6) sc__law_digits.nd rfl (by first | exact .inl rfl | exact .inr rfl))
  (pss_cons (ps_set (i := 5) sc__law_digits.nd rfl (by first | exact .inl rfl | exact .inr rfl) (pe_op o_mod (pe_callTy c_int (by rfl) Z.f_int (by decide +kernel) (pa_cons (pe_op o_add (pe_op o_add (pe_op o_mul (pv 5) pe_int) (pe_op o_mul pe_int (pv 6))) pe_int) pa_nil)) pe_int))
  (pss_cons (ps_set (i := 7) sc__law_digits.nd rfl (by first | exact .inl rfl | exact .inr rfl) (pe_op o_mod (pe_callTy c_int (by rfl) Z.f_int (by decide +kernel) (pa_cons (pe_op o_mul (pv 5) (pe_op o_add (pe_op o_div (pv 5) pe_int) pe_int)) pa_nil)) pe_int))
  (pss_one (ps_expr (pe_bm PySem.F.plainAttrs_list PySem.F.slot_list_append PySem.F.type_list_append mt_append (pv 2) (pa_cons (pe_op o_mod (pe_op o_div (pv 7) pe_int) (pe_ix (o_ix hu) (pv 1) (pv 6) (fun _ _ => rfl))) pa_nil)))))))
  (pss_one (ps_ret (pv 2))))))))
theorem ok__law_same {k : Nat} {sp sp__law_same sp__law_whole : Sp} (Z : ModF K mg) (c__law_same : FnR P w K mg base CX0 k (He.ga K "_law_same") sp__law_same) (c__law_whole : FnR P w K mg base CX0 k (He.ga K "_law_whole") sp__law_whole) (len : ∀ vs H Q E, sp vs H Q E → vs.length = 2) (pure : ∀ vs H Q E, sp vs H Q E → t__law_same K sp__law_same sp__law_whole { nx := fun _ H' => Q .non H', rt := Q } (L2.start n__law_same vs) H) : FnR P w K mg base CX0 (k + 1) (He.ga K "_law_same") sp := by
  obtain ⟨fd, F⟩ := Z.d__law_same
  have b : Binds K fd ["value", "due"] [] := F.bindsN fun _ _ _ _ _ _ us hl => match us, hl with | [_, _], _ => rfl
  refine (FnOk.raw (F.ok (CX := CX0) sc__law_same len fun cdv A outer s H vs Q E hr h => ⟨t__law_same K sp__law_same sp__law_whole, PSs.nox ?_, pure vs H Q E h⟩) b .nil).imp fun vs H Q E h => (List.append_nil vs).symm ▸ h
  have hu := hr.units
  have hu2 := units65 hr
  have hr0 := hr.mono (j := k) (by omega)
  exact (pss_cons (ps_if (PW.pt (pw_or (pt_truth (pe_callB c_isi (by rfl) Z.f_isinstance (by decide +kernel) (pa_cons (pv 1) (pa_cons (pe_bltn (by rfl) Z.f_tuple (by decide +kernel) rfl) pa_nil))) (by intro _; rfl)) (pw_or1 (pt_truth (pe_callB c_isi (by rfl) Z.f_isinstance (by decide +kernel) (pa_cons (pv 1) (pa_cons (pe_bltn (by rfl) Z.f_list (by decide +kernel) rfl) pa_nil))) (by intro _; rfl)))))
  (pss_cons (ps_if (PW.pt (pw_or (pt_not (pt_truth (pe_callB c_isi (by rfl) Z.f_isinstance (by decide +kernel) (pa_cons (pv 0) (pa_cons (pe_bltn (by rfl) Z.f_tuple (by decide +kernel) rfl) pa_nil))) (by intro _; rfl))) (pw_or1 (pt_cmpR (o_ne hu) (pe_callB c_len (by rfl) Z.f_len (by decide +kernel) (pa_cons (pv 0) pa_nil)) (pe_callB c_len (by rfl) Z.f_len (by decide +kernel) (pa_cons (pv 1) pa_nil)) (nomark _)))))
  (pss_one (ps_ret pe_bl))
  pss_nil)
  (pss_cons (ps_for PassesOwn.never rfl (pi_range1 (by rfl) Z.f_range (pa_cons (pe_callB c_len (by rfl) Z.f_len (by decide +kernel) (pa_cons (pv 1) pa_nil)) pa_nil)) (pg_name (i := 2) sc__law_same.nd rfl (by first | exact .inl rfl | exact .inr rfl))
  (pss_one (ps_if (pt_not (pt_truth (pe_callR c__law_same hr0 (by rfl) Z.g__law_same Z.k__law_same pass0 (pa_cons (pe_ix (o_ix hu) (pv 0) (pv 2) (fun _ _ => rfl)) (pa_cons (pe_ix (o_ix hu) (pv 1) (pv 2) (fun _ _ => rfl)) pa_nil))) (by intro _; rfl)))
  (pss_one (ps_ret pe_bl))
  pss_nil)))
  (pss_one (ps_ret pe_bl))))
  pss_nil)
  (pss_cons (ps_if (pt_cmpR o_is (pv 1) pe_non (nomark _))
  (pss_one (ps_ret (pe_cmpR o_is (pv 0) pe_non (nomark _))))
  pss_nil)
  (pss_cons (ps_if (pt_truth (pe_callB c_isi (by rfl) Z.f_isinstance (by decide +kernel) (pa_cons (pv 1) (pa_cons (pe_bltn (by rfl) Z.f_str (by decide +kernel) rfl) pa_nil))) (by intro _; rfl))
  (pss_one (ps_ret (pe_andT (pe_callB c_isi (by rfl) Z.f_isinstance (by decide +kernel) (pa_cons (pv 0) (pa_cons (pe_bltn (by rfl) Z.f_str (by decide +kernel) rfl) pa_nil))) (pe_one (pe_cmpR (o_eq hu) (pv 0) (pv 1) (nomark _))))))
  pss_nil)
  (pss_one (ps_ret (pe_andT (pe_callR c__law_whole hr0 (by rfl) Z.g__law_whole Z.k__law_whole pass0 (pa_cons (pv 0) pa_nil)) (pe_one (pe_cmpR (o_eq hu) (pv 0) (pv 1) (nomark _)))))))))
theorem ok__law_path_text {k : Nat} {sp : Sp} (Z : ModF K mg) (len : ∀ vs H Q E, sp vs H Q E → vs.length = 1) (pure : ∀ vs H Q E, sp vs H Q E → t__law_path_text K { nx := fun _ H' => Q .non H', rt := Q } (L2.start n__law_path_text vs) H) : FnR P w K mg base CX0 (k + 1) (He.ga K "_law_path_text") sp := by
  obtain ⟨fd, F⟩ := Z.d__law_path_text
  have b : Binds K fd ["path"] [] := F.bindsN fun _ _ _ _ _ _ us hl => match us, hl with | [_], _ => rfl
  refine (FnOk.raw (F.ok (CX := CX0) sc__law_path_text len fun cdv A outer s H vs Q E hr h => ⟨t__law_path_text K, PSs.nox ?_, pure vs H Q E h⟩) b .nil).imp fun vs H Q E h => (List.append_nil vs).symm ▸ h
  have hu := hr.units
  have hu2 := units65 hr
  have hr0 := hr.mono (j := k) (by omega)
  exact (pss_cons (ps_if (pt_cmpR (o_eq hu) (pv 0) pe_str (nomark _))
  (pss_one (ps_ret pe_str))
  pss_nil)
  (pss_one (ps_ret (pv 0))))
theorem ok__law_term_text {k : Nat} {sp sp__law_path_text sp__law_term_text : Sp} (Z : ModF K mg) (c__law_path_text : FnR P w K mg base CX0 k (He.ga K "_law_path_text") sp__law_path_text) (c__law_term_text : FnR P w K mg base CX0 k (He.ga K "_law_term_text") sp__law_term_text) (len : ∀ vs H Q E, sp vs H Q E → vs.length = 1) (pure : ∀ vs H Q E, sp vs H Q E → t__law_term_text K sp__law_path_text sp__law_term_text { nx := fun _ H' => Q .non H', rt := Q } (L2.start n__law_term_text vs) H) : FnR P w K mg base CX0 (k + 1) (He.ga K "_law_term_text") sp := by
  obtain ⟨fd, F⟩ := Z.d__law_term_text
  have b : Binds K fd ["term"] [] := F.bindsN fun _ _ _ _ _ _ us hl => match us, hl with | [_], _ => rfl
  refine (FnOk.raw (F.ok (CX := CX0) sc__law_term_text len fun cdv A outer s H vs Q E hr h => ⟨t__law_term_text K sp__law_path_text sp__law_term_text, PSs.nox ?_, pure vs H Q E h⟩) b .nil).imp fun vs H Q E h => (List.append_nil vs).symm ▸ h
  have hu := hr.units
  have hu2 := units65 hr
  have hr0 := hr.mono (j := k) (by omega)
  exact (pss_cons (ps_if (pt_cmpR (o_eq hu) (pe_ix (o_ix hu) (pv 0) pe_int (fun _ _ => rfl)) pe_str (nomark _))
  (pss_one (ps_ret (pe_callR c__law_path_text hr0 (by rfl) Z.g__law_path_text Z.k__law_path_text pass0 (pa_cons (pe_ix (o_ix hu) (pv 0) pe_int (fun _ _ => rfl)) pa_nil))))
  pss_nil)
  (pss_cons (ps_if (pt_cmpR (o_eq hu) (pe_ix (o_ix hu) (pv 0) pe_int (fun _ _ => rfl)) pe_str (nomark _))
  (pss_one (ps_ret (pe_op o_add (pe_op o_add (pe_op o_add (pe_ix (o_ix hu) (pv 0) pe_int (fun _ _ => rfl)) pe_str) (pe_callR c__law_path_text hr0 (by rfl) Z.g__law_path_text Z.k__law_path_text pass0 (pa_cons (pe_ix (o_ix hu) (pv 0) pe_int (fun _ _ => rfl)) pa_nil))) pe_str)))
  pss_nil)
  (pss_one (ps_ret (pe_op o_add (pe_op o_add (pe_op o_add (pe_ix (o_ix hu) (pv 0) pe_int (fun _ _ => rfl)) pe_str) (pe_bm PySem.F.plainAttrs_str PySem.F.slot_str_join PySem.F.type_str_join mt_join pe_str (pa_cons (pe_lc (own := [("part", 1)]) rfl sc__law_term_text.nd (pi_any (pe_ix (o_ix hu) (pv 0) pe_int (fun _ _ => rfl))) (blkOk_by (N := n__law_term_text) (sc := defScope s__law_term_text) (own := [("part", 1)]) (by decide +kernel)) (fun _ _ _ _ _ => (pg_name (i := 1) sc__law_term_text.nd rfl (by first | exact .inl rfl | exact .inr rfl))) (fun _ _ _ _ _ => pts_nil) (fun _ _ _ _ _ => (pe_callR c__law_term_text hr0 (by rfl) Z.g__law_term_text Z.k__law_term_text pass0 (pa_cons (pv 1) pa_nil)))) pa_nil))) pe_str)))))
theorem ok__law_draw_term {k : Nat} {sp sp__law_draw_term : Sp} (Z : ModF K mg) (c__law_draw_term : FnR P w K mg base CX0 k (He.ga K "_law_draw_term") sp__law_draw_term) (len : ∀ vs H Q E, sp vs H Q E → vs.length = 4) (pure : ∀ vs H Q E, sp vs H Q E → t__law_draw_term K sp__law_draw_term { nx := fun _ H' => Q .non H', rt := Q } (L2.start n__law_draw_term vs) H) : FnR P w K mg base CX0 (k + 1) (He.ga K "_law_draw_term") sp := by
  obtain ⟨fd, F⟩ := Z.d__law_draw_term
  have b : Binds K fd ["row", "at", "room", "steps"] [] := F.bindsN fun _ _ _ _ _ _ us hl => match us, hl with | [_, _, _, _], _ => rfl
  refine (FnOk.raw (F.ok (CX := CX0) sc__law_draw_term len fun cdv A outer s H vs Q E hr h => ⟨t__law_draw_term K sp__law_draw_term, PSs.nox ?_, pure vs H Q E h⟩) b .nil).imp fun vs H Q E h => (List.append_nil vs).symm ▸ h
  have hu := hr.units
  have hu2 := units65 hr
  have hr0 := hr.mono (j := k) (by omega)
  exact (pss_cons (ps_set (i := 4) sc__law_draw_term.nd rfl (by first | exact .inl rfl | exact .inr rfl) (pe_callTy c_int (by rfl) Z.f_int (by decide +kernel) (pa_cons (pe_ix (o_ix hu) (pv 0) (pe_op o_mod (pe_callTy c_int (by rfl) Z.f_int (by decide +kernel) (pa_cons (pv 1) pa_nil)) (pe_callB c_len (by rfl) Z.f_len (by decide +kernel) (pa_cons (pv 0) pa_nil))) (fun _ _ => rfl)) pa_nil)))
  (pss_cons (ps_set (i := 5) sc__law_draw_term.nd rfl (by first | exact .inl rfl | exact .inr rfl) (pe_callTy c_int (by rfl) Z.f_int (by decide +kernel) (pa_cons (pe_ix (o_ix hu) (pv 0) (pe_op o_mod (pe_callTy c_int (by rfl) Z.f_int (by decide +kernel) (pa_cons (pe_op o_add (pv 1) pe_int) pa_nil)) (pe_callB c_len (by rfl) Z.f_len (by decide +kernel) (pa_cons (pv 0) pa_nil))) (fun _ _ => rfl)) pa_nil)))
  (pss_cons (ps_set (i := 6) sc__law_draw_term.nd rfl (by first | exact .inl rfl | exact .inr rfl) pe_str)
  (pss_cons (ps_for PassesOwn.never rfl (pi_range1 (by rfl) Z.f_range (pa_cons (pe_op o_mod (pe_callTy c_int (by rfl) Z.f_int (by decide +kernel) (pa_cons (pv 5) pa_nil)) pe_int) pa_nil)) (pg_name (i := 7) sc__law_draw_term.nd rfl (by first | exact .inl rfl | exact .inr rfl))
  (pss_one (ps_set (i := 6) sc__law_draw_term.nd rfl (by first | exact .inl rfl | exact .inr rfl) (pe_op o_add (pv 6) (pe_ix (o_ix hu) (pv 3) (pe_op o_mod (pe_op o_div (pe_callTy c_int (by rfl) Z.f_int (by decide +kernel) (pa_cons (pv 5) pa_nil)) (pe_op o_add pe_int (pv 7))) (pe_callB c_len (by rfl) Z.f_len (by decide +kernel) (pa_cons (pv 3) pa_nil))) (fun _ _ => rfl))))))
  (pss_cons (ps_if (PW.pt (pw_or (pt_cmpR (o_eq hu) (pe_op o_mod (pv 4) pe_int) pe_int (nomark _)) (pw_or1 (PW.pt (pw_and (pt_cmpR o_lt (pv 2) pe_int (nomark _)) (pw_and1 (pt_cmpR (o_eq hu) (pe_op o_mod (pv 4) pe_int) pe_int (nomark _))))))))
  (pss_one (ps_ret (pe_lst (pa_cons (pe_tup (pa_cons pe_str (pa_cons (pv 6) pa_nil))) (pa_cons (pe_op o_add (pv 1) pe_int) (pa_cons pe_int pa_nil))))))
  pss_nil)
  (pss_cons (ps_if (PW.pt (pw_or (pt_cmpR (o_eq hu) (pe_op o_mod (pv 4) pe_int) pe_int (nomark _)) (pw_or1 (pt_cmpR o_lt (pv 2) pe_int (nomark _)))))
  (pss_one (ps_ret (pe_lst (pa_cons (pe_tup (pa_cons pe_str (pa_cons (pe_ix (o_ix hu) (pe_lst (pa_cons pe_str (pa_cons pe_str (pa_cons pe_str (pa_cons pe_str pa_nil))))) (pe_op o_mod (pe_op o_div (pe_callTy c_int (by rfl) Z.f_int (by decide +kernel) (pa_cons (pv 4) pa_nil)) pe_int) pe_int) (fun _ _ => rfl)) (pa_cons (pv 6) pa_nil)))) (pa_cons (pe_op o_add (pv 1) pe_int) (pa_cons pe_int pa_nil))))))
  pss_nil)
  (pss_cons (ps_set (i := 8) sc__law_draw_term.nd rfl (by first | exact .inl rfl | exact .inr rfl) (pe_lst pa_nil))
  (pss_cons (ps_set (i := 9) sc__law_draw_term.nd rfl (by first | exact .inl rfl | exact .inr rfl) pe_int)
  (pss_cons (ps_set (i := 10) sc__law_draw_term.nd rfl (by first | exact .inl rfl | exact .inr rfl) (pe_op o_add (pv 1) pe_int))
  (pss_cons (ps_for PassesOwn.never rfl (pi_range1 (by rfl) Z.f_range (pa_cons (pe_op o_mod (pe_op o_div (pe_callTy c_int (by rfl) Z.f_int (by decide +kernel) (pa_cons (pv 5) pa_nil)) pe_int) pe_int) pa_nil)) (pg_name (i := 7) sc__law_draw_term.nd rfl (by first | exact .inl rfl | exact .inr rfl))
  (pss_one (ps_if (pt_cmpR o_lt (pv 9) (pv 2) (nomark _))
  (pss_cons (ps_set (i := 11) sc__law_draw_term.nd rfl (by first | exact .inl rfl | exact .inr rfl) (pe_callR c__law_draw_term hr0 (by rfl) Z.g__law_draw_term Z.k__law_draw_term pass0 (pa_cons (pv 0) (pa_cons (pv 10) (pa_cons (pe_callB (c_min rfl) (by rfl) Z.f_min (by decide +kernel) (pa_cons (pe_op o_sub (pv 2) (pv 9)) (pa_cons pe_int pa_nil))) (pa_cons (pv 3) pa_nil))))))
  (pss_cons (ps_expr (pe_bm PySem.F.plainAttrs_list PySem.F.slot_list_append PySem.F.type_list_append mt_append (pv 8) (pa_cons (pe_ix (o_ix hu) (pv 11) pe_int (fun _ _ => rfl)) pa_nil)))
  (pss_cons (ps_set (i := 10) sc__law_draw_term.nd rfl (by first | exact .inl rfl | exact .inr rfl) (pe_ix (o_ix hu) (pv 11) pe_int (fun _ _ => rfl)))
  (pss_one (ps_set (i := 9) sc__law_draw_term.nd rfl (by first | exact .inl rfl | exact .inr rfl) (pe_op o_add (pv 9) (pe_ix (o_ix hu) (pv 11) pe_int (fun _ _ => rfl))))))))
  pss_nil)))
  (pss_one (ps_ret (pe_lst (pa_cons (pe_tup (pa_cons pe_str (pa_cons (pe_ix (o_ix hu) (pe_lst (pa_cons pe_str (pa_cons pe_str (pa_cons pe_str (pa_cons pe_str pa_nil))))) (pe_op o_mod (pe_op o_div (pe_callTy c_int (by rfl) Z.f_int (by decide +kernel) (pa_cons (pv 4) pa_nil)) pe_int) pe_int) (fun _ _ => rfl)) (pa_cons (pe_callTy c_tuple (by rfl) Z.f_tuple (by decide +kernel) (pa_cons (pv 8) pa_nil)) pa_nil)))) (pa_cons (pv 10) (pa_cons (pv 9) pa_nil))))))))))))))))
theorem ok__law_term_nodes {k : Nat} {sp sp__law_term_nodes : Sp} (Z : ModF K mg) (c__law_term_nodes : FnR P w K mg base CX0 k (He.ga K "_law_term_nodes") sp__law_term_nodes) (len : ∀ vs H Q E, sp vs H Q E → vs.length = 1) (pure : ∀ vs H Q E, sp vs H Q E → t__law_term_nodes K sp__law_term_nodes { nx := fun _ H' => Q .non H', rt := Q } (L2.start n__law_term_nodes vs) H) : FnR P w K mg base CX0 (k + 1) (He.ga K "_law_term_nodes") sp := by
  obtain ⟨fd, F⟩ := Z.d__law_term_nodes
  have b : Binds K fd ["term"] [] := F.bindsN fun _ _ _ _ _ _ us hl => match us, hl with | [_], _ => rfl
  refine (FnOk.raw (F.ok (CX := CX0) sc__law_term_nodes len fun cdv A outer s H vs Q E hr h => ⟨t__law_term_nodes K sp__law_term_nodes, PSs.nox ?_, pure vs H Q E h⟩) b .nil).imp fun vs H Q E h => (List.append_nil vs).symm ▸ h
  have hu := hr.units
  have hu2 := units65 hr
  have hr0 := hr.mono (j := k) (by omega)
  exact (pss_cons (ps_set (i := 1) sc__law_term_nodes.nd rfl (by first | exact .inl rfl | exact .inr rfl) (pe_lst (pa_cons (pv 0) pa_nil)))
  (pss_cons (ps_if (pt_cmpR (o_eq hu) (pe_ix (o_ix hu) (pv 0) pe_int (fun _ _ => rfl)) pe_str (nomark _))
  (pss_one (ps_for PassesOwn.never rfl (pi_any (pe_ix (o_ix hu) (pv 0) pe_int (fun _ _ => rfl))) (pg_name (i := 2) sc__law_term_nodes.nd rfl (by first | exact .inl rfl | exact .inr rfl))
  (pss_one (ps_set (i := 1) sc__law_term_nodes.nd rfl (by first | exact .inl rfl | exact .inr rfl) (pe_op o_add (pv 1) (pe_callR c__law_term_nodes hr0 (by rfl) Z.g__law_term_nodes Z.k__law_term_nodes pass0 (pa_cons (pv 2) pa_nil)))))))
  pss_nil)
  (pss_one (ps_ret (pv 1)))))
theorem ok__law_listed {k : Nat} {sp sp__law_listed : Sp} (Z : ModF K mg) (c__law_listed : FnR P w K mg base CX0 k (He.ga K "_law_listed") sp__law_listed) (len : ∀ vs H Q E, sp vs H Q E → vs.length = 1) (pure : ∀ vs H Q E, sp vs H Q E → t__law_listed K sp__law_listed { nx := fun _ H' => Q .non H', rt := Q } (L2.start n__law_listed vs) H) : FnR P w K mg base CX0 (k + 1) (He.ga K "_law_listed") sp := by
  obtain ⟨fd, F⟩ := Z.d__law_listed
  have b : Binds K fd ["term"] [] := F.bindsN fun _ _ _ _ _ _ us hl => match us, hl with | [_], _ => rfl
  refine (FnOk.raw (F.ok (CX := CX0) sc__law_listed len fun cdv A outer s H vs Q E hr h => ⟨t__law_listed K sp__law_listed, PSs.nox ?_, pure vs H Q E h⟩) b .nil).imp fun vs H Q E h => (List.append_nil vs).symm ▸ h
  have hu := hr.units
  have hu2 := units65 hr
  have hr0 := hr.mono (j := k) (by omega)
  exact (pss_cons (ps_if (pt_cmpR (o_eq hu) (pe_ix (o_ix hu) (pv 0) pe_int (fun _ _ => rfl)) pe_str (nomark _))
  (pss_one (ps_ret (pe_lst (pa_cons pe_str (pa_cons (pe_ix (o_ix hu) (pv 0) pe_int (fun _ _ => rfl)) (pa_cons (pe_lc (own := [("part", 1)]) rfl sc__law_listed.nd (pi_any (pe_ix (o_ix hu) (pv 0) pe_int (fun _ _ => rfl))) (blkOk_by (N := n__law_listed) (sc := defScope s__law_listed) (own := [("part", 1)]) (by decide +kernel)) (fun _ _ _ _ _ => (pg_name (i := 1) sc__law_listed.nd rfl (by first | exact .inl rfl | exact .inr rfl))) (fun _ _ _ _ _ => pts_nil) (fun _ _ _ _ _ => (pe_callR c__law_listed hr0 (by rfl) Z.g__law_listed Z.k__law_listed pass0 (pa_cons (pv 1) pa_nil)))) pa_nil))))))
  pss_nil)
  (pss_one (ps_ret (pe_callTy (c_listA rfl) (by rfl) Z.f_list (by decide +kernel) (pa_cons (pv 0) pa_nil)))))
theorem ok_law {k : Nat} {sp sp__law_cell sp__law_digits sp__law_draw_term sp__law_listed sp__law_same sp__law_term_nodes sp__law_term_text sp_calls_of sp_deeds_of sp_is_body sp_is_term sp_node_total sp_read_term sp_things_of sp_write_term : Sp} {fd : FuncData} (F : FunD K "law" "law" (defArgs s_law) (defBody s_law) (defScope s_law) [] [] (He.ga K "law") fd) (Z : ModF K mg) (c__law_cell : FnR P w K mg base CX0 k (He.ga K "_law_cell") sp__law_cell) (c__law_digits : FnR P w K mg base CX0 k (He.ga K "_law_digits") sp__law_digits) (c__law_draw_term : FnR P w K mg base CX0 k (He.ga K "_law_draw_term") sp__law_draw_term) (c__law_listed : FnR P w K mg base CX0 k (He.ga K "_law_listed") sp__law_listed) (c__law_same : FnR P w K mg base CX0 k (He.ga K "_law_same") sp__law_same) (c__law_term_nodes : FnR P w K mg base CX0 k (He.ga K "_law_term_nodes") sp__law_term_nodes) (c__law_term_text : FnR P w K mg base CX0 k (He.ga K "_law_term_text") sp__law_term_text) (c_calls_of : FnR P w K mg base CX0 k (He.ga K "calls_of") sp_calls_of) (c_deeds_of : FnR P w K mg base CX0 k (He.ga K "deeds_of") sp_deeds_of) (c_is_body : FnR P w K mg base CX0 k (He.ga K "is_body") sp_is_body) (c_is_term : FnR P w K mg base CX0 k (He.ga K "is_term") sp_is_term) (c_node_total : FnR P w K mg base CX0 k (He.ga K "node_total") sp_node_total) (c_read_term : FnR P w K mg base CX0 k (He.ga K "read_term") sp_read_term) (c_things_of : FnR P w K mg base CX0 k (He.ga K "things_of") sp_things_of) (c_write_term : FnR P w K mg base CX0 k (He.ga K "write_term") sp_write_term) (len : ∀ vs H Q E, sp vs H Q E → vs.length = 1) (pure : ∀ vs H Q E, sp vs H Q E → t_law K sp__law_cell sp__law_digits sp__law_draw_term sp__law_listed sp__law_same sp__law_term_nodes sp__law_term_text sp_calls_of sp_deeds_of sp_is_body sp_is_term sp_node_total sp_read_term sp_things_of sp_write_term { nx := fun _ H' => Q .non H', rt := Q } (L2.start n_law vs) H) : FnOk P w K mg base CX0 (k + 1) (He.ga K "law") fd ["script"] sp := by
  refine F.ok (CX := CX0) sc_law len fun cdv A outer s H vs Q E hr h => ⟨t_law K sp__law_cell sp__law_digits sp__law_draw_term sp__law_listed sp__law_same sp__law_term_nodes sp__law_term_text sp_calls_of sp_deeds_of sp_is_body sp_is_term sp_node_total sp_read_term sp_things_of sp_write_term, PSs.nox ?_, pure vs H Q E h⟩
  have hu := hr.units
  have hu2 := units65 hr
  have hr0 := hr.mono (j := k) (by omega)
  exact (pss_cons (ps_set (i := 1) sc_law.nd rfl (by first | exact .inl rfl | exact .inr rfl) (pe_ix (o_ix hu) (pe_lst (pa_cons pe_str (pa_cons pe_str (pa_cons pe_str (pa_cons pe_str pa_nil))))) (pe_op o_mod (pe_callTy c_int (by rfl) Z.f_int (by decide +kernel) (pa_cons (pe_callR c__law_cell hr0 (by rfl) Z.g__law_cell Z.k__law_cell pass0 (pa_cons (pv 0) (pa_cons pe_int pa_nil))) pa_nil)) pe_int) (fun _ _ => rfl)))
  (pss_cons (ps_set (i := 2) sc_law.nd rfl (by first | exact .inl rfl | exact .inr rfl) (pe_callR c__law_digits hr0 (by rfl) Z.g__law_digits Z.k__law_digits pass0 (pa_cons (pe_callR c__law_cell hr0 (by rfl) Z.g__law_cell Z.k__law_cell pass0 (pa_cons (pv 0) (pa_cons pe_int pa_nil))) (pa_cons (pe_lc (own := [("k", 17)]) rfl sc_law.nd (pi_range1 (by rfl) Z.f_range (pa_cons pe_int pa_nil)) (blkOk_by (N := n_law) (sc := defScope s_law) (own := [("k", 17)]) (by decide +kernel)) (fun _ _ _ _ _ => (pg_name (i := 17) sc_law.nd rfl (by first | exact .inl rfl | exact .inr rfl))) (fun _ _ _ _ _ => pts_nil) (fun _ _ _ _ _ => pe_int)) pa_nil))))
  (pss_cons (ps_set (i := 3) sc_law.nd rfl (by first | exact .inl rfl | exact .inr rfl) (pe_ix (o_ix hu) (pe_callR c__law_draw_term hr0 (by rfl) Z.g__law_draw_term Z.k__law_draw_term pass0 (pa_cons (pv 2) (pa_cons pe_int (pa_cons (pe_op o_add pe_int (pe_op o_mod (pe_callTy c_int (by rfl) Z.f_int (by decide +kernel) (pa_cons (pe_ix (o_ix hu) (pv 2) pe_int (fun _ _ => rfl)) pa_nil)) pe_int)) (pa_cons (pv 1) pa_nil))))) pe_int (fun _ _ => rfl)))
  (pss_cons (ps_set (i := 4) sc_law.nd rfl (by first | exact .inl rfl | exact .inr rfl) (pe_callR c__law_term_nodes hr0 (by rfl) Z.g__law_term_nodes Z.k__law_term_nodes pass0 (pa_cons (pv 3) pa_nil)))
  (pss_cons (ps_if (PW.pt (pw_or (pt_cmpR o_isnot (pe_callR c_is_term hr0 (by rfl) Z.g_is_term Z.k_is_term pass0 (pa_cons (pv 3) (pa_cons (pv 1) pa_nil))) pe_bl (nomark _)) (pw_or1 (pt_cmpR o_isnot (pe_callR c_is_term hr0 (by rfl) Z.g_is_term Z.k_is_term pass0 (pa_cons (pe_callR c__law_listed hr0 (by rfl) Z.g__law_listed Z.k__law_listed pass0 (pa_cons (pv 3) pa_nil)) (pa_cons (pv 1) pa_nil))) pe_bl (nomark _)))))
  (pss_one (ps_ret pe_bl))
  pss_nil)
  (pss_cons (ps_if (PW.pt (pw_or (PW.pt (pw_and (pt_cmpR o_isnot (pe_callR c_is_body hr0 (by rfl) Z.g_is_body Z.k_is_body pass0 (pa_cons (pv 3) (pa_cons (pv 1) pa_nil))) pe_bl (nomark _)) (pw_and1 (pt_cmpR (o_ne hu) (pe_ix (o_ix hu) (pv 3) pe_int (fun _ _ => rfl)) pe_str (nomark _))))) (pw_or1 (PW.pt (pw_and (pt_cmpR o_isnot (pe_callR c_is_body hr0 (by rfl) Z.g_is_body Z.k_is_body pass0 (pa_cons (pv 3) (pa_cons (pv 1) pa_nil))) pe_bl (nomark _)) (pw_and1 (pt_cmpR (o_eq hu) (pe_ix (o_ix hu) (pv 3) pe_int (fun _ _ => rfl)) pe_str (nomark _))))))))
  (pss_one (ps_ret pe_bl))
  pss_nil)
  (pss_cons (ps_if (PW.pt (pw_or (pt_cmpR (o_ne hu) (pe_callR c_node_total hr0 (by rfl) Z.g_node_total Z.k_node_total pass0 (pa_cons (pv 3) pa_nil)) (pe_callB c_len (by rfl) Z.f_len (by decide +kernel) (pa_cons (pv 4) pa_nil)) (nomark _)) (pw_or1 (pt_cmpR (o_ne hu) (pe_callR c_node_total hr0 (by rfl) Z.g_node_total Z.k_node_total pass0 (pa_cons (pe_callR c__law_listed hr0 (by rfl) Z.g__law_listed Z.k__law_listed pass0 (pa_cons (pv 3) pa_nil)) pa_nil)) (pe_callB c_len (by rfl) Z.f_len (by decide +kernel) (pa_cons (pv 4) pa_nil)) (nomark _)))))
  (pss_one (ps_ret pe_bl))
  pss_nil)
  (pss_cons (ps_if (pt_not (pt_truth (pe_callR c__law_same hr0 (by rfl) Z.g__law_same Z.k__law_same pass0 (pa_cons (pe_callR c_calls_of hr0 (by rfl) Z.g_calls_of Z.k_calls_of pass0 (pa_cons (pv 3) pa_nil)) (pa_cons (pe_callTy c_tuple (by rfl) Z.f_tuple (by decide +kernel) (pa_cons (pe_lc (own := [("node", 18)]) rfl sc_law.nd (pi_any (pv 4)) (blkOk_by (N := n_law) (sc := defScope s_law) (own := [("node", 18)]) (by decide +kernel)) (fun _ _ _ _ _ => (pg_name (i := 18) sc_law.nd rfl (by first | exact .inl rfl | exact .inr rfl))) (fun _ _ _ _ _ => (pts_one (pt_cmpR (o_eq hu) (pe_ix (o_ix hu) (pv 18) pe_int (fun _ _ => rfl)) pe_str (nomark _)))) (fun _ _ _ _ _ => (pe_tup (pa_cons (pe_ix (o_ix hu) (pv 18) pe_int (fun _ _ => rfl)) (pa_cons (pe_ix (o_ix hu) (pv 18) pe_int (fun _ _ => rfl)) pa_nil))))) pa_nil)) pa_nil))) (by intro _; rfl)))
  (pss_one (ps_ret pe_bl))
  pss_nil)
  (pss_cons (ps_if (pt_not (pt_truth (pe_callR c__law_same hr0 (by rfl) Z.g__law_same Z.k__law_same pass0 (pa_cons (pe_callR c_things_of hr0 (by rfl) Z.g_things_of Z.k_things_of pass0 (pa_cons (pv 3) pa_nil)) (pa_cons (pe_callTy c_tuple (by rfl) Z.f_tuple (by decide +kernel) (pa_cons (pe_lc (own := [("node", 18)]) rfl sc_law.nd (pi_any (pv 4)) (blkOk_by (N := n_law) (sc := defScope s_law) (own := [("node", 18)]) (by decide +kernel)) (fun _ _ _ _ _ => (pg_name (i := 18) sc_law.nd rfl (by first | exact .inl rfl | exact .inr rfl))) (fun _ _ _ _ _ => (pts_one (pt_cmpR (o_eq hu) (pe_ix (o_ix hu) (pv 18) pe_int (fun _ _ => rfl)) pe_str (nomark _)))) (fun _ _ _ _ _ => (pe_ix (o_ix hu) (pv 18) pe_int (fun _ _ => rfl)))) pa_nil)) pa_nil))) (by intro _; rfl)))
  (pss_one (ps_ret pe_bl))
  pss_nil)
  (pss_cons (ps_if (pt_not (pt_truth (pe_callR c__law_same hr0 (by rfl) Z.g__law_same Z.k__law_same pass0 (pa_cons (pe_callR c_deeds_of hr0 (by rfl) Z.g_deeds_of Z.k_deeds_of pass0 (pa_cons (pv 3) pa_nil)) (pa_cons (pe_callTy c_tuple (by rfl) Z.f_tuple (by decide +kernel) (pa_cons (pe_lc (own := [("node", 18)]) rfl sc_law.nd (pi_any (pv 4)) (blkOk_by (N := n_law) (sc := defScope s_law) (own := [("node", 18)]) (by decide +kernel)) (fun _ _ _ _ _ => (pg_name (i := 18) sc_law.nd rfl (by first | exact .inl rfl | exact .inr rfl))) (fun _ _ _ _ _ => (pts_one (pt_cmpR (o_eq hu) (pe_ix (o_ix hu) (pv 18) pe_int (fun _ _ => rfl)) pe_str (nomark _)))) (fun _ _ _ _ _ => (pe_tup (pa_cons (pe_ix (o_ix hu) (pv 18) pe_int (fun _ _ => rfl)) (pa_cons (pe_callB c_len (by rfl) Z.f_len (by decide +kernel) (pa_cons (pe_ix (o_ix hu) (pv 18) pe_int (fun _ _ => rfl)) pa_nil)) pa_nil))))) pa_nil)) pa_nil))) (by intro _; rfl)))
  (pss_one (ps_ret pe_bl))
  pss_nil)
  (pss_cons (ps_set (i := 5) sc_law.nd rfl (by first | exact .inl rfl | exact .inr rfl) (pe_callR c__law_term_text hr0 (by rfl) Z.g__law_term_text Z.k__law_term_text pass0 (pa_cons (pv 3) pa_nil)))
  (pss_cons (ps_if (PW.pt (pw_or (pt_cmpR (o_ne hu) (pe_callR c_write_term hr0 (by rfl) Z.g_write_term Z.k_write_term pass0 (pa_cons (pv 3) pa_nil)) (pv 5) (nomark _)) (pw_or1 (pt_not (pt_truth (pe_callR c__law_same hr0 (by rfl) Z.g__law_same Z.k__law_same pass0 (pa_cons (pe_callR c_read_term hr0 (by rfl) Z.g_read_term Z.k_read_term pass0 (pa_cons (pv 5) (pa_cons (pv 1) pa_nil))) (pa_cons (pv 3) pa_nil))) (by intro _; rfl))))))
  (pss_one (ps_ret pe_bl))
  pss_nil)
  (pss_cons (ps_set (i := 6) sc_law.nd rfl (by first | exact .inl rfl | exact .inr rfl) (pe_tup (pa_cons pe_str (pa_cons pe_str pa_nil))))
  (pss_cons (ps_set (i := 7) sc_law.nd rfl (by first | exact .inl rfl | exact .inr rfl) (pe_op o_mul (pe_ix (o_ix hu) (pv 1) pe_int (fun _ _ => rfl)) pe_int))
  (pss_cons (ps_set (i := 8) sc_law.nd rfl (by first | exact .inl rfl | exact .inr rfl) (pe_lst (pa_cons (pe_tup (pa_cons pe_str (pa_cons (pv 7) pa_nil))) (pa_cons (pe_tup (pa_cons pe_str (pa_cons pe_str (pa_cons (pv 7) pa_nil)))) (pa_cons (pe_tup (pa_cons pe_str (pa_cons pe_str pa_nil))) (pa_cons (pe_tup (pa_cons pe_str (pa_cons pe_str (pa_cons pe_str pa_nil)))) (pa_cons (pe_tup (pa_cons pe_str (pa_cons pe_str (pa_cons pe_str pa_nil)))) (pa_cons (pe_tup (pa_cons pe_str (pa_cons pe_str (pa_cons (pe_tup pa_nil) pa_nil)))) pa_nil))))))))
  (pss_cons (ps_set (i := 8) sc_law.nd rfl (by first | exact .inl rfl | exact .inr rfl) (pe_op o_add (pv 8) (pe_lst (pa_cons (pe_tup (pa_cons pe_str (pa_cons pe_str (pa_cons (pe_tup pa_nil) pa_nil)))) (pa_cons (pe_tup (pa_cons pe_str (pa_cons pe_str (pa_cons (pe_tup pa_nil) pa_nil)))) (pa_cons (pe_tup (pa_cons pe_str (pa_cons pe_str (pa_cons (pe_tup (pa_cons (pv 6) (pa_cons (pv 6) (pa_cons (pv 6) (pa_cons (pv 6) (pa_cons (pv 6) pa_nil)))))) pa_nil)))) (pa_cons (pe_tup (pa_cons pe_str pa_nil)) (pa_cons (pe_tup (pa_cons pe_str (pa_cons pe_str pa_nil))) (pa_cons (pe_tup (pa_cons pe_str (pa_cons pe_str pa_nil))) pa_nil)))))))))
  (pss_cons (ps_set (i := 8) sc_law.nd rfl (by first | exact .inl rfl | exact .inr rfl) (pe_op o_add (pv 8) (pe_lst (pa_cons pe_non (pa_cons pe_int (pa_cons pe_str (pa_cons pe_bl (pa_cons (pe_tup pa_nil) (pa_cons (pe_tup (pa_cons pe_str (pa_cons pe_str (pa_cons pe_non pa_nil)))) (pa_cons (pe_tup (pa_cons pe_str (pa_cons pe_str (pa_cons (pe_tup (pa_cons pe_non pa_nil)) pa_nil)))) (pa_cons (pe_tup (pa_cons pe_str (pa_cons pe_bl (pa_cons pe_str pa_nil)))) (pa_cons (pe_tup (pa_cons pe_str (pa_cons pe_int pa_nil))) pa_nil))))))))))))
  (pss_cons (ps_set (i := 9) sc_law.nd rfl (by first | exact .inl rfl | exact .inr rfl) (pe_ix (o_ix hu) (pv 8) (pe_op o_mod (pe_callTy c_int (by rfl) Z.f_int (by decide +kernel) (pa_cons (pe_ix (o_ix hu) (pv 2) pe_int (fun _ _ => rfl)) pa_nil)) (pe_callB c_len (by rfl) Z.f_len (by decide +kernel) (pa_cons (pv 8) pa_nil))) (fun _ _ => rfl)))
  (pss_cons (ps_if (PW.pt (pw_or (pt_cmpR o_isnot (pe_callR c_is_term hr0 (by rfl) Z.g_is_term Z.k_is_term pass0 (pa_cons (pv 9) (pa_cons (pv 1) pa_nil))) pe_bl (nomark _)) (pw_or (pt_cmpR o_isnot (pe_callR c_is_term hr0 (by rfl) Z.g_is_term Z.k_is_term pass0 (pa_cons (pe_tup (pa_cons pe_str (pa_cons pe_str (pa_cons (pe_tup (pa_cons (pv 6) (pa_cons (pv 9) pa_nil))) pa_nil)))) (pa_cons (pv 1) pa_nil))) pe_bl (nomark _)) (pw_or1 (pt_cmpR o_isnot (pe_callR c_is_body hr0 (by rfl) Z.g_is_body Z.k_is_body pass0 (pa_cons (pv 9) (pa_cons (pv 1) pa_nil))) pe_bl (nomark _))))))
  (pss_one (ps_ret pe_bl))
  pss_nil)
  (pss_cons (ps_set (i := 10) sc_law.nd rfl (by first | exact .inl rfl | exact .inr rfl) (pe_tup (pa_cons pe_str (pa_cons pe_str (pa_cons (pe_tup (pa_cons (pv 6) (pa_cons (pv 6) (pa_cons (pv 6) pa_nil)))) pa_nil)))))
  (pss_cons (ps_set (i := 11) sc_law.nd rfl (by first | exact .inl rfl | exact .inr rfl) (pe_tup (pa_cons pe_str (pa_cons pe_str (pa_cons (pe_tup (pa_cons (pv 10) (pa_cons (pv 10) (pa_cons (pv 6) (pa_cons (pe_tup (pa_cons pe_str (pa_cons pe_str (pa_cons (pe_tup (pa_cons (pv 6) pa_nil)) pa_nil)))) pa_nil))))) pa_nil)))))
  (pss_cons (ps_if (PW.pt (pw_or (pt_cmpR o_isnot (pe_callR c_is_term hr0 (by rfl) Z.g_is_term Z.k_is_term pass0 (pa_cons (pv 11) (pa_cons (pv 1) pa_nil))) pe_bl (nomark _)) (pw_or1 (pt_cmpR o_isnot (pe_callR c_is_term hr0 (by rfl) Z.g_is_term Z.k_is_term pass0 (pa_cons (pe_tup (pa_cons pe_str (pa_cons pe_str (pa_cons (pe_tup (pa_cons (pv 11) pa_nil)) pa_nil)))) (pa_cons (pv 1) pa_nil))) pe_bl (nomark _)))))
  (pss_one (ps_ret pe_bl))
  pss_nil)
  (pss_cons (ps_set (i := 12) sc_law.nd rfl (by first | exact .inl rfl | exact .inr rfl) (pe_op o_mod (pe_callTy c_int (by rfl) Z.f_int (by decide +kernel) (pa_cons (pe_ix (o_ix hu) (pv 2) pe_int (fun _ _ => rfl)) pa_nil)) (pe_callB c_len (by rfl) Z.f_len (by decide +kernel) (pa_cons (pv 5) pa_nil))))
  (pss_cons (ps_set (i := 13) sc_law.nd rfl (by first | exact .inl rfl | exact .inr rfl) (pe_ix (o_ix hu) pe_str (pe_op o_mod (pe_callTy c_int (by rfl) Z.f_int (by decide +kernel) (pa_cons (pe_ix (o_ix hu) (pv 2) pe_int (fun _ _ => rfl)) pa_nil)) pe_int) (fun _ _ => rfl)))
  (pss_cons (ps_set (i := 14) sc_law.nd rfl (by first | exact .inl rfl | exact .inr rfl) (pe_lst (pa_cons (pe_op o_add (pe_slice s_any (pv 5) po_none (po_some (pv 12))) (pe_slice s_any (pv 5) (po_some (pe_op o_add (pv 12) pe_int)) po_none)) (pa_cons (pe_op o_add (pe_op o_add (pe_slice s_any (pv 5) po_none (po_some (pv 12))) (pv 13)) (pe_slice s_any (pv 5) (po_some (pv 12)) po_none)) (pa_cons (pe_op o_add (pe_op o_add (pe_slice s_any (pv 5) po_none (po_some (pv 12))) (pv 13)) (pe_slice s_any (pv 5) (po_some (pe_op o_add (pv 12) pe_int)) po_none)) (pa_cons (pe_op o_add (pv 5) pe_str) (pa_cons (pe_op o_add pe_str (pv 5)) (pa_cons pe_str pa_nil))))))))
  (pss_cons (ps_for PassesOwn.never rfl (pi_any (pv 14)) (pg_name (i := 15) sc_law.nd rfl (by first | exact .inl rfl | exact .inr rfl))
  (pss_cons (ps_set (i := 16) sc_law.nd rfl (by first | exact .inl rfl | exact .inr rfl) (pe_callR c_read_term hr0 (by rfl) Z.g_read_term Z.k_read_term pass0 (pa_cons (pv 15) (pa_cons (pv 1) pa_nil))))
  (pss_one (ps_if (pt_cmpR o_isnot (pv 16) pe_non (nomark _))
  (pss_one (ps_if (PW.pt (pw_or (pt_cmpR o_isnot (pe_callR c_is_term hr0 (by rfl) Z.g_is_term Z.k_is_term pass0 (pa_cons (pv 16) (pa_cons (pv 1) pa_nil))) pe_bl (nomark _)) (pw_or1 (pt_cmpR (o_ne hu) (pe_callR c__law_term_text hr0 (by rfl) Z.g__law_term_text Z.k__law_term_text pass0 (pa_cons (pv 16) pa_nil)) (pv 15) (nomark _)))))
  (pss_one (ps_ret pe_bl))
  pss_nil))
  (pss_one (ps_if (pt_cmpR (o_eq hu) (pv 15) (pv 5) (nomark _))
  (pss_one (ps_ret pe_bl))
  pss_nil))))))
  (pss_one (ps_ret (pe_andT (pe_cmpR o_is (pe_callR c_read_term hr0 (by rfl) Z.g_read_term Z.k_read_term pass0 (pa_cons pe_str (pa_cons (pv 1) pa_nil))) pe_non (nomark _)) (pe_andT (pe_cmpR o_is (pe_callR c_read_term hr0 (by rfl) Z.g_read_term Z.k_read_term pass0 (pa_cons pe_str (pa_cons (pv 1) pa_nil))) pe_non (nomark _)) (pe_one (pe_callR c__law_same hr0 (by rfl) Z.g__law_same Z.k__law_same pass0 (pa_cons (pe_callR c_read_term hr0 (by rfl) Z.g_read_term Z.k_read_term pass0 (pa_cons pe_str (pa_cons (pv 1) pa_nil))) (pa_cons (pv 6) pa_nil))))))))))))))))))))))))))))))))))
end

end K01

set_option Elab.async false
set_option linter.all false
set_option maxRecDepth 100000
set_option maxHeartbeats 8000000
namespace K01
open PySem PySem.Spec PyProof.Rows L2 G Pm Tm
section
variable {P : Program} {w : World} {K : PySem.W.Frag} {mg : Str → Option Value} {base : Heap}
theorem F_is_row (Z : ModF K mg) : FnR P w K mg base CX0 1 (He.ga K "is_row") (spD K relRow) :=
  ok_is_row (k := 0) Z 
  (spD_len (fun ds r h => by obtain ⟨_, rfl, _⟩ := h; rfl)) (fun vs H Q E q => fits_of (E := E) (n := 1) (fun ds r h => row_wp ds r h) rfl vs H Q q)
theorem F_is_path (Z : ModF K mg) : FnR P w K mg base CX0 1 (He.ga K "is_path") (spD K relIsPath) :=
  ok_is_path (k := 0) Z 
  (spD_len (fun ds r h => by obtain ⟨_, _, rfl, _⟩ := h; rfl)) (fun vs H Q E q => fits_of (E := E) (n := 3) (fun ds r h => is_path_wp ds r h) rfl vs H Q q)
theorem F_is_function_name (Z : ModF K mg) : FnR P w K mg base CX0 1 (He.ga K "is_function_name") (spD K relFn) :=
  ok_is_function_name (k := 0) Z 
  (spD_len (fun ds r h => by obtain ⟨_, rfl, _⟩ := h; rfl)) (fun vs H Q E q => fits_of (E := E) (n := 2) (fun ds r h => fn_wp ds r h) rfl vs H Q q)
theorem F_is_deed_name (Z : ModF K mg) : FnR P w K mg base CX0 1 (He.ga K "is_deed_name") (spD K relDn) :=
  ok_is_deed_name (k := 0) Z 
  (spD_len (fun ds r h => by obtain ⟨_, rfl, _⟩ := h; rfl)) (fun vs H Q E q => fits_of (E := E) (n := 2) (fun ds r h => dn_wp ds r h) rfl vs H Q q)
theorem R_node_bound (Z : ModF K mg) : ∀ n, FnR P w K mg base CX0 (n + 2) (He.ga K "node_bound") (spD K (relNB (n)))
  | 0 => fun A outer s H us vs Q E hr e0 r hs => by obtain ⟨_, _, _, _, _, h, _⟩ := hs; obtain ⟨_, _, _, _, h, _⟩ := h; exact absurd h (Nat.not_lt_zero _)
  | n + 1 => by
    have ih := R_node_bound Z n
    exact ok_node_bound (k := n + 2) Z ((F_is_row (base := base) Z).mono (by omega)) ih (spD_len (fun ds r h => by obtain ⟨_, _, rfl, _⟩ := h; rfl)) (fun vs H Q E q => fits_of (E := E) (n := 4) (fun ds r h => nb_wp n ds r h) rfl vs H Q q)
theorem F_node_bound (Z : ModF K mg) : FnR P w K mg base CX0 62 (He.ga K "node_bound") (spD K (relNB (60))) := R_node_bound Z 60
theorem R_is_shaped (Z : ModF K mg) : ∀ n, FnR P w K mg base CX0 (n + 2) (He.ga K "is_shaped") (spD K (relSh (n)))
  | 0 => fun A outer s H us vs Q E hr e0 r hs => by obtain ⟨_, _, _, _, _, h, _⟩ := hs; obtain ⟨_, _, _, _, h, _⟩ := h; exact absurd h (Nat.not_lt_zero _)
  | n + 1 => by
    have ih := R_is_shaped Z n
    exact ok_is_shaped (k := n + 2) Z ((F_is_deed_name (base := base) Z).mono (by omega)) ((F_is_function_name (base := base) Z).mono (by omega)) ((F_is_path (base := base) Z).mono (by omega)) ((F_is_row (base := base) Z).mono (by omega)) ih (spD_len (fun ds r h => by obtain ⟨_, _, rfl, _⟩ := h; rfl)) (fun vs H Q E q => fits_of (E := E) (n := 3) (fun ds r h => sh_wp n ds r h) rfl vs H Q q)
theorem F_is_shaped (Z : ModF K mg) : FnR P w K mg base CX0 62 (He.ga K "is_shaped") (spD K (relSh (60))) := R_is_shaped Z 60
theorem F_is_term (Z : ModF K mg) : FnR P w K mg base CX0 63 (He.ga K "is_term") (spD K relTm) :=
  ok_is_term (k := 62) Z ((F_is_shaped (base := base) Z).mono (by decide)) ((F_node_bound (base := base) Z).mono (by decide))
  (spD_len (fun ds r h => by obtain ⟨_, _, rfl, _⟩ := h; rfl)) (fun vs H Q E q => fits_of (E := E) (n := 2) (fun ds r h => tm_wp ds r h) rfl vs H Q q)
theorem F_is_body (Z : ModF K mg) : FnR P w K mg base CX0 64 (He.ga K "is_body") (spD K relBd) :=
  ok_is_body (k := 63) Z ((F_is_term (base := base) Z).mono (by decide))
  (spD_len (fun ds r h => by obtain ⟨_, _, rfl, _⟩ := h; rfl)) (fun vs H Q E q => fits_of (E := E) (n := 2) (fun ds r h => bd_wp ds r h) rfl vs H Q q)
theorem R_nodes_of (Z : ModF K mg) : ∀ n, FnR P w K mg base CX0 (n + 1) (He.ga K "nodes_of") (spD K (relNodes (n)))
  | 0 => fun A outer s H us vs Q E hr e0 r hs => by obtain ⟨_, _, _, _, _, h, _⟩ := hs; obtain ⟨_, t, _, h, _⟩ := h; exact absurd h (by cases t <;> simp [Tm.T.dep])
  | n + 1 => by
    have ih := R_nodes_of Z n
    exact ok_nodes_of (k := n + 1) Z ih (spD_len (fun ds r h => by obtain ⟨_, _, rfl, _⟩ := h; rfl)) (fun vs H Q E q => fits_of (E := E) (n := 3) (fun ds r h => nodes_wp n ds r h) rfl vs H Q q)
theorem F_nodes_of (Z : ModF K mg) : FnR P w K mg base CX0 14 (He.ga K "nodes_of") (spD K (relNodes (13))) := R_nodes_of Z 13
theorem F_node_total (Z : ModF K mg) : FnR P w K mg base CX0 15 (He.ga K "node_total") (spD K relTot) :=
  ok_node_total (k := 14) Z ((F_nodes_of (base := base) Z).mono (by decide))
  (spD_len (fun ds r h => by obtain ⟨_, _, rfl, _⟩ := h; rfl)) (fun vs H Q E q => fits_of (E := E) (n := 1) (fun ds r h => tot_wp ds r h) rfl vs H Q q)
theorem F_calls_of (Z : ModF K mg) : FnR P w K mg base CX0 15 (He.ga K "calls_of") (spD K relCalls) :=
  ok_calls_of (k := 14) Z ((F_nodes_of (base := base) Z).mono (by decide))
  (spD_len (fun ds r h => by obtain ⟨_, _, rfl, _⟩ := h; rfl)) (fun vs H Q E q => fits_of (E := E) (n := 2) (fun ds r h => calls_wp ds r h) rfl vs H Q q)
theorem F_things_of (Z : ModF K mg) : FnR P w K mg base CX0 15 (He.ga K "things_of") (spD K relThings) :=
  ok_things_of (k := 14) Z ((F_nodes_of (base := base) Z).mono (by decide))
  (spD_len (fun ds r h => by obtain ⟨_, _, rfl, _⟩ := h; rfl)) (fun vs H Q E q => fits_of (E := E) (n := 2) (fun ds r h => things_wp ds r h) rfl vs H Q q)
theorem F_deeds_of (Z : ModF K mg) : FnR P w K mg base CX0 15 (He.ga K "deeds_of") (spD K relDeeds) :=
  ok_deeds_of (k := 14) Z ((F_nodes_of (base := base) Z).mono (by decide))
  (spD_len (fun ds r h => by obtain ⟨_, _, rfl, _⟩ := h; rfl)) (fun vs H Q E q => fits_of (E := E) (n := 2) (fun ds r h => deeds_wp ds r h) rfl vs H Q q)
theorem F_path_text (Z : ModF K mg) : FnR P w K mg base CX0 1 (He.ga K "path_text") (spD K relPT) :=
  ok_path_text (k := 0) Z 
  (spD_len (fun ds r h => by obtain ⟨_, rfl, _⟩ := h; rfl)) (fun vs H Q E q => fits_of (E := E) (n := 1) (fun ds r h => pt_wp ds r h) rfl vs H Q q)
theorem R_write_term (Z : ModF K mg) : ∀ n, FnR P w K mg base CX0 (n + 2) (He.ga K "write_term") (spD K (relWr (n)))
  | 0 => fun A outer s H us vs Q E hr e0 r hs => by obtain ⟨_, _, _, _, _, h, _⟩ := hs; obtain ⟨_, t, _, h, _⟩ := h; exact absurd h (by cases t <;> simp [Tm.T.dep])
  | n + 1 => by
    have ih := R_write_term Z n
    exact ok_write_term (k := n + 2) Z ((F_path_text (base := base) Z).mono (by omega)) ih (spD_len (fun ds r h => by obtain ⟨_, _, rfl, _⟩ := h; rfl)) (fun vs H Q E q => fits_of (E := E) (n := 3) (fun ds r h => wr_wp n ds r h) rfl vs H Q q)
theorem F_write_term (Z : ModF K mg) : FnR P w K mg base CX0 15 (He.ga K "write_term") (spD K (relWr (13))) := R_write_term Z 13
theorem F_read_path (Z : ModF K mg) : FnR P w K mg base CX0 1 (He.ga K "read_path") (spD K relRP) :=
  ok_read_path (k := 0) Z 
  (spD_len (fun ds r h => by obtain ⟨_, rfl, _⟩ := h; rfl)) (fun vs H Q E q => fits_of (E := E) (n := 1) (fun ds r h => rp_wp ds r h) rfl vs H Q q)
theorem F_word_end (Z : ModF K mg) : FnR P w K mg base CX0 1 (He.ga K "word_end") (spD K relWE) :=
  ok_word_end (k := 0) Z 
  (spD_len (fun ds r h => by obtain ⟨_, _, rfl, _⟩ := h; rfl)) (fun vs H Q E q => fits_of (E := E) (n := 2) (fun ds r h => we_wp ds r h) rfl vs H Q q)
theorem R_term_at (Z : ModF K mg) : ∀ n, FnR P w K mg base CX0 (2 * n + 2) (He.ga K "deed_at") (spD K (relDA (n))) ∧ FnR P w K mg base CX0 (2 * n + 1 + 2) (He.ga K "term_at") (spD K (relTA (n)))
  | 0 => by
    have d : FnR P w K mg base CX0 (2 * 0 + 2) (He.ga K "deed_at") (spD K (relDA (0))) := fun A outer s H us vs Q E hr e0 r hs => by obtain ⟨_, _, _, _, _, h, _⟩ := hs; exact h.elim
    exact ⟨d, ok_term_at (k := 2 * 0 + 2) Z d ((F_is_function_name (base := base) Z).mono (by omega)) ((F_read_path (base := base) Z).mono (by omega)) ((F_word_end (base := base) Z).mono (by omega)) (spD_len (fun ds r h => by obtain ⟨_, _, _, rfl, _⟩ := h; rfl)) (fun vs H Q E q => fits_of (E := E) (n := 6) (fun ds r h => ta_wp 0 ds r h) rfl vs H Q q)⟩
  | n + 1 => by
    obtain ⟨_, t⟩ := R_term_at Z n
    have d := ok_deed_at (k := 2 * n + 1 + 2) (sp := spD K (relDA ((n + 1)))) Z t (spD_len (fun ds r h => by obtain ⟨_, _, _, _, rfl, _⟩ := h; rfl)) (fun vs H Q E q => fits_of (E := E) (n := 7) (fun ds r h => da_wp n ds r h) rfl vs H Q q)
    exact ⟨d, ok_term_at (k := 2 * (n + 1) + 2) Z d ((F_is_function_name (base := base) Z).mono (by omega)) ((F_read_path (base := base) Z).mono (by omega)) ((F_word_end (base := base) Z).mono (by omega)) (spD_len (fun ds r h => by obtain ⟨_, _, _, rfl, _⟩ := h; rfl)) (fun vs H Q E q => fits_of (E := E) (n := 6) (fun ds r h => ta_wp (n + 1) ds r h) rfl vs H Q q)⟩
theorem F_term_at (Z : ModF K mg) : FnR P w K mg base CX0 27 (He.ga K "term_at") (spD K (relTA (12))) := (R_term_at Z 12).2
theorem F_read_term (Z : ModF K mg) : FnR P w K mg base CX0 64 (He.ga K "read_term") (spD K relRd) :=
  ok_read_term (k := 63) Z ((F_is_term (base := base) Z).mono (by decide)) ((F_term_at (base := base) Z).mono (by decide)) ((F_write_term (base := base) Z).mono (by decide))
  (spD_len (fun ds r h => by obtain ⟨_, _, rfl, _⟩ := h; rfl)) (fun vs H Q E q => fits_of (E := E) (n := 3) (fun ds r h => rd_wp ds r h) rfl vs H Q q)
theorem F__law_whole (Z : ModF K mg) : FnR P w K mg base CX0 1 (He.ga K "_law_whole") (spD K relWhole) :=
  ok__law_whole (k := 0) Z 
  (spD_len (fun ds r h => by obtain ⟨_, rfl, _⟩ := h; rfl)) (fun vs H Q E q => fits_of (E := E) (n := 1) (fun ds r h => whole_wp ds r h) rfl vs H Q q)
theorem F__law_cell (Z : ModF K mg) : FnR P w K mg base CX0 1 (He.ga K "_law_cell") (spD K relCell) :=
  ok__law_cell (k := 0) Z 
  (spD_len (fun ds r h => by obtain ⟨_, _, rfl, _⟩ := h; rfl)) (fun vs H Q E q => fits_of (E := E) (n := 4) (fun ds r h => cell_ds ds r h) rfl vs H Q q)
theorem F__law_digits (Z : ModF K mg) : FnR P w K mg base CX0 1 (He.ga K "_law_digits") (spD K relDigits) :=
  ok__law_digits (k := 0) Z 
  (spD_len (fun ds r h => by obtain ⟨_, _, rfl, _⟩ := h; rfl)) (fun vs H Q E q => fits_of (E := E) (n := 8) (fun ds r h => digits_ds ds r h) rfl vs H Q q)
theorem R__law_same (Z : ModF K mg) : ∀ n, FnR P w K mg base CX0 (n + 2) (He.ga K "_law_same") (spD K (relSame (n)))
  | 0 => fun A outer s H us vs Q E hr e0 r hs => by obtain ⟨_, _, _, _, _, h, _⟩ := hs; obtain ⟨_, _, _, _, _, h, _⟩ := h; exact absurd h (Nat.not_lt_zero _)
  | n + 1 => by
    have ih := R__law_same Z n
    exact ok__law_same (k := n + 2) Z ih ((F__law_whole (base := base) Z).mono (by omega)) (spD_len (fun ds r h => by obtain ⟨_, _, rfl, _⟩ := h; rfl)) (fun vs H Q E q => fits_of (E := E) (n := 3) (fun ds r h => same_ds n ds r h) rfl vs H Q q)
theorem F__law_same (Z : ModF K mg) : FnR P w K mg base CX0 32 (He.ga K "_law_same") (spD K (relSame (30))) := R__law_same Z 30
theorem F__law_path_text (Z : ModF K mg) : FnR P w K mg base CX0 1 (He.ga K "_law_path_text") (spD K relPT) :=
  ok__law_path_text (k := 0) Z 
  (spD_len (fun ds r h => by obtain ⟨_, rfl, _⟩ := h; rfl)) (fun vs H Q E q => fits_of (E := E) (n := 1) (fun ds r h => pt_wp ds r h) rfl vs H Q q)
theorem R__law_term_text (Z : ModF K mg) : ∀ n, FnR P w K mg base CX0 (n + 2) (He.ga K "_law_term_text") (spD K (relWr (n)))
  | 0 => fun A outer s H us vs Q E hr e0 r hs => by obtain ⟨_, _, _, _, _, h, _⟩ := hs; obtain ⟨_, t, _, h, _⟩ := h; exact absurd h (by cases t <;> simp [Tm.T.dep])
  | n + 1 => by
    have ih := R__law_term_text Z n
    exact ok__law_term_text (k := n + 2) Z ((F__law_path_text (base := base) Z).mono (by omega)) ih (spD_len (fun ds r h => by obtain ⟨_, _, rfl, _⟩ := h; rfl)) (fun vs H Q E q => fits_of (E := E) (n := 2) (fun ds r h => lwr_wp n ds r h) rfl vs H Q q)
theorem F__law_term_text (Z : ModF K mg) : FnR P w K mg base CX0 15 (He.ga K "_law_term_text") (spD K (relWr (13))) := R__law_term_text Z 13
theorem R__law_draw_term (Z : ModF K mg) : ∀ n, FnR P w K mg base CX0 (n + 1) (He.ga K "_law_draw_term") (spD K (relDr (n)))
  | 0 => fun A outer s H us vs Q E hr e0 r hs => by obtain ⟨_, _, _, _, _, h, _⟩ := hs; obtain ⟨_, _, _, _, _, _, _, _, _, h1, h2, _⟩ := h; omega
  | n + 1 => by
    have ih := R__law_draw_term Z n
    exact ok__law_draw_term (k := n + 1) Z ih (spD_len (fun ds r h => by obtain ⟨_, _, _, _, rfl, _⟩ := h; rfl)) (fun vs H Q E q => fits_of (E := E) (n := 12) (fun ds r h => dr_wp n ds r h) rfl vs H Q q)
theorem F__law_draw_term (Z : ModF K mg) : FnR P w K mg base CX0 13 (He.ga K "_law_draw_term") (spD K (relDr (12))) := R__law_draw_term Z 12
theorem R__law_term_nodes (Z : ModF K mg) : ∀ n, FnR P w K mg base CX0 (n + 1) (He.ga K "_law_term_nodes") (spD K (relLN (n)))
  | 0 => fun A outer s H us vs Q E hr e0 r hs => by obtain ⟨_, _, _, _, _, h, _⟩ := hs; obtain ⟨_, t, _, h, _⟩ := h; exact absurd h (by cases t <;> simp [Tm.T.dep])
  | n + 1 => by
    have ih := R__law_term_nodes Z n
    exact ok__law_term_nodes (k := n + 1) Z ih (spD_len (fun ds r h => by obtain ⟨_, _, rfl, _⟩ := h; rfl)) (fun vs H Q E q => fits_of (E := E) (n := 3) (fun ds r h => lnodes_wp n ds r h) rfl vs H Q q)
theorem F__law_term_nodes (Z : ModF K mg) : FnR P w K mg base CX0 14 (He.ga K "_law_term_nodes") (spD K (relLN (13))) := R__law_term_nodes Z 13
theorem R__law_listed (Z : ModF K mg) : ∀ n, FnR P w K mg base CX0 (n + 1) (He.ga K "_law_listed") (spD K (relLi (n)))
  | 0 => fun A outer s H us vs Q E hr e0 r hs => by obtain ⟨_, _, _, _, _, h, _⟩ := hs; obtain ⟨t, _, h, _⟩ := h; exact absurd h (by cases t <;> simp [Tm.T.dep])
  | n + 1 => by
    have ih := R__law_listed Z n
    exact ok__law_listed (k := n + 1) Z ih (spD_len (fun ds r h => by obtain ⟨_, rfl, _⟩ := h; rfl)) (fun vs H Q E q => fits_of (E := E) (n := 2) (fun ds r h => li_wp n ds r h) rfl vs H Q q)
theorem F__law_listed (Z : ModF K mg) : FnR P w K mg base CX0 14 (He.ga K "_law_listed") (spD K (relLi (13))) := R__law_listed Z 13
theorem F_law {fd : FuncData} (F : FunD K "law" "law" (defArgs s_law) (defBody s_law) (defScope s_law) [] [] (He.ga K "law") fd) (Z : ModF K mg) : FnOk P w K mg base CX0 65 (He.ga K "law") fd ["script"] (spD K relLaw) :=
  ok_law (k := 64) F Z ((F__law_cell (base := base) Z).mono (by decide)) ((F__law_digits (base := base) Z).mono (by decide)) ((F__law_draw_term (base := base) Z).mono (by decide)) ((F__law_listed (base := base) Z).mono (by decide)) ((F__law_same (base := base) Z).mono (by decide)) ((F__law_term_nodes (base := base) Z).mono (by decide)) ((F__law_term_text (base := base) Z).mono (by decide)) ((F_calls_of (base := base) Z).mono (by decide)) ((F_deeds_of (base := base) Z).mono (by decide)) ((F_is_body (base := base) Z).mono (by decide)) ((F_is_term (base := base) Z).mono (by decide)) ((F_node_total (base := base) Z).mono (by decide)) ((F_read_term (base := base) Z).mono (by decide)) ((F_things_of (base := base) Z).mono (by decide)) ((F_write_term (base := base) Z).mono (by decide))
  (spD_len (fun ds r h => by obtain ⟨_, rfl, _⟩ := h; rfl)) (fun vs H Q E q => fits_of (E := E) (n := 19) (fun ds r h => wp_W (law01_wp ds r h) (fun o ho => by obtain ⟨_, _, _, rfl⟩ := h; exact fits_noEx ho)) rfl vs H Q q)
end
def d0 : He.DefD := ⟨("is_row", none), "is_row", "is_row", defArgs s_is_row, defBody s_is_row, defScope s_is_row, [], []⟩
def d1 : He.DefD := ⟨("is_path", none), "is_path", "is_path", defArgs s_is_path, defBody s_is_path, defScope s_is_path, [], []⟩
def d2 : He.DefD := ⟨("is_function_name", none), "is_function_name", "is_function_name", defArgs s_is_function_name, defBody s_is_function_name, defScope s_is_function_name, [], []⟩
def d3 : He.DefD := ⟨("is_deed_name", none), "is_deed_name", "is_deed_name", defArgs s_is_deed_name, defBody s_is_deed_name, defScope s_is_deed_name, [], []⟩
def d4 : He.DefD := ⟨("node_bound", none), "node_bound", "node_bound", defArgs s_node_bound, defBody s_node_bound, defScope s_node_bound, [], []⟩
def d5 : He.DefD := ⟨("is_shaped", none), "is_shaped", "is_shaped", defArgs s_is_shaped, defBody s_is_shaped, defScope s_is_shaped, [], []⟩
def d6 : He.DefD := ⟨("is_term", none), "is_term", "is_term", defArgs s_is_term, defBody s_is_term, defScope s_is_term, [], []⟩
def d7 : He.DefD := ⟨("is_body", none), "is_body", "is_body", defArgs s_is_body, defBody s_is_body, defScope s_is_body, [], []⟩
def d8 : He.DefD := ⟨("nodes_of", none), "nodes_of", "nodes_of", defArgs s_nodes_of, defBody s_nodes_of, defScope s_nodes_of, [], []⟩
def d9 : He.DefD := ⟨("node_total", none), "node_total", "node_total", defArgs s_node_total, defBody s_node_total, defScope s_node_total, [], []⟩
def d10 : He.DefD := ⟨("calls_of", none), "calls_of", "calls_of", defArgs s_calls_of, defBody s_calls_of, defScope s_calls_of, [], []⟩
def d11 : He.DefD := ⟨("things_of", none), "things_of", "things_of", defArgs s_things_of, defBody s_things_of, defScope s_things_of, [], []⟩
def d12 : He.DefD := ⟨("deeds_of", none), "deeds_of", "deeds_of", defArgs s_deeds_of, defBody s_deeds_of, defScope s_deeds_of, [], []⟩
def d13 : He.DefD := ⟨("path_text", none), "path_text", "path_text", defArgs s_path_text, defBody s_path_text, defScope s_path_text, [], []⟩
def d14 : He.DefD := ⟨("write_term", none), "write_term", "write_term", defArgs s_write_term, defBody s_write_term, defScope s_write_term, [], []⟩
def d15 : He.DefD := ⟨("read_path", none), "read_path", "read_path", defArgs s_read_path, defBody s_read_path, defScope s_read_path, [], []⟩
def d16 : He.DefD := ⟨("word_end", none), "word_end", "word_end", defArgs s_word_end, defBody s_word_end, defScope s_word_end, [], []⟩
def d17 : He.DefD := ⟨("deed_at", none), "deed_at", "deed_at", defArgs s_deed_at, defBody s_deed_at, defScope s_deed_at, [], []⟩
def d18 : He.DefD := ⟨("term_at", none), "term_at", "term_at", defArgs s_term_at, defBody s_term_at, defScope s_term_at, [], []⟩
def d19 : He.DefD := ⟨("read_term", none), "read_term", "read_term", defArgs s_read_term, defBody s_read_term, defScope s_read_term, [], []⟩
def d20 : He.DefD := ⟨("_law_whole", none), "_law_whole", "_law_whole", defArgs s__law_whole, defBody s__law_whole, defScope s__law_whole, [], []⟩
def d21 : He.DefD := ⟨("_law_cell", none), "_law_cell", "_law_cell", defArgs s__law_cell, defBody s__law_cell, defScope s__law_cell, [], []⟩
def d22 : He.DefD := ⟨("_law_digits", none), "_law_digits", "_law_digits", defArgs s__law_digits, defBody s__law_digits, defScope s__law_digits, [], []⟩
def d23 : He.DefD := ⟨("_law_same", none), "_law_same", "_law_same", defArgs s__law_same, defBody s__law_same, defScope s__law_same, [], []⟩
def d24 : He.DefD := ⟨("_law_path_text", none), "_law_path_text", "_law_path_text", defArgs s__law_path_text, defBody s__law_path_text, defScope s__law_path_text, [], []⟩
def d25 : He.DefD := ⟨("_law_term_text", none), "_law_term_text", "_law_term_text", defArgs s__law_term_text, defBody s__law_term_text, defScope s__law_term_text, [], []⟩
def d26 : He.DefD := ⟨("_law_draw_term", none), "_law_draw_term", "_law_draw_term", defArgs s__law_draw_term, defBody s__law_draw_term, defScope s__law_draw_term, [], []⟩
def d27 : He.DefD := ⟨("_law_term_nodes", none), "_law_term_nodes", "_law_term_nodes", defArgs s__law_term_nodes, defBody s__law_term_nodes, defScope s__law_term_nodes, [], []⟩
def d28 : He.DefD := ⟨("_law_listed", none), "_law_listed", "_law_listed", defArgs s__law_listed, defBody s__law_listed, defScope s__law_listed, [], []⟩
def d29 : He.DefD := ⟨("law", none), "law", "law", defArgs s_law, defBody s_law, defScope s_law, [], []⟩
def fn : List He.DefD := [d0, d1, d2, d3, d4, d5, d6, d7, d8, d9, d10, d11, d12, d13, d14, d15, d16, d17, d18, d19, d20, d21, d22, d23, d24, d25, d26, d27, d28, d29]
def fa : List He.Fa := [.glo "_law_cell", .glo "_law_digits", .glo "_law_draw_term", .glo "_law_listed", .glo "_law_path_text", .glo "_law_same", .glo "_law_term_nodes", .glo "_law_term_text", .glo "_law_whole", .glo "calls_of", .glo "deed_at", .glo "deeds_of", .glo "is_body", .glo "is_deed_name", .glo "is_function_name", .glo "is_path", .glo "is_row", .glo "is_shaped", .glo "is_term", .glo "law", .glo "node_bound", .glo "node_total", .glo "nodes_of", .glo "path_text", .glo "read_path", .glo "read_term", .glo "term_at", .glo "things_of", .glo "word_end", .glo "write_term", .str "CAPITALS" "ABCDEFGHIJKLMNOPQRSTUVWXYZ", .int "MOST_NODES" (12), .str "SMALL" "abcdefghijklmnopqrstuvwxyz", .keep "_law_cell", .keep "_law_digits", .keep "_law_draw_term", .keep "_law_listed", .keep "_law_path_text", .keep "_law_same", .keep "_law_term_nodes", .keep "_law_term_text", .keep "_law_whole", .keep "calls_of", .keep "deed_at", .keep "deeds_of", .keep "is_body", .keep "is_deed_name", .keep "is_function_name", .keep "is_path", .keep "is_row", .keep "is_shaped", .keep "is_term", .keep "law", .keep "node_bound", .keep "node_total", .keep "nodes_of", .keep "path_text", .keep "read_path", .keep "read_term", .keep "term_at", .keep "things_of", .keep "word_end", .keep "write_term", .free "all", .free "bool", .free "int", .free "isinstance", .free "len", .free "list", .free "min", .free "range", .free "str", .free "tuple"]
def fx : List (PySem.W.Frag → Bool) := []
theorem modF {K : PySem.W.Frag} {h : Heap} {mg : Str → Option Value} (X : K.In h) (G : h.Ns mainGlobals mg) (c : SaysX fa fn fx K) : ModF K mg where
  g__law_cell := He.glo_ok X G (c.1.fact 0 (f := .glo "_law_cell") rfl)
  g__law_digits := He.glo_ok X G (c.1.fact 1 (f := .glo "_law_digits") rfl)
  g__law_draw_term := He.glo_ok X G (c.1.fact 2 (f := .glo "_law_draw_term") rfl)
  g__law_listed := He.glo_ok X G (c.1.fact 3 (f := .glo "_law_listed") rfl)
  g__law_path_text := He.glo_ok X G (c.1.fact 4 (f := .glo "_law_path_text") rfl)
  g__law_same := He.glo_ok X G (c.1.fact 5 (f := .glo "_law_same") rfl)
  g__law_term_nodes := He.glo_ok X G (c.1.fact 6 (f := .glo "_law_term_nodes") rfl)
  g__law_term_text := He.glo_ok X G (c.1.fact 7 (f := .glo "_law_term_text") rfl)
  g__law_whole := He.glo_ok X G (c.1.fact 8 (f := .glo "_law_whole") rfl)
  g_calls_of := He.glo_ok X G (c.1.fact 9 (f := .glo "calls_of") rfl)
  g_deed_at := He.glo_ok X G (c.1.fact 10 (f := .glo "deed_at") rfl)
  g_deeds_of := He.glo_ok X G (c.1.fact 11 (f := .glo "deeds_of") rfl)
  g_is_body := He.glo_ok X G (c.1.fact 12 (f := .glo "is_body") rfl)
  g_is_deed_name := He.glo_ok X G (c.1.fact 13 (f := .glo "is_deed_name") rfl)
  g_is_function_name := He.glo_ok X G (c.1.fact 14 (f := .glo "is_function_name") rfl)
  g_is_path := He.glo_ok X G (c.1.fact 15 (f := .glo "is_path") rfl)
  g_is_row := He.glo_ok X G (c.1.fact 16 (f := .glo "is_row") rfl)
  g_is_shaped := He.glo_ok X G (c.1.fact 17 (f := .glo "is_shaped") rfl)
  g_is_term := He.glo_ok X G (c.1.fact 18 (f := .glo "is_term") rfl)
  g_law := He.glo_ok X G (c.1.fact 19 (f := .glo "law") rfl)
  g_node_bound := He.glo_ok X G (c.1.fact 20 (f := .glo "node_bound") rfl)
  g_node_total := He.glo_ok X G (c.1.fact 21 (f := .glo "node_total") rfl)
  g_nodes_of := He.glo_ok X G (c.1.fact 22 (f := .glo "nodes_of") rfl)
  g_path_text := He.glo_ok X G (c.1.fact 23 (f := .glo "path_text") rfl)
  g_read_path := He.glo_ok X G (c.1.fact 24 (f := .glo "read_path") rfl)
  g_read_term := He.glo_ok X G (c.1.fact 25 (f := .glo "read_term") rfl)
  g_term_at := He.glo_ok X G (c.1.fact 26 (f := .glo "term_at") rfl)
  g_things_of := He.glo_ok X G (c.1.fact 27 (f := .glo "things_of") rfl)
  g_word_end := He.glo_ok X G (c.1.fact 28 (f := .glo "word_end") rfl)
  g_write_term := He.glo_ok X G (c.1.fact 29 (f := .glo "write_term") rfl)
  c_CAPITALS := He.str_ok X G (c.1.fact 30 (f := .str "CAPITALS" "ABCDEFGHIJKLMNOPQRSTUVWXYZ") rfl)
  c_MOST_NODES := He.int_ok X G (c.1.fact 31 (f := .int "MOST_NODES" (12)) rfl)
  c_SMALL := He.str_ok X G (c.1.fact 32 (f := .str "SMALL" "abcdefghijklmnopqrstuvwxyz") rfl)
  k__law_cell := He.keep_ok (c.1.fact 33 (f := .keep "_law_cell") rfl)
  k__law_digits := He.keep_ok (c.1.fact 34 (f := .keep "_law_digits") rfl)
  k__law_draw_term := He.keep_ok (c.1.fact 35 (f := .keep "_law_draw_term") rfl)
  k__law_listed := He.keep_ok (c.1.fact 36 (f := .keep "_law_listed") rfl)
  k__law_path_text := He.keep_ok (c.1.fact 37 (f := .keep "_law_path_text") rfl)
  k__law_same := He.keep_ok (c.1.fact 38 (f := .keep "_law_same") rfl)
  k__law_term_nodes := He.keep_ok (c.1.fact 39 (f := .keep "_law_term_nodes") rfl)
  k__law_term_text := He.keep_ok (c.1.fact 40 (f := .keep "_law_term_text") rfl)
  k__law_whole := He.keep_ok (c.1.fact 41 (f := .keep "_law_whole") rfl)
  k_calls_of := He.keep_ok (c.1.fact 42 (f := .keep "calls_of") rfl)
  k_deed_at := He.keep_ok (c.1.fact 43 (f := .keep "deed_at") rfl)
  k_deeds_of := He.keep_ok (c.1.fact 44 (f := .keep "deeds_of") rfl)
  k_is_body := He.keep_ok (c.1.fact 45 (f := .keep "is_body") rfl)
  k_is_deed_name := He.keep_ok (c.1.fact 46 (f := .keep "is_deed_name") rfl)
  k_is_function_name := He.keep_ok (c.1.fact 47 (f := .keep "is_function_name") rfl)
  k_is_path := He.keep_ok (c.1.fact 48 (f := .keep "is_path") rfl)
  k_is_row := He.keep_ok (c.1.fact 49 (f := .keep "is_row") rfl)
  k_is_shaped := He.keep_ok (c.1.fact 50 (f := .keep "is_shaped") rfl)
  k_is_term := He.keep_ok (c.1.fact 51 (f := .keep "is_term") rfl)
  k_law := He.keep_ok (c.1.fact 52 (f := .keep "law") rfl)
  k_node_bound := He.keep_ok (c.1.fact 53 (f := .keep "node_bound") rfl)
  k_node_total := He.keep_ok (c.1.fact 54 (f := .keep "node_total") rfl)
  k_nodes_of := He.keep_ok (c.1.fact 55 (f := .keep "nodes_of") rfl)
  k_path_text := He.keep_ok (c.1.fact 56 (f := .keep "path_text") rfl)
  k_read_path := He.keep_ok (c.1.fact 57 (f := .keep "read_path") rfl)
  k_read_term := He.keep_ok (c.1.fact 58 (f := .keep "read_term") rfl)
  k_term_at := He.keep_ok (c.1.fact 59 (f := .keep "term_at") rfl)
  k_things_of := He.keep_ok (c.1.fact 60 (f := .keep "things_of") rfl)
  k_word_end := He.keep_ok (c.1.fact 61 (f := .keep "word_end") rfl)
  k_write_term := He.keep_ok (c.1.fact 62 (f := .keep "write_term") rfl)
  f_all := He.free_ok X G (c.1.fact 63 (f := .free "all") rfl)
  f_bool := He.free_ok X G (c.1.fact 64 (f := .free "bool") rfl)
  f_int := He.free_ok X G (c.1.fact 65 (f := .free "int") rfl)
  f_isinstance := He.free_ok X G (c.1.fact 66 (f := .free "isinstance") rfl)
  f_len := He.free_ok X G (c.1.fact 67 (f := .free "len") rfl)
  f_list := He.free_ok X G (c.1.fact 68 (f := .free "list") rfl)
  f_min := He.free_ok X G (c.1.fact 69 (f := .free "min") rfl)
  f_range := He.free_ok X G (c.1.fact 70 (f := .free "range") rfl)
  f_str := He.free_ok X G (c.1.fact 71 (f := .free "str") rfl)
  f_tuple := He.free_ok X G (c.1.fact 72 (f := .free "tuple") rfl)
  d_is_row := c.1.def_ 0 (d := d0) rfl
  d_is_path := c.1.def_ 1 (d := d1) rfl
  d_is_function_name := c.1.def_ 2 (d := d2) rfl
  d_is_deed_name := c.1.def_ 3 (d := d3) rfl
  d_node_bound := c.1.def_ 4 (d := d4) rfl
  d_is_shaped := c.1.def_ 5 (d := d5) rfl
  d_is_term := c.1.def_ 6 (d := d6) rfl
  d_is_body := c.1.def_ 7 (d := d7) rfl
  d_nodes_of := c.1.def_ 8 (d := d8) rfl
  d_node_total := c.1.def_ 9 (d := d9) rfl
  d_calls_of := c.1.def_ 10 (d := d10) rfl
  d_things_of := c.1.def_ 11 (d := d11) rfl
  d_deeds_of := c.1.def_ 12 (d := d12) rfl
  d_path_text := c.1.def_ 13 (d := d13) rfl
  d_write_term := c.1.def_ 14 (d := d14) rfl
  d_read_path := c.1.def_ 15 (d := d15) rfl
  d_word_end := c.1.def_ 16 (d := d16) rfl
  d_deed_at := c.1.def_ 17 (d := d17) rfl
  d_term_at := c.1.def_ 18 (d := d18) rfl
  d_read_term := c.1.def_ 19 (d := d19) rfl
  d__law_whole := c.1.def_ 20 (d := d20) rfl
  d__law_cell := c.1.def_ 21 (d := d21) rfl
  d__law_digits := c.1.def_ 22 (d := d22) rfl
  d__law_same := c.1.def_ 23 (d := d23) rfl
  d__law_path_text := c.1.def_ 24 (d := d24) rfl
  d__law_term_text := c.1.def_ 25 (d := d25) rfl
  d__law_draw_term := c.1.def_ 26 (d := d26) rfl
  d__law_term_nodes := c.1.def_ 27 (d := d27) rfl
  d__law_listed := c.1.def_ 28 (d := d28) rfl
  d_law := c.1.def_ 29 (d := d29) rfl
abbrev RR : PySem.W.OpenRow := PySem.W.OpenLaw.row PySem.Challenge.rw_looporpile_k01_terms
abbrev hk : PySem.W.Hook := hookX 4 fa fn fx
def ob (s : PySem.W.SharedT) : AlX := obsXG 4 fa fn fx (HandSHeadRun.getT s)
theorem ob_eq (s : PySem.W.SharedT) : ob s = hk.obs s.abs := obsXG_eq (HandSHeadRun.getT_eq s)
theorem run (w : World) : HandSHeadRun.RunEq RR (PySem.W.view RR.prog [38]) hk ob 3000 ["is_row", "is_path", "SMALL", "CAPITALS", "MOST_NODES", "is_function_name", "is_deed_name", "node_bound", "is_shaped", "is_term", "is_body", "nodes_of", "node_total", "calls_of", "things_of", "deeds_of", "path_text", "write_term", "read_path", "word_end", "deed_at", "term_at", "read_term", "_law_whole", "_law_cell", "_law_digits", "_law_same", "_law_path_text", "_law_term_text", "_law_draw_term", "_law_term_nodes", "_law_listed"] w := by
  intro os
  kernel_rfl
theorem facts {P : Program} {w : World} {K : PySem.W.Frag} {h : Heap} {mg : Str → Option Value} {f : Addr} (X : K.In h) (G : h.Ns mainGlobals mg) (hfa : mg ("law" : Str) = some (.ref f)) (c : SaysX fa fn fx K) :
    ∃ fd : FuncData, (∀ (s : Shared) (v : Value), BindsTo s fd ⟨[v], []⟩ [("script", v)]) ∧ ∀ base : Heap, K.In base → base.Ns mainGlobals mg → FnOk P w K mg base CX0 65 f fd ["script"] (spD K relLaw) := by
  have Z := modF X G c
  obtain ⟨fd, F⟩ := Z.d_law
  have e := hfa.symm.trans Z.g_law
  cases e
  have b := FunD.bindsA (ps := ["script"]) F fun _ _ _ _ _ _ us hl => match us, hl with | [_], _ => rfl
  exact ⟨fd, fun s v => b s [v] rfl, fun base _ _ => F_law F Z⟩
end K01
open PySem PySem.W PySem.Calls PyProof.Rows
theorem PySem.Challenge.cw_looporpile_k01_terms_holds : PySem.Challenge.rw_looporpile_k01_terms.Holds := by
  w_on; o_law
  refine HandSHeadRun.head_any (r := OpenLaw.row PySem.Challenge.rw_looporpile_k01_terms) (q := view (OpenLaw.row PySem.Challenge.rw_looporpile_k01_terms).prog [38]) (H := K01.hk) (ob := K01.ob) (M := 3000) (loose := ["is_row", "is_path", "SMALL", "CAPITALS", "MOST_NODES", "is_function_name", "is_deed_name", "node_bound", "is_shaped", "is_term", "is_body", "nodes_of", "node_total", "calls_of", "things_of", "deeds_of", "path_text", "write_term", "read_path", "word_end", "deed_at", "term_at", "read_term", "_law_whole", "_law_cell", "_law_digits", "_law_same", "_law_path_text", "_law_term_text", "_law_draw_term", "_law_term_nodes", "_law_listed"]) (d := HandSHeadRun.topDef (OpenLaw.row PySem.Challenge.rw_looporpile_k01_terms).prog 38) (kwd := []) K01.ob_eq
    (by kernel_rfl) (fun s => by kernel_rfl) K01.run (by kernel_rfl) (by kernel_rfl) (by kernel_rfl) (by rfl) (by first | assumption | decide +kernel) (by decide +kernel) ⟨rfl, rfl, rfl, rfl, rfl, by decide +kernel⟩ ?hw ?hc
  case hw => w_witness2
  case hc =>
    refine L2.walk_ofE (l := PySem.Challenge.rw_looporpile_k01_terms) (n := 63) (k := 65) (x := "script") (CX := L2.CX0) rfl (by decide) (by kernel_rfl) ⟨rfl, by decide, by decide⟩ ?F (fun _ _ _ _ z => z)
    intro w mg fa h Y G0 hmg0
    obtain ⟨K, KX, c⟩ := Y
    have hmg : mg ("law" : PySem.Str) = some (.ref fa) := by
      have e : (HandSHeadRun.topDef (OpenLaw.row PySem.Challenge.rw_looporpile_k01_terms).prog 38).name = ("law" : PySem.Str) := by kernel_rfl
      rw [← e]
      exact hmg0
    obtain ⟨fd, hb, hF⟩ := K01.facts (P := (PySem.Challenge.rw_looporpile_k01_terms).prog) (w := w) KX G0 hmg c
    exact ⟨K, fd, G.spD K K01.relLaw, KX, hb, fun H a ns hl _ hS => G.law_end hS ⟨ns, rfl, hl, rfl⟩, hF⟩
#print axioms PySem.Challenge.cw_looporpile_k01_terms_holds

